import PyProof.Rows.All
import Wide.All
import OpenK.AllK
import Wide.FinOn
import HandS.ForMost
import HandS.ForExc
import HandS.Wide
import HandS.Style
import HandS.Codes
import HandS.RaiseMore
import HandS.IsInst
import HandS.SetFor
import HandS.Iter
import HandS.More
import KE.KIndexOf
import HandS.TupAny
import HandS.TupLe
import HandS.Conv
import HandS.Zip
import HandS.SortInts
import HandS.EndBits
import HandS.DictEq
import HandS.DeepEq
import OpenK.KEqL
import PyProof.ReprRoads
import KE.SortData
import HandS.List
import KE.KDictList
import KE.DataMinMax
import HandS.SetKeys
import HandS.Small
import KE.KRevSl
import HandS.Strs
import KE.GoesEnum
import KE.GoesMore
import HandS.ListItems
import HandS.DictComp
import HandS.Defaults
import PySem.Challenge.RW_moveafter_k45_final_blocks_of_friends
set_option Elab.async false
set_option linter.all false
set_option maxRecDepth 100000
set_option exponentiation.threshold 2000
/-! The plain machine: data D, objects AO, the tree E, S of a def's body, and what each means. Own work. -/
namespace Py
open PySem PySem.Spec PyProof.Rows L2

/-- data: tuples are values, lists, dicts and instances stand at addresses -/
inductive D where
  | non | bl (b : Bool) | int (i : Int) | str (s : Str) | tup (ds : List D) | ref (a : Addr)
  | fl (ds : List D)   -- a list that nobody changes
  | fd (ks : List Key) (vs : List D)   -- a dict that nobody changes
/-- what stands at an address; f..: read only -/
inductive AO where
  | lst (ds : List D)
  | dct (kvs : List (Key × D))
  | ins (c : Str) (fs : List (Str × D)) | exc (c : Str)
abbrev AH := Addr → Option AO
def put (A : AH) (a : Addr) (o : AO) : AH := fun b => if b = a then some o else A b
/-- without a -/
def rem (A : AH) (a : Addr) : AH := fun b => if b = a then none else A b
/-! dicts by pairs -/
def keyD : Key → D | .inl i => .int i | .inr s => .str s
def dkey : D → Option Key | .int i => some (.inl i) | .str s => some (.inr s) | _ => none
def lookK (kvs : List (Key × D)) (k : Key) : Option D := (kvs.find? fun p => decide (p.1 = k)).map (·.2)
def setK (kvs : List (Key × D)) (k : Key) (d : D) : List (Key × D) := if (kvs.any fun p => decide (p.1 = k)) = true then kvs.map fun p => if p.1 = k then (p.1, d) else p else kvs ++ [(k, d)]
def mergK (kvs more : List (Key × D)) : List (Key × D) := more.foldl (fun acc p => setK acc p.1 p.2) kvs
abbrev DSt := List (Option D)
abbrev Dk := D → AH → Prop
abbrev Dx := Str → AH → Prop
abbrev DE := DSt → AH → Dx → Dk → Prop
abbrev Cal := Str → List D → AH → Dx → Dk → Prop
structure DEnds where
  nx : DSt → AH → Prop
  rt : Dk
  bk : DSt → AH → Prop
  ct : DSt → AH → Prop
  ex : DSt → Str → AH → Prop
structure GEnv where
  cal : Cal
  con : Str → Option D
  sub : Str → Str → Bool

inductive BOp | add | sub | mul | fdiv | mod | pow
  deriving DecidableEq
inductive COp | eq | ne | lt | le | gt | ge | is_ | isn | in_ | nin
  deriving DecidableEq
inductive Cl | int | bool | str | tuple | list | dict | own (x : Str)
  deriving DecidableEq
/-- built-in functions and types that are called -/
inductive BF | len | int | str | repr | sorted | min | max | all | any | sum | tuple | list | dict | set
  deriving DecidableEq
/-- methods of built-in types -/
inductive MT | append | pop | index | extend | insert | remove | get | items | values | join | split | partition | count | upper | clear | strip | replace | setdefault
  deriving DecidableEq
inductive Tg | name (i : Nat) (x : Str) | tup (xs : List (Nat × Str))
mutual
inductive E where
  | var (i : Nat) (x : Str)
  | gv (x : Str)
  | cst (d : D)
  | bin (o : BOp) (a b : E)
  | neg (a : E)
  | cmp (o : COp) (a b : E)
  | chain (o o' : COp) (a b c : E)
  | bop (isAnd : Bool) (es : Es)
  | not (a : E)
  | ite (c a b : E)
  | tup (es : Es)
  | lst (es : Es)
  | idx (a i : E)
  | slc (a : E) (lo hi : Oe)
  | rev (a : E)
  | call (f : Str) (es : Es)
  | bif (f : BF) (es : Es)
  | mth (m : MT) (o : E) (es : Es)
  | isi (a : E) (c : Cl)
  | isis (a : E) (cs : List Cl)               -- isinstance(a, (C, D, ..))
  | lc (elt : E) (tg : Tg) (it : I) (cs : Es) (own : List (Str × Nat))
  | lrg (it : I) | trg (it : I)                 -- list(range ..), tuple(range ..)
  | dsp (ps : Ps)                            -- {k: v, ..}
  | dc (k v : E) (tg : Tg) (it : I) (cs : Es) (own : List (Str × Nat))
  | dc2 (k v : E) (tg : Tg) (it : I) (tg1 : Tg) (it1 : I) (own own1 : List (Str × Nat))   -- {k: v for .. in .. for .. in ..}
  | litems (a : E)                              -- list(a.items())
  | dnil                                        -- {}
  | callk (f : Str) (es : Es) (ns : List Str) (ws : Es) (dv : List D)
  | lset (a : E) | sset (a : E)                 -- len(set(a)), sorted(set(a))
inductive Es where | nil | cons (e : E) (es : Es)
inductive Ps where | nil | cons (k v : E) (ps : Ps)
inductive Oe where | no | yes (e : E)
inductive I where
  | seq (e : E)
  | rng1 (a : E)
  | rng2 (a b : E)
  | enum (e : E)
  | zip (a b : E)
  | items (e : E) | values (e : E)
end
mutual
inductive S where
  | asg (i : Nat) (x : Str) (e : E)
  | unp (xs : List (Nat × Str)) (e : E)
  | par (xs : List (Nat × Str)) (es : Es)
  | sto (o i e : E)
  | aug (i : Nat) (x : Str) (o : BOp) (e : E)
  | exp (e : E)
  | ret (e : E)
  | ret0
  | if_ (c : E) (a b : Ss)
  | whl (c : E) (b : Ss) (ws : List Nat)
  | for_ (tg : Tg) (it : I) (b : Ss) (ws : List Nat)
  | raise (c : Str)
  | frz (i : Nat) | wipe (ws : List Nat)        -- said of the plain state alone: no code
  | pass | brk | cnt
inductive Ss where | nil | cons (s : S) (ss : Ss)
end
def Es.of : List E → Es | [] => .nil | e :: r => .cons e (Es.of r)
def Ss.of : List S → Ss | [] => .nil | e :: r => .cons e (Ss.of r)

/-! ### reading the heap -/
def rd (A : AH) (a : Addr) : Option AO := A a
def getL (A : AH) (a : Addr) : Option (List D) := match A a with
  | some (.lst ds) => some ds
  | _ => none
/-- the pairs of a dict -/
def mapD (A : AH) : D → Option (List (Key × D))
  | .fd ks vs => some (ks.zip vs)
  | .ref a => match A a with
    | some (.dct kvs) => some kvs
    | _ => none
  | _ => none
/-- the items of a list or a tuple -/
def seqD (A : AH) : D → Option (List D)
  | .tup ds => some ds
  | .fl ds => some ds
  | .ref a => getL A a
  | _ => none
/-- the items of a list -/
def lstD (A : AH) : D → Option (List D)
  | .fl ds => some ds
  | .ref a => getL A a
  | _ => none
/-- a new list, a new dict: a value that nobody changes, or an object: the proof chooses -/
@[irreducible] def allocL (ds : List D) (A : AH) (Q : Dk) : Prop := Q (.fl ds) A ∨ ∀ p, A p = none → Q (.ref p) (put A p (.lst ds))
@[irreducible] def allocD (kvs : List (Key × D)) (A : AH) (Q : Dk) : Prop := Q (.fd (kvs.map (·.1)) (kvs.map (·.2))) A ∨ ∀ p, A p = none → Q (.ref p) (put A p (.dct kvs))
/-- a list that stands at L comes out -/
@[irreducible] def outL (L : Addr) (A : AH) (Q : Dk) : Prop := Q (.ref L) A ∨ ∃ ds, A L = some (.lst ds) ∧ Q (.fl ds) (rem A L)
@[irreducible] def outD (L : Addr) (A : AH) (Q : Dk) : Prop := Q (.ref L) A ∨ ∃ kvs, A L = some (.dct kvs) ∧ Q (.fd (kvs.map (·.1)) (kvs.map (·.2))) (rem A L)
section
variable {ds : List D} {kvs : List (Key × D)} {A : AH} {Q : Dk} {L : Addr}
theorem allocL_eq : allocL ds A Q = (Q (.fl ds) A ∨ ∀ p, A p = none → Q (.ref p) (put A p (.lst ds))) := by unfold allocL; rfl
theorem allocD_eq : allocD kvs A Q = (Q (.fd (kvs.map (·.1)) (kvs.map (·.2))) A ∨ ∀ p, A p = none → Q (.ref p) (put A p (.dct kvs))) := by unfold allocD; rfl
theorem outL_eq : outL L A Q = (Q (.ref L) A ∨ ∃ ds, A L = some (.lst ds) ∧ Q (.fl ds) (rem A L)) := by unfold outL; rfl
theorem outD_eq : outD L A Q = (Q (.ref L) A ∨ ∃ kvs, A L = some (.dct kvs) ∧ Q (.fd (kvs.map (·.1)) (kvs.map (·.2))) (rem A L)) := by unfold outD; rfl
theorem allocL.fz (h : Q (.fl ds) A) : allocL ds A Q := by rw [allocL_eq]; exact .inl h
theorem allocL.new (h : ∀ p, A p = none → Q (.ref p) (put A p (.lst ds))) : allocL ds A Q := by rw [allocL_eq]; exact .inr h
theorem allocD.fz (h : Q (.fd (kvs.map (·.1)) (kvs.map (·.2))) A) : allocD kvs A Q := by rw [allocD_eq]; exact .inl h
theorem allocD.new (h : ∀ p, A p = none → Q (.ref p) (put A p (.dct kvs))) : allocD kvs A Q := by rw [allocD_eq]; exact .inr h
end
def allSome {α : Type} : List (Option α) → Option (List α)
  | [] => some []
  | some x :: r => (allSome r).map (x :: ·)
  | none :: _ => none
def keyP : Key → PyData | .inl i => .int i | .inr s => .str s
/-- the data that stands in a value: plain at depth n -/
def snap (A : AH) : Nat → D → Option PyData
  | _, .non => some .none
  | _, .bl b => some (.bool b)
  | _, .int i => some (.int i)
  | _, .str s => some (.str s)
  | 0, _ => none
  | n + 1, .tup ds => (allSome (ds.map (snap A n))).map .tuple
  | n + 1, .fl ds => (allSome (ds.map (snap A n))).map .list
  | n + 1, .ref a => match getL A a with
    | some ds => (allSome (ds.map (snap A n))).map .list
    | none => none
  | _ + 1, .fd _ _ => none
/-- the same, dicts among it: what repr reads -/
def snapR (A : AH) : Nat → D → Option PyData
  | _, .non => some .none
  | _, .bl b => some (.bool b)
  | _, .int i => some (.int i)
  | _, .str s => some (.str s)
  | 0, _ => none
  | n + 1, .tup ds => (allSome (ds.map (snapR A n))).map .tuple
  | n + 1, .fl ds => (allSome (ds.map (snapR A n))).map .list
  | n + 1, .fd ks ds => (allSome (ds.map (snapR A n))).map fun ps => .dict ((ks.map keyP).zip ps)
  | n + 1, .ref a => match A a with
    | some (.lst ds) => (allSome (ds.map (snapR A n))).map .list
    | some (.dct kvs) => (allSome ((kvs.map (·.2)).map (snapR A n))).map fun ps => .dict (((kvs.map (·.1)).map keyP).zip ps)
    | _ => none
def truD (A : AH) : D → Option Bool
  | .non => some false
  | .bl b => some b
  | .int i => some (i != 0)
  | .str s => if s.length ≤ sizeLine then some ((s.length : Int) != 0) else none
  | .tup ds => some (!ds.isEmpty)
  | .fl ds => some (!ds.isEmpty)
  | .fd _ _ => none
  | .ref a => match A a with
    | some (.lst ds) => some (!ds.isEmpty)
    | some (.dct ds) => some (!ds.isEmpty)
    | _ => none

/-! ### operators -/
def CPowW (i j : Int) : Prop := 0 ≤ j ∧ j ≤ 1000 ∧ i.natAbs.log2 < 10000
def rBin (o : BOp) (x y : D) (A : AH) (Q : Dk) : Prop := match o, x, y with
  | .add, .int i, .int j => Q (.int (i + j)) A
  | .add, .str s, .str t => s.length + t.length ≤ sizeLine ∧ Q (.str (s ++ t)) A
  | .add, .tup xs, .tup ys => xs.length + ys.length ≤ sizeLine ∧ Q (.tup (xs ++ ys)) A
  | .add, x, y => match lstD A x, lstD A y with
    | some xs, some ys => xs.length + ys.length ≤ sizeLine ∧ allocL (xs ++ ys) A Q
    | _, _ => False
  | .sub, .int i, .int j => Q (.int (i - j)) A
  | .mul, .int i, .int j => CMulW i j ∧ Q (.int (i * j)) A
  | .mul, .ref a, .int k => match rd A a with
    | some (.lst xs) => 0 ≤ k ∧ k < 1000 ∧ xs.length * k.toNat ≤ sizeLine ∧ allocL (List.replicate k.toNat xs).flatten A Q
    | _ => False
  | .fdiv, .int i, .int j => CDivW i j ∧ Q (.int (i / j)) A
  | .mod, .int i, .int j => 0 < j ∧ Q (.int (i % j)) A
  | .pow, .int i, .int j => CPowW i j ∧ Q (.int (i ^ j.toNat)) A
  | _, _, _ => False
/-- += and its like: not on lists -/
def rAug (o : BOp) (x y : D) (A : AH) (Q : Dk) : Prop := match x with
  | .ref _ => False
  | .fl _ => False
  | _ => rBin o x y A Q
def isScal : D → Bool
  | .fd _ _ => false
  | .tup _ => false
  | .ref _ => false
  | .fl _ => false
  | _ => true
/-- what == says of two values -/
def eqD (A : AH) : D → D → Option Bool
  | .int i, .int j => some (decide (i = j))
  | .str i, .str j => some (decide (i = j))
  | x, y => match snap A 60 x, snap A 60 y with
    | some p, some q => if SeqAt.shaped p && SeqAt.shaped q then some (PyData.eqv p q) else none
    | _, _ => none
def flatD : D → Bool
  | .non => true | .bl _ => true | .int _ => true | .str _ => true | _ => false
def eqF : D → D → Bool
  | .non, .non => true
  | .bl a, .bl b => a == b
  | .bl a, .int j => (if a then 1 else 0) == j
  | .int i, .bl b => i == (if b then 1 else 0)
  | .int i, .int j => i == j
  | .str x, .str y => x == y
  | _, _ => false
def inF (x : D) (ds : List D) : Bool := ds.any fun y => eqF y x
def intsD : List D → Option (List Int)
  | [] => some []
  | .int i :: r => (intsD r).map (i :: ·)
  | _ :: _ => none
/-- tuples of whole numbers -/
def tupsL : List D → Option (List (List Int))
  | [] => some []
  | .tup es :: r => match intsD es, tupsL r with
    | some l, some ls => some (l :: ls)
    | _, _ => none
  | _ :: _ => none
def inlK : List Key → Option (List Int)
  | [] => some []
  | .inl i :: r => (inlK r).map (i :: ·)
  | _ :: _ => none
/-- a dict of whole numbers to tuples of whole numbers: its keys, its rows -/
def tabD : D → Option (List Int × List (List Int))
  | .fd ks vs => match inlK ks, tupsL vs with
    | some is, some rs => if is.Nodup ∧ rs.length = is.length then some (is, rs) else none
    | _, _ => none
  | _ => none
/-- such dicts, all with these keys -/
def tabsD (is : List Int) : List D → Option (List (List (List Int)))
  | [] => some []
  | d :: r => match tabD d, tabsD is r with
    | some p, some t => if p.1 = is then some (p.2 :: t) else none
    | _, _ => none
/-- the first place -/
def idxT (r : List (List Int)) (rs : List (List (List Int))) : Nat := @List.idxOf _ instBEqOfDecidableEq r rs
def rCmp (o : COp) (x y : D) (A : AH) (Q : Dk) : Prop := match o with
  | .eq => match eqD A x y with | some b => Q (.bl b) A | none => False
  | .ne => match eqD A x y with | some b => Q (.bl (!b)) A | none => False
  | .lt => match x, y with | .int i, .int j => Q (.bl (decide (i < j))) A | _, _ => False
  | .le => match x, y with | .int i, .int j => Q (.bl (decide (i ≤ j))) A | _, _ => False
  | .gt => match x, y with | .int i, .int j => Q (.bl (decide (j < i))) A | _, _ => False
  | .ge => match x, y with | .int i, .int j => Q (.bl (decide (j ≤ i))) A | _, _ => False
  | .is_ => match y with | .non => Q (.bl (match x with | .non => true | _ => false)) A | .bl b => (match x with | .bl a => Q (.bl (decide (a = b))) A | _ => False) | _ => False
  | .isn => match y with | .non => Q (.bl (match x with | .non => false | _ => true)) A | .bl b => (match x with | .bl a => Q (.bl (!decide (a = b))) A | _ => False) | _ => False
  | .in_ => match mapD A y with
    | some kvs => match dkey x with
      | some k => Q (.bl (lookK kvs k).isSome) A
      | none => False
    | none => match seqD A y with
      | some ds => match tabD x with
        | some p => match tabsD p.1 ds with
          | some rs => Q (.bl (decide (p.2 ∈ rs))) A
          | none => False
        | none => flatD x = true ∧ ds.all flatD = true ∧ Q (.bl (inF x ds)) A
      | none => False
  | .nin => match mapD A y with
    | some kvs => match dkey x with
      | some k => Q (.bl (!(lookK kvs k).isSome)) A
      | none => False
    | none => match seqD A y with
      | some ds => match tabD x with
        | some p => match tabsD p.1 ds with
          | some rs => Q (.bl (!decide (p.2 ∈ rs))) A
          | none => False
        | none => flatD x = true ∧ ds.all flatD = true ∧ Q (.bl (!inF x ds)) A
      | none => False
/-- the place of an index, of any sign -/
def ixD (n : Nat) (i : Int) : Option Nat := ixN n i
def rIdx (x i : D) (A : AH) (Q : Dk) : Prop := match mapD A x with
  | some kvs => match dkey i with
    | some k => match lookK kvs k with
      | some d => Q d A
      | none => False
    | none => False
  | none => match i with
    | .int k => match seqD A x with
      | some ds => match atI ds k with
        | some d => Q d A
        | none => False
      | none => False
    | _ => False
/-- lo and hi of a slice -/
def cutD {α : Type} (xs : List α) (lo hi : Option Int) : List α := (xs.drop (HT.sIx xs.length 0 lo)).take (HT.sIx xs.length xs.length hi - HT.sIx xs.length 0 lo)
def rSlc (x : D) (lo hi : Option Int) (A : AH) (Q : Dk) : Prop := match x with
  | .tup ds => Q (.tup (cutD ds lo hi)) A
  | .fl ds => allocL (cutD ds lo hi) A Q
  | .ref a => match getL A a with
    | some ds => allocL (cutD ds lo hi) A Q
    | none => False
  | _ => False
def rRev (x : D) (A : AH) (Q : Dk) : Prop := match x with
  | .tup ds => Q (.tup ds.reverse) A
  | .fl ds => allocL ds.reverse A Q
  | .ref a => match getL A a with
    | some ds => allocL ds.reverse A Q
    | none => False
  | _ => False
def boolsD : List D → Option (List Bool)
  | [] => some []
  | .bl i :: r => (boolsD r).map (i :: ·)
  | _ :: _ => none
def sortI (ns : List Int) : List Int := ns.mergeSort fun a b => decide (a ≤ b)
def maxI : List Int → Int | [] => 0 | x :: r => r.foldl max x
def minI : List Int → Int | [] => 0 | x :: r => r.foldl min x
/-- rows in ascending order -/
def sortR (ls : List (List Int)) : List (List Int) := ls.mergeSort fun a b => decide (a ≤ b)
/-- lists of whole numbers; tuples of whole numbers, none empty -/
def rowsD : List D → Option (List (List Int))
  | [] => some []
  | .fl es :: r => match intsD es, rowsD r with
    | some l, some ls => some (l :: ls)
    | _, _ => none
  | _ :: _ => none
def tupsD : List D → Option (List (List Int))
  | [] => some []
  | .tup es :: r => match intsD es, tupsD r with
    | some l, some ls => if l = [] then none else some (l :: ls)
    | _, _ => none
  | _ :: _ => none
/-- each once, as first met -/
def ddI (ns : List Int) : List Int := ns.foldl PyProof.Rows.step_dedup []
/-- a list of pairs, keys ahead -/
def pairsD : List D → Option (List (Key × D))
  | [] => some []
  | .tup [x, d] :: r => match dkey x with
    | some k => (pairsD r).map ((k, d) :: ·)
    | none => none
  | _ :: _ => none
def rB (f : BF) (xs : List D) (A : AH) (Q : Dk) : Prop := match f, xs with
  | .len, [.str s] => s.length ≤ sizeLine ∧ Q (.int s.length) A
  | .len, [.tup ds] => Q (.int ds.length) A
  | .len, [.fl ds] => Q (.int ds.length) A
  | .len, [.fd ks _] => Q (.int ks.length) A
  | .len, [.ref a] => match rd A a with
    | some (.lst ds) => Q (.int ds.length) A
    | some (.dct kvs) => Q (.int kvs.length) A
    | _ => False
  | .int, [.int i] => Q (.int i) A
  | .int, [.bl b] => Q (.int (if b then 1 else 0)) A
  | .str, [.int i] => i.natAbs.log2 < 1920 ∧ Q (.str (toString i)) A
  | .repr, [.int i] => i.natAbs.log2 < 1920 ∧ Q (.str (toString i)) A
  | .repr, [x] => match snapR A 60 x with
    | some p => p.showable = true ∧ p.depth ≤ 64 ∧ p.shown.length ≤ sizeLine ∧ Q (.str p.shown) A
    | none => False
  | .max, [.int i, .int j] => Q (.int (if j > i then j else i)) A
  | .min, [.int i, .int j] => Q (.int (if j < i then j else i)) A
  | .max, [x] => match (seqD A x).bind intsD with
    | some ns => 0 < ns.length ∧ Q (.int (maxI ns)) A
    | none => False
  | .min, [x] => match (lstD A x).bind intsD with
    | some ns => 0 < ns.length ∧ Q (.int (minI ns)) A
    | none => False
  | .sorted, [x] => match mapD A x with
    | some kvs => match intsD (kvs.map fun p => keyD p.1) with
      | some ns => ns.length < 64 ∧ allocL ((sortI ns).map .int) A Q
      | none => False
    | none => match (seqD A x).bind intsD with
      | some ns => allocL ((sortI ns).map .int) A Q
      | none => match (lstD A x).bind rowsD with
        | some ls => allocL ((sortR ls).map fun l => .fl (l.map .int)) A Q
        | none => match (lstD A x).bind tupsD with
          | some ls => allocL ((sortR ls).map fun l => .tup (l.map .int)) A Q
          | none => False
  | .all, [x] => match (lstD A x).bind boolsD with
    | some bs => Q (.bl (bs.all id)) A
    | none => False
  | .any, [x] => match (lstD A x).bind boolsD with
    | some bs => Q (.bl (bs.any id)) A
    | none => False
  | .sum, [x] => match (lstD A x).bind intsD with
    | some ns => Q (.int ns.sum) A
    | none => False
  | .tuple, [.tup ds] => Q (.tup ds) A
  | .tuple, [x] => match lstD A x with
    | some ds => Q (.tup ds) A
    | none => match mapD A x with
      | some kvs => Q (.tup (kvs.map fun p => keyD p.1)) A
      | none => False
  | .dict, [x] => match mapD A x with
    | some kvs => allocD kvs A Q
    | none => match (lstD A x).bind pairsD with
      | some kvs => kvs.length ≤ 4000 ∧ allocD (mergK [] kvs) A Q
      | none => False
  | .list, [x] => match mapD A x with
    | some kvs => allocL (kvs.map fun p => keyD p.1) A Q
    | none => match seqD A x with
      | some ds => allocL ds A Q
      | none => False
  | _, _ => False
/-- methods of a list -/
def rML (m : MT) (a : Addr) (ds : List D) (xs : List D) (A : AH) (Q : Dk) : Prop := match m, xs with
  | .append, [d] => ds.length < sizeLine ∧ Q .non (put A a (.lst (ds ++ [d])))
  | .pop, [] => match ds[ds.length - 1]? with
    | some d => Q d (put A a (.lst ds.dropLast))
    | none => False
  | .pop, [.int i] => 0 ≤ i ∧ i < 2 ^ 62 ∧ match ds[i.toNat]? with
    | some d => Q d (put A a (.lst (ds.eraseIdx i.toNat)))
    | none => False
  | .extend, [.tup es] => ds.length + es.length ≤ sizeLine ∧ Q .non (put A a (.lst (ds ++ es)))
  | .extend, [.fl es] => ds.length + es.length ≤ sizeLine ∧ Q .non (put A a (.lst (ds ++ es)))
  | .extend, [.ref b] => match lstD A (.ref b) with
    | some es => ds.length + es.length ≤ sizeLine ∧ Q .non (put A a (.lst (ds ++ es)))
    | none => False
  | .insert, [.int i, d] => ds.length < sizeLine ∧ 0 ≤ i ∧ i < 2 ^ 62 ∧ Q .non (put A a (.lst (ds.take i.toNat ++ [d] ++ ds.drop i.toNat)))
  | .index, [.int k] => match intsD ds with
    | some ns => k ∈ ns ∧ Q (.int (ns.idxOf k : Nat)) A
    | none => False
  | .index, [.fd ks vs] => match tabD (.fd ks vs) with
    | some p => match tabsD p.1 ds with
      | some rs => p.2 ∈ rs ∧ Q (.int (idxT p.2 rs : Nat)) A
      | none => False
    | none => False
  | .remove, [.int k] => match intsD ds with
    | some ns => k ∈ ns ∧ Q .non (put A a (.lst (ds.eraseIdx (ns.idxOf k))))
    | none => False
  | .count, [.int k] => match intsD ds with
    | some ns => Q (.int (ns.count k : Nat)) A
    | none => False
  | _, _ => False
/-- methods of a list that nobody changes -/
def rMF (m : MT) (ds : List D) (xs : List D) (A : AH) (Q : Dk) : Prop := match m, xs with
  | .index, [.int k] => match intsD ds with
    | some ns => k ∈ ns ∧ Q (.int (ns.idxOf k : Nat)) A
    | none => False
  | .count, [.int k] => match intsD ds with
    | some ns => Q (.int (ns.count k : Nat)) A
    | none => False
  | _, _ => False
/-- methods of a tuple -/
def rMT (m : MT) (ds : List D) (xs : List D) (A : AH) (Q : Dk) : Prop := match m, xs with
  | .index, [.int k] => match intsD ds with
    | some ns => k ∈ ns ∧ Q (.int (ns.idxOf k : Nat)) A
    | none => False
  | _, _ => False
/-- methods of a dict that is read -/
def rMD (m : MT) (kvs : List (Key × D)) (xs : List D) (A : AH) (Q : Dk) : Prop := match m, xs with
  | .get, [x] => match dkey x with
    | some k => Q ((lookK kvs k).getD .non) A
    | none => False
  | .get, [x, d] => match dkey x with
    | some k => Q ((lookK kvs k).getD d) A
    | none => False
  | _, _ => False
/-- methods of a dict that change it -/
def rMDx (m : MT) (a : Addr) (kvs : List (Key × D)) (xs : List D) (A : AH) (Q : Dk) : Prop := match m, xs with
  | .setdefault, [x, d] => match dkey x with
    | some k => kvs.length < sizeLine ∧ match lookK kvs k with
      | some v => Q v A
      | none => Q d (put A a (.dct (setK kvs k d)))
    | none => False
  | _, _ => False
def dictX : MT → Bool | .setdefault => true | _ => false
def rMS (m : MT) (s : Str) (xs : List D) (A : AH) (Q : Dk) : Prop := False
inductive RK | list | tuple | str | dict
/-- the kind of a receiver -/
def recv (A : AH) : D → Option RK
  | .tup _ => some .tuple
  | .str _ => some .str
  | .fl _ => some .list
  | .fd _ _ => some .dict
  | .ref a => match A a with
    | some (.lst _) => some .list
    | some (.dct _) => some .dict
    | _ => none
  | _ => none
def listM : MT → Bool | .append => true | .pop => true | .extend => true | .insert => true | .index => true | .remove => true | .count => true | _ => false
def tupM : MT → Bool | .index => true | _ => false
def dictM : MT → Bool | .get => true | .setdefault => true | _ => false
def strM : MT → Bool | _ => false
def okRK : RK → MT → Bool | .list, m => listM m | .tuple, m => tupM m | .str, m => strM m | .dict, m => dictM m
def rM (k : RK) (m : MT) (o : D) (xs : List D) (A : AH) (Q : Dk) : Prop := match k, o with
  | .list, .ref a => match rd A a with
    | some (.lst ds) => rML m a ds xs A Q
    | _ => False
  | .list, .fl ds => rMF m ds xs A Q
  | .dict, x => match dictX m with
    | true => match x with
      | .ref a => match rd A a with
        | some (.dct kvs) => rMDx m a kvs xs A Q
        | _ => False
      | _ => False
    | false => match mapD A x with
      | some kvs => rMD m kvs xs A Q
      | none => False
  | .tuple, .tup ds => rMT m ds xs A Q
  | .str, .str s => rMS m s xs A Q
  | _, _ => False
/-- is it of the class -/
def isiD (sub : Str → Str → Bool) (A : AH) (d : D) (c : Cl) : Option Bool := match d, c with
  | .non, _ => some false
  | .bl _, c => some (decide (c = .bool) || decide (c = .int))
  | .int _, c => some (decide (c = .int))
  | .str _, c => some (decide (c = .str))
  | .tup _, c => some (decide (c = .tuple))
  | .fl _, c => some (decide (c = .list))
  | .fd _ _, c => some (decide (c = .dict))
  | .ref a, c => match A a with
    | some (.lst _) => some (decide (c = .list))
    | some (.dct _) => some (decide (c = .dict))
    | _ => none

/-- is it of one of the classes -/
def isisD (sub : Str → Str → Bool) (A : AH) (d : D) : List Cl → Option Bool
  | [] => some false
  | c :: cs => match isiD sub A d c, isisD sub A d cs with
    | some a, some b => some (a || b)
    | _, _ => none

/-! ### targets, loops -/
def bindT (tg : Tg) (d : D) (σ : DSt) (k : DSt → Prop) : Prop := match tg with
  | .name i _ => k (σ.set i (some d))
  | .tup xs => match d with
    | .tup ds => ds.length = xs.length ∧ k ((xs.zip ds).foldl (fun σ p => σ.set p.1.1 (some p.2)) σ)
    | _ => False
abbrev Gd := List (Addr × AO)
def holds (G : Gd) (A : AH) : Prop := ∀ p ∈ G, A p.1 = some p.2
/-- the same ends but the next -/
def DEnds.then_ (Z : DEnds) (f : DSt → AH → Prop) : DEnds := ⟨f, Z.rt, Z.bk, Z.ct, Z.ex⟩
/-- within a loop -/
def DEnds.loop (Z : DEnds) (f : DSt → AH → Prop) : DEnds := ⟨f, Z.rt, Z.nx, f, Z.ex⟩
/-- some slots are no more asked of -/
def wipN (σ : DSt) (ws : List Nat) : DSt := ws.foldl (fun σ i => σ.set i none) σ
def forR0 (G : Gd) (tg : Tg) (ws : List Nat) (tb : DEnds → DSt → AH → Prop) (Z : DEnds) : List D → DSt → AH → Prop
  | [], σ, A => holds G A ∧ Z.nx (wipN σ ws) A
  | d :: ds, σ, A => holds G A ∧ bindT tg d (wipN σ ws) fun σ' => tb (Z.loop (forR0 G tg ws tb Z ds)) σ' A
/-- the loop; it stays as it is until a law of it is named -/
@[irreducible] def forR : Gd → Tg → List Nat → (DEnds → DSt → AH → Prop) → DEnds → List D → DSt → AH → Prop := forR0
def whlR0 (c : DSt → AH → Dx → (Bool → AH → Prop) → Prop) (ws : List Nat) (tb : DEnds → DSt → AH → Prop) (Z : DEnds) : Nat → DSt → AH → Prop
  | 0, _, _ => False
  | n + 1, σ, A => c (wipN σ ws) A (Z.ex (wipN σ ws)) fun b A1 => match b with
    | true => tb (Z.loop (whlR0 c ws tb Z n)) (wipN σ ws) A1
    | false => Z.nx (wipN σ ws) A1
@[irreducible] def whlR : (DSt → AH → Dx → (Bool → AH → Prop) → Prop) → List Nat → (DEnds → DSt → AH → Prop) → DEnds → Nat → DSt → AH → Prop := whlR0
def noX : Dx := fun _ _ => False
def wipeD (σ : DSt) : List (Str × Nat) → DSt
  | [] => σ
  | v :: vs => (wipeD σ vs).set v.2 none
def lcR0 (G : Gd) (tg : Tg) (tt : DSt → AH → (Bool → AH → Prop) → Prop) (te : DSt → AH → Dk → Prop) (σ : DSt) (L : Addr) (Q : AH → Prop) : List D → AH → Prop
  | [], A => holds G A ∧ Q A
  | d :: ds, A => holds G A ∧ bindT tg d σ fun σ' => tt σ' A fun b A1 => match b with
    | true => te σ' A1 fun y A2 => match rd A2 L with
      | some (.lst acc) => acc.length < sizeLine ∧ lcR0 G tg tt te σ L Q ds (put A2 L (.lst (acc ++ [y])))
      | _ => False
    | false => lcR0 G tg tt te σ L Q ds A1
@[irreducible] def lcR : Gd → Tg → (DSt → AH → (Bool → AH → Prop) → Prop) → (DSt → AH → Dk → Prop) → DSt → Addr → (AH → Prop) → List D → AH → Prop := lcR0
/-- a dict comprehension's loop -/
def dcR0 (G : Gd) (tg : Tg) (tt : DSt → AH → (Bool → AH → Prop) → Prop) (tk te : DSt → AH → Dk → Prop) (σ : DSt) (L : Addr) (Q : AH → Prop) : List D → AH → Prop
  | [], A => holds G A ∧ Q A
  | d :: ds, A => holds G A ∧ bindT tg d σ fun σ' => tt σ' A fun b A1 => match b with
    | true => tk σ' A1 fun y A2 => te σ' A2 fun z A3 => match rd A3 L, dkey y with
      | some (.dct acc), some k => acc.length < sizeLine ∧ dcR0 G tg tt tk te σ L Q ds (put A3 L (.dct (setK acc k z)))
      | _, _ => False
    | false => dcR0 G tg tt tk te σ L Q ds A1
@[irreducible] def dcR : Gd → Tg → (DSt → AH → (Bool → AH → Prop) → Prop) → (DSt → AH → Dk → Prop) → (DSt → AH → Dk → Prop) → DSt → Addr → (AH → Prop) → List D → AH → Prop := dcR0
section
variable {G : Gd} {tg : Tg} {ws : List Nat} {tb : DEnds → DSt → AH → Prop} {Z : DEnds} {σ : DSt} {A : AH} {d : D} {ds : List D} {n : Nat} {c : DSt → AH → Dx → (Bool → AH → Prop) → Prop}
  {tt : DSt → AH → (Bool → AH → Prop) → Prop} {tk te : DSt → AH → Dk → Prop} {L : Addr} {Q : AH → Prop}
theorem forR_eq : forR = forR0 := by unfold forR; rfl
theorem whlR_eq : whlR = whlR0 := by unfold whlR; rfl
theorem lcR_eq : lcR = lcR0 := by unfold lcR; rfl
theorem dcR_eq : dcR = dcR0 := by unfold dcR; rfl
theorem forR_nil : forR G tg ws tb Z [] σ A = (holds G A ∧ Z.nx (wipN σ ws) A) := by rw [forR_eq]; rfl
theorem forR_cons : forR G tg ws tb Z (d :: ds) σ A = (holds G A ∧ bindT tg d (wipN σ ws) fun σ' => tb (Z.loop (forR G tg ws tb Z ds)) σ' A) := by rw [forR_eq]; rfl
theorem whlR_zero : whlR c ws tb Z 0 σ A = False := by rw [whlR_eq]; rfl
theorem whlR_succ : whlR c ws tb Z (n + 1) σ A = (c (wipN σ ws) A (Z.ex (wipN σ ws)) fun b A1 => match b with
    | true => tb (Z.loop (whlR c ws tb Z n)) (wipN σ ws) A1
    | false => Z.nx (wipN σ ws) A1) := by rw [whlR_eq]; rfl
theorem lcR_nil : lcR G tg tt te σ L Q [] A = (holds G A ∧ Q A) := by rw [lcR_eq]; rfl
theorem lcR_cons : lcR G tg tt te σ L Q (d :: ds) A = (holds G A ∧ bindT tg d σ fun σ' => tt σ' A fun b A1 => match b with
    | true => te σ' A1 fun y A2 => match rd A2 L with
      | some (.lst acc) => acc.length < sizeLine ∧ lcR G tg tt te σ L Q ds (put A2 L (.lst (acc ++ [y])))
      | _ => False
    | false => lcR G tg tt te σ L Q ds A1) := by rw [lcR_eq]; rfl
theorem dcR_nil : dcR G tg tt tk te σ L Q [] A = (holds G A ∧ Q A) := by rw [dcR_eq]; rfl
theorem dcR_cons : dcR G tg tt tk te σ L Q (d :: ds) A = (holds G A ∧ bindT tg d σ fun σ' => tt σ' A fun b A1 => match b with
    | true => tk σ' A1 fun y A2 => te σ' A2 fun z A3 => match rd A3 L, dkey y with
      | some (.dct acc), some k => acc.length < sizeLine ∧ dcR G tg tt tk te σ L Q ds (put A3 L (.dct (setK acc k z)))
      | _, _ => False
    | false => dcR G tg tt tk te σ L Q ds A1) := by rw [dcR_eq]; rfl
end
/-- a dict comprehension of two clauses -/
def dc2R0 (G : Gd) (tg : Tg) (ti : DSt → AH → (List D → Gd → AH → Prop) → Prop) (tg1 : Tg) (own1 : List (Str × Nat)) (tk te : DSt → AH → Dk → Prop) (σ : DSt) (L : Addr) (Q : AH → Prop) : List D → AH → Prop
  | [], A => holds G A ∧ Q A
  | d :: ds, A => holds G A ∧ bindT tg d σ fun σ' => ti σ' A fun es G1 A1 => dcR G1 tg1 (fun _ A R => R true A) tk te (wipeD σ' own1) L (fun A2 => dc2R0 G tg ti tg1 own1 tk te σ L Q ds A2) es A1
@[irreducible] def dc2R : Gd → Tg → (DSt → AH → (List D → Gd → AH → Prop) → Prop) → Tg → List (Str × Nat) → (DSt → AH → Dk → Prop) → (DSt → AH → Dk → Prop) → DSt → Addr → (AH → Prop) → List D → AH → Prop := dc2R0
section
variable {G : Gd} {tg tg1 : Tg} {own1 : List (Str × Nat)} {σ : DSt} {A : AH} {d : D} {ds : List D} {ti : DSt → AH → (List D → Gd → AH → Prop) → Prop} {tk te : DSt → AH → Dk → Prop} {L : Addr} {Q : AH → Prop}
theorem dc2R_eq : dc2R = dc2R0 := by unfold dc2R; rfl
theorem dc2R_nil : dc2R G tg ti tg1 own1 tk te σ L Q [] A = (holds G A ∧ Q A) := by rw [dc2R_eq]; rfl
theorem dc2R_cons : dc2R G tg ti tg1 own1 tk te σ L Q (d :: ds) A = (holds G A ∧ bindT tg d σ fun σ' => ti σ' A fun es G1 A1 => dcR G1 tg1 (fun _ A R => R true A) tk te (wipeD σ' own1) L (fun A2 => dc2R G tg ti tg1 own1 tk te σ L Q ds A2) es A1) := by rw [dc2R_eq]; rfl
end
def rngD (lo : Int) (n : Nat) : List D := (List.range n).map fun k => .int (lo + (k : Nat))
def enumD (ds : List D) : List D := ds.mapIdx fun i d => .tup [.int (i : Nat), d]
/-- the turns over d.items() -/
def itemsD (ks : List Key) (vs : List D) : List D := List.zipWith (fun k v => .tup [keyD k, v]) ks vs
def zipD (ds es : List D) : List D := List.zipWith (fun x y => .tup [x, y]) ds es
/-- what is walked: a tuple (true) or a list, its items, what must stand -/
def srcD (A : AH) : D → Option (Bool × List D × Gd)
  | .tup ds => some (true, ds, [])
  | .fl ds => some (false, ds, [])
  | .ref a => match rd A a with
    | some (.lst ds) => some (false, ds, [(a, .lst ds)])
    | _ => none
  | _ => none
def cstV : D → Bool
  | .non => true | .bl _ => true | .int _ => true | .str _ => true | _ => false

/-! ### the meaning -/
variable (G : GEnv)
abbrev DE' (α : Type) := DSt → AH → Dx → (α → AH → Prop) → Prop
/-- a value's truth -/
def valT (v : DE) : DE' Bool := fun σ A X Q => v σ A X fun x A1 => match truD A1 x with
  | some b => Q b A1
  | none => False
def boT (v : DE) : DE' Bool := fun σ A X Q => v σ A X fun z A3 => match z with
  | .bl k => Q k A3
  | _ => False
def wT (v : DE) : DE × DE' Bool := (v, valT v)
def wB (v : DE) : DE × DE' Bool := (v, boT v)
mutual
/-- an expression's meaning: as a value, as a test -/
def ev2 : E → DE × DE' Bool
  | .var i _ => wT fun σ A _ Q => match σ[i]? with
    | some (some d) => Q d A
    | _ => False
  | .gv x => wT fun _ A _ Q => match G.con x with
    | some d => Q d A
    | none => False
  | .cst d => wT fun _ A _ Q => Q d A
  | .bin o a b => wT fun σ A X Q => (ev2 a).1 σ A X fun x A1 => (ev2 b).1 σ A1 X fun y A2 => rBin o x y A2 Q
  | .neg a => wT fun σ A X Q => (ev2 a).1 σ A X fun x A1 => match x with | .int i => Q (.int (-i)) A1 | _ => False
  | .cmp o a b => wB fun σ A X Q => (ev2 a).1 σ A X fun x A1 => (ev2 b).1 σ A1 X fun y A2 => rCmp o x y A2 Q
  | .chain o o' a b c => wB fun σ A X Q => (ev2 a).1 σ A X fun x A1 => (ev2 b).1 σ A1 X fun y A2 => rCmp o x y A2 fun z A3 => match z with
    | .bl true => (ev2 c).1 σ A3 X fun w A4 => rCmp o' y w A4 Q
    | .bl false => Q (.bl false) A3
    | _ => False
  | .bop k es => evB2 k es
  | .not a => (fun σ A X Q => valT (ev2 a).1 σ A X fun b A1 => Q (.bl (!b)) A1, fun σ A X Q => (ev2 a).2 σ A X fun b A1 => Q (!b) A1)
  | .ite c a b => (fun σ A X Q => (ev2 c).2 σ A X fun k A1 => match k with
    | true => (ev2 a).1 σ A1 X Q
    | false => (ev2 b).1 σ A1 X Q, fun σ A X Q => (ev2 c).2 σ A X fun k A1 => match k with
    | true => (ev2 a).2 σ A1 X Q
    | false => (ev2 b).2 σ A1 X Q)
  | .tup es => wT fun σ A X Q => evs es σ A X fun ds A1 => ds.length ≤ sizeLine ∧ Q (.tup ds) A1
  | .lst es => wT fun σ A X Q => evs es σ A X fun ds A1 => ds.length ≤ sizeLine ∧ allocL ds A1 Q
  | .idx a i => wT fun σ A X Q => (ev2 a).1 σ A X fun x A1 => (ev2 i).1 σ A1 X fun y A2 => rIdx x y A2 Q
  | .slc a lo hi => wT fun σ A X Q => (ev2 a).1 σ A X fun x A1 => evo lo σ A1 X fun l A2 => evo hi σ A2 X fun h A3 => rSlc x l h A3 Q
  | .rev a => wT fun σ A X Q => (ev2 a).1 σ A X fun x A1 => rRev x A1 Q
  | .call f es => wT fun σ A X Q => evs es σ A X fun ds A1 => G.cal f ds A1 X Q
  | .bif f es => wT fun σ A X Q => evs es σ A X fun ds A1 => rB f ds A1 Q
  | .mth m o es => wT fun σ A X Q => (ev2 o).1 σ A X fun x A1 => match recv A1 x with
    | some k => okRK k m = true ∧ evs es σ A1 X fun ds A2 => rM k m x ds A2 Q
    | none => False
  | .isis a cs => wT fun σ A X Q => (ev2 a).1 σ A X fun x A1 => match isisD G.sub A1 x cs with
    | some b => Q (.bl b) A1
    | none => False
  | .isi a c => wT fun σ A X Q => (ev2 a).1 σ A X fun x A1 => match isiD G.sub A1 x c with
    | some b => Q (.bl b) A1
    | none => False
  | .lc elt tg it cs own => wT fun σ A X Q => evI it σ A X fun ds Gd A1 => ∀ L, A1 L = none →
      lcR Gd tg (fun σ' A' R => evC cs σ' A' noX R) (fun σ' A' R => (ev2 elt).1 σ' A' noX R) (wipeD σ own) L (fun A2 => outL L A2 Q) ds (put A1 L (.lst []))
  | .dc kx elt tg it cs own => wT fun σ A X Q => evI it σ A X fun ds Gd A1 => ∀ L, A1 L = none →
      dcR Gd tg (fun σ' A' R => evC cs σ' A' noX R) (fun σ' A' R => (ev2 kx).1 σ' A' noX R) (fun σ' A' R => (ev2 elt).1 σ' A' noX R) (wipeD σ own) L (fun A2 => outD L A2 Q) ds (put A1 L (.dct []))
  | .dc2 kx elt tg it tg1 it1 own own1 => wT fun σ A X Q => evI it σ A X fun ds Gd A1 => ∀ L, A1 L = none →
      dc2R Gd tg (fun σ' A' R => evI it1 σ' A' noX R) tg1 own1 (fun σ' A' R => (ev2 kx).1 σ' A' noX R) (fun σ' A' R => (ev2 elt).1 σ' A' noX R) (wipeD σ own) L (fun A2 => outD L A2 Q) ds (put A1 L (.dct []))
  | .dnil => wT fun _ A _ Q => allocD [] A Q
  | .dsp ps => wT fun σ A X Q => ∀ p, A p = none → evKV ps σ (put A p (.dct [])) X fun kvs A3 => A3 p = some (.dct []) ∧ kvs.length ≤ 15 ∧ outD p (put A3 p (.dct (mergK [] kvs))) Q
  | .litems a => wT fun σ A X Q => (ev2 a).1 σ A X fun x A1 => match mapD A1 x with
    | some kvs => allocL (kvs.map fun p => .tup [keyD p.1, p.2]) A1 Q
    | none => False
  | .callk f es ns ws dv => wT fun σ A X Q => evs es σ A X fun ds A1 => evs ws σ A1 X fun zs A2 => zs.length = ns.length ∧ G.cal f (ds ++ zs ++ dv) A2 X Q
  | .lrg it => wT fun σ A X Q => evI it σ A X fun ds _ A1 => ds.length ≤ 2 ^ 24 ∧ allocL ds A1 Q
  | .trg it => wT fun σ A X Q => evI it σ A X fun ds _ A1 => ds.length ≤ 2 ^ 24 ∧ Q (.tup ds) A1
  | .lset a => wT fun σ A X Q => (ev2 a).1 σ A X fun x A1 => match (seqD A1 x).bind intsD with
    | some ns => ns.length ≤ 4000 ∧ Q (.int (ddI ns).length) A1
    | none => False
  | .sset a => wT fun σ A X Q => (ev2 a).1 σ A X fun x A1 => match (seqD A1 x).bind intsD with
    | some ns => ns.length ≤ 4000 ∧ (ddI ns).length < 64 ∧ allocL ((sortI (ddI ns)).map .int) A1 Q
    | none => False
/-- and (true), or (false): all but the last True or False, where the value is asked -/
def evB2 (k : Bool) : Es → DE × DE' Bool
  | .nil => (fun _ _ _ _ => False, fun _ _ _ _ => False)
  | .cons a es => match es with
    | .nil => ev2 a
    | .cons b r => (fun σ A X Q => (ev2 a).1 σ A X fun x A1 => match x with
      | .bl t => match t == k with
        | true => (evB2 k (.cons b r)).1 σ A1 X Q
        | false => Q (.bl t) A1
      | _ => False, fun σ A X Q => (ev2 a).2 σ A X fun t A1 => match t == k with
        | true => (evB2 k (.cons b r)).2 σ A1 X Q
        | false => Q t A1)
/-- the pairs of a written dict -/
def evKV : Ps → DSt → AH → Dx → (List (Key × D) → AH → Prop) → Prop
  | .nil, _, A, _, Q => Q [] A
  | .cons k v ps, σ, A, X, Q => (ev2 k).1 σ A X fun x A1 => (ev2 v).1 σ A1 X fun y A2 => evKV ps σ A2 X fun kvs A3 => match dkey x with
    | some k => Q ((k, y) :: kvs) A3
    | none => False
def evs : Es → DSt → AH → Dx → (List D → AH → Prop) → Prop
  | .nil, _, A, _, Q => Q [] A
  | .cons e es, σ, A, X, Q => (ev2 e).1 σ A X fun d A1 => evs es σ A1 X fun ds A2 => Q (d :: ds) A2
/-- a comprehension's tests -/
def evC : Es → DSt → AH → Dx → (Bool → AH → Prop) → Prop
  | .nil, _, A, _, Q => Q true A
  | .cons e _, σ, A, X, Q => (ev2 e).2 σ A X Q
def evo : Oe → DSt → AH → Dx → (Option Int → AH → Prop) → Prop
  | .no, _, A, _, Q => Q none A
  | .yes e, σ, A, X, Q => (ev2 e).1 σ A X fun d A1 => match d with
    | .int i => Q (some i) A1
    | _ => False
def evI : I → DSt → AH → Dx → (List D → Gd → AH → Prop) → Prop
  | .seq e, σ, A, X, Q => (ev2 e).1 σ A X fun d A1 => match d with
    | .tup ds => Q ds [] A1
    | .fl ds => Q ds [] A1
    | .fd ks _ => Q (ks.map keyD) [] A1
    | .ref a => match rd A1 a with
      | some (.lst ds) => Q ds [(a, .lst ds)] A1
      | _ => False
    | _ => False
  | .items e, σ, A, X, Q => (ev2 e).1 σ A X fun d A1 => match d with
    | .fd ks vs => Q (itemsD ks vs) [] A1
    | _ => False
  | .values e, σ, A, X, Q => (ev2 e).1 σ A X fun d A1 => match d with
    | .fd _ vs => Q vs [] A1
    | _ => False
  | .enum e, σ, A, X, Q => (ev2 e).1 σ A X fun d A1 => match d with
    | .tup ds => Q (enumD ds) [] A1
    | .fl ds => Q (enumD ds) [] A1
    | .ref a => match rd A1 a with
      | some (.lst ds) => Q (enumD ds) [(a, .lst ds)] A1
      | _ => False
    | _ => False
  | .zip a b, σ, A, X, Q => (ev2 a).1 σ A X fun x A1 => (ev2 b).1 σ A1 X fun y A2 => match srcD A2 x, srcD A2 y with
    | some (k1, ds, G1), some (k2, es, G2) => k1 = k2 ∧ Q (zipD ds es) (G1 ++ G2) A2
    | _, _ => False
  | .rng1 e, σ, A, X, Q => (ev2 e).1 σ A X fun d A1 => match d with
    | .int j => -(2 ^ 62) ≤ j ∧ j < 2 ^ 62 ∧ Q (rngD 0 j.toNat) [] A1
    | _ => False
  | .rng2 a b, σ, A, X, Q => (ev2 a).1 σ A X fun x A1 => (ev2 b).1 σ A1 X fun y A2 => match x, y with
    | .int i, .int j => (-(2 ^ 62) ≤ i ∧ i < 2 ^ 62 ∧ -(2 ^ 62) ≤ j ∧ j < 2 ^ 62) ∧ Q (rngD i (j - i).toNat) [] A2
    | _, _ => False
end
def ev (e : E) : DE := (ev2 G e).1
def evT (e : E) : DE' Bool := (ev2 G e).2
mutual
def evS : S → DEnds → DSt → AH → Prop
  | .asg i _ e, Z, σ, A => ev G e σ A (Z.ex σ) fun d A1 => Z.nx (σ.set i (some d)) A1
  | .unp xs e, Z, σ, A => ev G e σ A (Z.ex σ) fun d A1 => match d with
    | .tup ds => ds.length = xs.length ∧ Z.nx ((xs.zip ds).foldl (fun σ p => σ.set p.1.1 (some p.2)) σ) A1
    | _ => False
  | .par xs es, Z, σ, A => evs G es σ A (Z.ex σ) fun ds A1 => ds.length = xs.length ∧ Z.nx ((xs.zip ds).foldl (fun σ p => σ.set p.1.1 (some p.2)) σ) A1
  | .sto o i e, Z, σ, A => ev G e σ A (Z.ex σ) fun d A1 => ev G o σ A1 (Z.ex σ) fun x A2 => ev G i σ A2 (Z.ex σ) fun k A3 => match x, k with
    | .ref a, k => match rd A3 a with
      | some (.lst ds) => match k with
        | .int i => match ixD ds.length i with
          | some j => Z.nx σ (put A3 a (.lst (ds.set j d)))
          | none => False
        | _ => False
      | some (.dct kvs) => match dkey k with
        | some y => kvs.length < sizeLine ∧ Z.nx σ (put A3 a (.dct (setK kvs y d)))
        | none => False
      | _ => False
    | _, _ => False
  | .aug i _ o e, Z, σ, A => match σ[i]? with
    | some (some x) => ev G e σ A (Z.ex σ) fun y A1 => rAug o x y A1 fun z A2 => Z.nx (σ.set i (some z)) A2
    | _ => False
  | .exp e, Z, σ, A => ev G e σ A (Z.ex σ) fun _ A1 => Z.nx σ A1
  | .ret e, Z, σ, A => ev G e σ A (Z.ex σ) fun d A1 => Z.rt d A1
  | .ret0, Z, _, A => Z.rt .non A
  | .if_ c a b, Z, σ, A => evT G c σ A (Z.ex σ) fun k A1 => match k with
    | true => evSs a Z σ A1
    | false => evSs b Z σ A1
  | .whl c b ws, Z, σ, A => ∃ n, whlR (fun σ A X Q => evT G c σ A X Q) ws (fun Z σ A => evSs b Z σ A) Z n σ A
  | .for_ tg it b ws, Z, σ, A => evI G it σ A (Z.ex σ) fun ds Gd A1 => forR Gd tg ws (fun Z σ A => evSs b Z σ A) Z ds σ A1
  | .wipe ws, Z, σ, A => Z.nx (wipN σ ws) A
  | .frz i, Z, σ, A => match σ[i]? with
    | some (some (.ref p)) => match rd A p with
      | some (.lst ds) => Z.nx (σ.set i (some (.fl ds))) (rem A p)
      | some (.dct kvs) => Z.nx (σ.set i (some (.fd (kvs.map (·.1)) (kvs.map (·.2))))) (rem A p)
      | _ => False
    | _ => False
  | .raise c, Z, σ, A => Z.ex σ c A
  | .pass, Z, σ, A => Z.nx σ A
  | .brk, Z, σ, A => Z.bk σ A
  | .cnt, Z, σ, A => Z.ct σ A
def evSs : Ss → DEnds → DSt → AH → Prop
  | .nil, Z, σ, A => Z.nx σ A
  | .cons s ss, Z, σ, A => evS s (Z.then_ fun σ A => evSs ss Z σ A) σ A
end
/-- A is part of A' -/
def Sub (A A' : AH) : Prop := ∀ a o, A a = some o → A' a = some o
/-! what comes out of a def may be frozen -/
mutual
inductive Thaw (A : AH) : D → D → List Addr → Prop
  | same (d : D) : Thaw A d d []
  | lst {p : Addr} {ds es : List D} {ps : List Addr} : A p = some (.lst ds) → Thaws A ds es ps → Thaw A (.ref p) (.fl es) (p :: ps)
  | dct {p : Addr} {kvs : List (Key × D)} {es : List D} {ps : List Addr} : A p = some (.dct kvs) → Thaws A (kvs.map (·.2)) es ps → Thaw A (.ref p) (.fd (kvs.map (·.1)) es) (p :: ps)
  | tup {ds es : List D} {ps : List Addr} : Thaws A ds es ps → Thaw A (.tup ds) (.tup es) ps
inductive Thaws (A : AH) : List D → List D → List Addr → Prop
  | same (ds : List D) : Thaws A ds ds []
  | cons {d e : D} {ds es : List D} {ps qs : List Addr} : Thaw A d e ps → Thaws A ds es qs → Thaws A (d :: ds) (e :: es) (ps ++ qs)
end
/-- a def's end: what nobody holds may be forgotten, what comes out may be frozen -/
@[irreducible] def EndOk (A' : AH) (d : D) (Q : Dk) : Prop := ∃ A2 d2 ps, Thaw A' d d2 ps ∧ Sub A2 A' ∧ (∀ p ∈ ps, A2 p = none) ∧ Q d2 A2
theorem EndOk_eq {A' : AH} {d : D} {Q : Dk} : EndOk A' d Q = ∃ A2 d2 ps, Thaw A' d d2 ps ∧ Sub A2 A' ∧ (∀ p ∈ ps, A2 p = none) ∧ Q d2 A2 := by unfold EndOk; rfl
/-- a call of a def: its slots, its body -/
def runD (n : Nat) (body : Ss) (ds : List D) (A : AH) (X : Dx) (Q : Dk) : Prop :=
  evSs G body ⟨fun _ A' => EndOk A' .non Q, fun d A' => EndOk A' d Q, fun _ _ => False, fun _ _ => False, fun _ c A' => ∃ A2, Sub A2 A' ∧ X c A2⟩
    (ds.map some ++ List.replicate (n - ds.length) none) A
end Py

namespace Py
open PySem PySem.Spec PyProof.Rows L2

/-! ### how the plain data lies in the layer's heap -/
/-- a tuple without a dict of its own: locked as its object, or written -/
def TupAt (K : PySem.W.Frag) (H : Hp) (a : Addr) (vs : List V) : Prop :=
  (∃ o : Obj, H a = some (.frz o (.tup vs)) ∧ o.dict = none ∧ o.slots = #[]) ∨
    ∃ (o : Obj) (its : Array Value) (n : Nat), K.lookup a = some o ∧ o.cls = .type "tuple" ∧ (o.dict = none ∧ o.slots = #[]) ∧ o.data = .seq its n ∧ its.size ≤ sizeLine ∧ Vals vs its.toList
theorem TupAt.sqt {K : PySem.W.Frag} {H : Hp} {a : Addr} {vs : List V} (h : TupAt K H a vs) : SqT K H a vs := by
  rcases h with ⟨o, h, _⟩ | ⟨o, its, n, h1, h2, h3, h4, h5, h6⟩
  · exact .inl (.inr ⟨o, h⟩)
  · exact .inr ⟨o, its, n, h1, h2, h4, h5, h6⟩
/-- a list that nobody changes -/
def FlAt (K : PySem.W.Frag) (H : Hp) (a : Addr) (vs : List V) : Prop :=
  (∃ o : Obj, H a = some (.frz o (.lst vs))) ∨ ∃ (o : Obj) (its : Array Value) (n : Nat), K.lookup a = some o ∧ o.cls = .type "list" ∧ o.dict = none ∧ o.data = .seq its n ∧ its.size ≤ sizeLine ∧ Vals vs its.toList ∧ o.slots = #[]
/-- a dict that nobody changes -/
def FdAt (H : Hp) (a : Addr) (ws : List (Key × V)) : Prop := ∃ o : Obj, H a = some (.frz o (.dK ws))
theorem FlAt.sql {K : PySem.W.Frag} {H : Hp} {a : Addr} {vs : List V} (h : FlAt K H a vs) : SqL K H a vs := by
  rcases h with ⟨o, h⟩ | ⟨o, its, n, h1, h2, h3, h4, h5, h6, _⟩
  · exact .inl (.inr ⟨o, h⟩)
  · exact .inr ⟨o, its, n, h1, h2, h3, h4, h5, h6⟩
mutual
def RelD (K : PySem.W.Frag) (H : Hp) : D → V → Prop
  | .non, v => v = .non
  | .bl b, v => v = .bl b
  | .int i, v => v = .int i
  | .str s, v => v = .str s
  | .tup ds, v => ∃ a vs, v = .ref a ∧ TupAt K H a vs ∧ RelDs K H ds vs
  | .ref a, v => v = .ref a
  | .fl ds, v => ∃ a vs, v = .ref a ∧ FlAt K H a vs ∧ RelDs K H ds vs
  | .fd ks ds, v => ∃ a ws, v = .ref a ∧ FdAt H a ws ∧ ws.map (·.1) = ks ∧ RelDs K H ds (ws.map (·.2))
def RelDs (K : PySem.W.Frag) (H : Hp) : List D → List V → Prop
  | [], vs => vs = []
  | d :: ds, vs => ∃ v r, vs = v :: r ∧ RelD K H d v ∧ RelDs K H ds r
end
def FzOk : HO → Prop
  | .tup _ => True
  | .lst _ => True
  | .dK _ => True
  | _ => False
def Mono (H H' : Hp) : Prop := ∀ a o u, FzOk u → H a = some (.frz o u) → H' a = some (.frz o u)
theorem Mono.refl {H : Hp} : Mono H H := fun _ _ _ _ h => h
theorem Mono.trans {H H1 H2 : Hp} (a : Mono H H1) (b : Mono H1 H2) : Mono H H2 := fun c o xs k h => b c o xs k (a c o xs k h)
theorem Mono.tup {K : PySem.W.Frag} {H H' : Hp} {a : Addr} {xs : List V} (m : Mono H H') (h : TupAt K H a xs) : TupAt K H' a xs := by
  rcases h with ⟨o, h, d⟩ | h
  · exact .inl ⟨o, m a o _ trivial h, d⟩
  · exact .inr h
theorem Mono.fl {K : PySem.W.Frag} {H H' : Hp} {a : Addr} {xs : List V} (m : Mono H H') (h : FlAt K H a xs) : FlAt K H' a xs := by
  rcases h with ⟨o, h⟩ | h
  · exact .inl ⟨o, m a o _ trivial h⟩
  · exact .inr h
mutual
theorem RelD.mono {K : PySem.W.Frag} {H H' : Hp} (m : Mono H H') : ∀ (d : D) (v : V), RelD K H d v → RelD K H' d v
  | .non, _, h => h
  | .bl _, _, h => h
  | .int _, _, h => h
  | .str _, _, h => h
  | .ref _, _, h => h
  | .tup ds, _, ⟨a, vs, e, h, r⟩ => ⟨a, vs, e, m.tup h, RelDs.mono m ds vs r⟩
  | .fl ds, _, ⟨a, vs, e, h, r⟩ => ⟨a, vs, e, m.fl h, RelDs.mono m ds vs r⟩
  | .fd ks ds, _, ⟨a, ws, e, ⟨o, h⟩, ek, r⟩ => ⟨a, ws, e, ⟨o, m a o _ trivial h⟩, ek, RelDs.mono m ds _ r⟩
theorem RelDs.mono {K : PySem.W.Frag} {H H' : Hp} (m : Mono H H') : ∀ (ds : List D) (vs : List V), RelDs K H ds vs → RelDs K H' ds vs
  | [], _, h => h
  | d :: ds, _, ⟨v, r, e, h, t⟩ => ⟨v, r, e, RelD.mono m d v h, RelDs.mono m ds r t⟩
end
theorem RelDs.length {K : PySem.W.Frag} {H : Hp} : ∀ {ds : List D} {vs : List V}, RelDs K H ds vs → vs.length = ds.length
  | [], _, h => by cases (show _ = [] from h); rfl
  | _ :: ds, _, ⟨_, r, e, _, t⟩ => by subst e; simp [RelDs.length t]
theorem RelDs.get {K : PySem.W.Frag} {H : Hp} : ∀ {ds : List D} {vs : List V} {i : Nat} {d : D}, RelDs K H ds vs → ds[i]? = some d → ∃ v, vs[i]? = some v ∧ RelD K H d v
  | [], _, _, _, _, h => by simp at h
  | x :: ds, _, 0, d, ⟨v, r, e, h, t⟩, g => by
    subst e
    cases (show x = d by simpa using g)
    exact ⟨v, rfl, h⟩
  | x :: ds, _, i + 1, d, ⟨v, r, e, h, t⟩, g => by
    subst e
    obtain ⟨w, e1, e2⟩ := RelDs.get (i := i) (d := d) t (by simpa using g)
    exact ⟨w, by simpa using e1, e2⟩
theorem RelDs.getV {K : PySem.W.Frag} {H : Hp} {ds : List D} {vs : List V} {i : Nat} {v : V} (r : RelDs K H ds vs) (h : vs[i]? = some v) : ∃ d, ds[i]? = some d ∧ RelD K H d v := by
  have hi : i < ds.length := by
    have := (List.getElem?_eq_some_iff.mp h).1
    rw [r.length] at this
    exact this
  obtain ⟨w, e, q⟩ := r.get (List.getElem?_eq_getElem hi)
  rw [h] at e
  cases e
  exact ⟨_, List.getElem?_eq_getElem hi, q⟩
theorem RelDs.app {K : PySem.W.Frag} {H : Hp} : ∀ {ds es : List D} {vs ws : List V}, RelDs K H ds vs → RelDs K H es ws → RelDs K H (ds ++ es) (vs ++ ws)
  | [], _, _, _, h, q => by cases (show _ = [] from h); exact q
  | _ :: ds, _, _, _, ⟨v, r, e, h, t⟩, q => by subst e; exact ⟨v, _, rfl, h, RelDs.app t q⟩
theorem RelDs.one {K : PySem.W.Frag} {H : Hp} {d : D} {v : V} (h : RelD K H d v) : RelDs K H [d] [v] := ⟨v, [], rfl, h, rfl⟩
theorem RelDs.drop {K : PySem.W.Frag} {H : Hp} : ∀ (n : Nat) {ds : List D} {vs : List V}, RelDs K H ds vs → RelDs K H (ds.drop n) (vs.drop n)
  | 0, _, _, h => h
  | _ + 1, [], _, h => by cases (show _ = [] from h); exact rfl
  | n + 1, _ :: ds, _, ⟨v, r, e, _, t⟩ => by subst e; exact RelDs.drop n t
theorem RelDs.take {K : PySem.W.Frag} {H : Hp} : ∀ (n : Nat) {ds : List D} {vs : List V}, RelDs K H ds vs → RelDs K H (ds.take n) (vs.take n)
  | 0, _, _, h => rfl
  | _ + 1, [], _, h => by cases (show _ = [] from h); exact rfl
  | n + 1, _ :: ds, _, ⟨v, r, e, h, t⟩ => by subst e; exact ⟨v, _, rfl, h, RelDs.take n t⟩
theorem RelDs.set {K : PySem.W.Frag} {H : Hp} {d : D} {v : V} (q : RelD K H d v) : ∀ (n : Nat) {ds : List D} {vs : List V}, RelDs K H ds vs → RelDs K H (ds.set n d) (vs.set n v)
  | _, [], _, h => by cases (show _ = [] from h); exact rfl
  | 0, _ :: ds, _, ⟨w, r, e, h, t⟩ => by subst e; exact ⟨v, _, rfl, q, t⟩
  | n + 1, _ :: ds, _, ⟨w, r, e, h, t⟩ => by subst e; exact ⟨w, _, rfl, h, RelDs.set q n t⟩
theorem RelDs.erase {K : PySem.W.Frag} {H : Hp} : ∀ (n : Nat) {ds : List D} {vs : List V}, RelDs K H ds vs → RelDs K H (ds.eraseIdx n) (vs.eraseIdx n)
  | _, [], _, h => by cases (show _ = [] from h); exact rfl
  | 0, _ :: ds, _, ⟨w, r, e, h, t⟩ => by subst e; exact t
  | n + 1, _ :: ds, _, ⟨w, r, e, h, t⟩ => by subst e; exact ⟨w, _, rfl, h, RelDs.erase n t⟩
theorem RelDs.rev {K : PySem.W.Frag} {H : Hp} : ∀ {ds : List D} {vs : List V}, RelDs K H ds vs → RelDs K H ds.reverse vs.reverse
  | [], _, h => by cases (show _ = [] from h); exact rfl
  | _ :: ds, _, ⟨w, r, e, h, t⟩ => by
    subst e
    rw [List.reverse_cons, List.reverse_cons]
    exact RelDs.app (RelDs.rev t) (RelDs.one h)
theorem RelDs.mk {K : PySem.W.Frag} {H : Hp} : ∀ {ds : List D} {vs : List V}, vs.length = ds.length → (∀ (i : Nat) d v, ds[i]? = some d → vs[i]? = some v → RelD K H d v) → RelDs K H ds vs
  | [], vs, h, _ => by cases vs with | nil => rfl | cons _ _ => simp at h
  | d :: ds, [], h, _ => by simp at h
  | d :: ds, v :: vs, h, q => ⟨v, vs, rfl, q 0 d v rfl rfl, RelDs.mk (by simpa using h) fun i d v e1 e2 => q (i + 1) d v (by simpa using e1) (by simpa using e2)⟩

structure RC where
  K : PySem.W.Frag
  cl : Str → Option Addr
def RelKv (K : PySem.W.Frag) (H : Hp) : List (Key × D) → List (Key × V) → Prop
  | [], ws => ws = []
  | p :: r, ws => ∃ v t, ws = (p.1, v) :: t ∧ RelD K H p.2 v ∧ RelKv K H r t
def RelFs (K : PySem.W.Frag) (H : Hp) : List (Str × D) → List (Str × V) → Prop
  | [], ws => ws = []
  | p :: r, ws => ∃ v t, ws = (p.1, v) :: t ∧ RelD K H p.2 v ∧ RelFs K H r t
def RelO (c : RC) (H : Hp) (a : Addr) : AO → Prop
  | .lst ds => ∃ vs, H a = some (.lst vs) ∧ RelDs c.K H ds vs
  | .dct kvs => ∃ ws, H a = some (.dK ws) ∧ RelKv c.K H kvs ws
  | .ins n fs => ∃ C dx ws, c.cl n = some C ∧ H a = some (.ins C dx ws) ∧ RelFs c.K H fs ws
  | .exc _ => False
def RelA (c : RC) (A : AH) (H : Hp) : Prop := ∀ a o, A a = some o → RelO c H a o
theorem RelKv.mono {K : PySem.W.Frag} {H H' : Hp} (m : Mono H H') : ∀ {ds : List (Key × D)} {vs : List (Key × V)}, RelKv K H ds vs → RelKv K H' ds vs
  | [], _, h => h
  | _ :: ds, _, ⟨v, t, e, h2, r⟩ => ⟨v, t, e, RelD.mono m _ _ h2, RelKv.mono m r⟩
theorem RelFs.mono {K : PySem.W.Frag} {H H' : Hp} (m : Mono H H') : ∀ {ds : List (Str × D)} {vs : List (Str × V)}, RelFs K H ds vs → RelFs K H' ds vs
  | [], _, h => h
  | _ :: ds, _, ⟨v, t, e, h2, r⟩ => ⟨v, t, e, RelD.mono m _ _ h2, RelFs.mono m r⟩
theorem Rd_some {H : Hp} {a : Addr} {u : HO} (r : Rd H a u) : ∃ o, H a = Option.some o := by
  rcases r with r | ⟨o, r⟩ <;> exact ⟨_, r⟩
theorem RelO_some {c : RC} {H : Hp} {a : Addr} {o : AO} (h : RelO c H a o) : ∃ u, H a = Option.some u := by
  cases o with
  | lst ds => obtain ⟨_, e, _⟩ := h; exact ⟨_, e⟩
  | dct ds => obtain ⟨_, e, _⟩ := h; exact ⟨_, e⟩
  | ins n fs => obtain ⟨_, _, _, _, e, _⟩ := h; exact ⟨_, e⟩
  | exc _ => exact h.elim
theorem RelA_none {c : RC} {A : AH} {H : Hp} (r : RelA c A H) {a : Addr} (h : H a = Option.none) : A a = Option.none := by
  cases e : A a with
  | none => rfl
  | some o =>
    obtain ⟨u, q⟩ := RelO_some (r a o e)
    rw [h] at q
    cases q
theorem RelO.keep {c : RC} {H H' : Hp} {a : Addr} {o : AO} (h : RelO c H a o) (m : Mono H H') (e : H' a = H a) : RelO c H' a o := by
  have er : ∀ u, Rd H a u → Rd H' a u := fun u x => by unfold Rd at *; rw [e]; exact x
  cases o with
  | lst ds => obtain ⟨v, q, r⟩ := h; exact ⟨v, e.trans q, r.mono m⟩
  | dct ds => obtain ⟨v, q, r⟩ := h; exact ⟨v, e.trans q, r.mono m⟩
  | ins n fs => obtain ⟨C, dx, v, z, q, r⟩ := h; exact ⟨C, dx, v, z, e.trans q, r.mono m⟩
  | exc _ => exact h.elim
theorem Sub.rel {c : RC} {A A' : AH} {H : Hp} (s : Sub A A') (r : RelA c A' H) : RelA c A H := fun a o e => r a o (s a o e)
/-- a store at a place that holds nothing frozen -/
theorem Mono.upd {H : Hp} {a : Addr} {o : HO} (h : ∀ ob u, H a ≠ some (.frz ob u)) : Mono H (upd H a o) := fun b ob xs k r => by
  have hb : b ≠ a := fun e => h ob xs (e ▸ r)
  rw [upd_ne hb]
  exact r
theorem Mono.fresh {H : Hp} {a : Addr} {o : HO} (h : H a = none) : Mono H (L2.upd H a o) := Mono.upd fun ob xs r => by
  rw [h] at r
  cases r
theorem Mono.at {H : Hp} {a : Addr} {o u : HO} (h : H a = some u) (n2 : ∀ ob w, u ≠ .frz ob w) : Mono H (L2.upd H a o) := Mono.upd fun ob xs r => by
  rw [h] at r
  cases r
  exact n2 _ _ rfl
theorem RelA.put {c : RC} {A : AH} {H : Hp} {a : Addr} {o : AO} {u : HO} (r : RelA c A H) (m : Mono H (L2.upd H a u)) (h : RelO c (L2.upd H a u) a o) : RelA c (put A a o) (L2.upd H a u) := fun b p e => by
  unfold Py.put at e
  by_cases hb : b = a
  · subst hb
    rw [if_pos rfl] at e
    cases e
    exact h
  · rw [if_neg hb] at e
    exact (r b p e).keep m (upd_ne hb)
/-- a new object that is no concern of the plain heap (a tuple) -/
theorem RelA.aside {c : RC} {A : AH} {H : Hp} {a : Addr} {u : HO} (r : RelA c A H) (h : H a = none) : RelA c A (L2.upd H a u) := fun b p e => by
  have hb : b ≠ a := fun z => by
    obtain ⟨o, q⟩ := RelO_some (r b p e)
    rw [z, h] at q
    cases q
  exact (r b p e).keep (Mono.fresh h) (upd_ne hb)
theorem getL_rel {c : RC} {A : AH} {H : Hp} {a : Addr} {ds : List D} (r : RelA c A H) (h : getL A a = some ds) : ∃ vs, Rd H a (.lst vs) ∧ RelDs c.K H ds vs := by
  unfold getL at h
  split at h
  · rename_i e
    cases h
    obtain ⟨vs, q, t⟩ := r a _ e
    exact ⟨vs, .inl q, t⟩
  · cases h
theorem RelKv.length {K : PySem.W.Frag} {H : Hp} : ∀ {ds : List (Key × D)} {vs : List (Key × V)}, RelKv K H ds vs → vs.length = ds.length
  | [], _, h => by cases (show _ = [] from h); rfl
  | _ :: ds, _, ⟨v, t, e, _, r⟩ => by subst e; simp [RelKv.length r]
theorem RelKv.keys {K : PySem.W.Frag} {H : Hp} : ∀ {ds : List (Key × D)} {vs : List (Key × V)}, RelKv K H ds vs → vs.map (·.1) = ds.map (·.1)
  | [], _, h => by cases (show _ = [] from h); rfl
  | _ :: ds, _, ⟨v, t, e, _, r⟩ => by subst e; simp [RelKv.keys r]
theorem RelKv.vals {K : PySem.W.Frag} {H : Hp} : ∀ {ds : List (Key × D)} {vs : List (Key × V)}, RelKv K H ds vs → RelDs K H (ds.map (·.2)) (vs.map (·.2))
  | [], _, h => by cases (show _ = [] from h); rfl
  | _ :: ds, _, ⟨v, t, e, h, r⟩ => by subst e; exact ⟨v, _, rfl, h, RelKv.vals r⟩
theorem RelKv.zip {K : PySem.W.Frag} {H : Hp} : ∀ {ds : List D} {ws : List (Key × V)}, RelDs K H ds (ws.map (·.2)) → RelKv K H ((ws.map (·.1)).zip ds) ws
  | [], [], _ => rfl
  | [], _ :: _, h => by cases (show _ = [] from h)
  | d :: ds, [], ⟨_, _, e, _⟩ => by cases e
  | d :: ds, (k, w) :: ws, ⟨v, r, e, h, t⟩ => by
    simp only [List.map_cons, List.cons.injEq] at e
    obtain ⟨rfl, rfl⟩ := e
    exact ⟨w, ws, rfl, h, RelKv.zip t⟩
theorem RelKv.app {K : PySem.W.Frag} {H : Hp} : ∀ {ds es : List (Key × D)} {vs ws : List (Key × V)}, RelKv K H ds vs → RelKv K H es ws → RelKv K H (ds ++ es) (vs ++ ws)
  | [], _, _, _, h, q => by cases (show _ = [] from h); exact q
  | _ :: ds, _, _, _, ⟨v, t, e, h, r⟩, q => by subst e; exact ⟨v, _, rfl, h, RelKv.app r q⟩
theorem RelKv.look {K : PySem.W.Frag} {H : Hp} (k : Key) : ∀ {ds : List (Key × D)} {vs : List (Key × V)}, RelKv K H ds vs → (lookK ds k = none ∧ valV vs k = none) ∨ ∃ d v, lookK ds k = some d ∧ valV vs k = some v ∧ RelD K H d v
  | [], _, h => by cases (show _ = [] from h); exact .inl ⟨rfl, rfl⟩
  | p :: ds, _, ⟨v, t, e, h, r⟩ => by
    subst e
    by_cases hk : p.1 = k
    · refine .inr ⟨p.2, v, by simp [lookK, hk], valV_pos hk, h⟩
    · have e1 : lookK (p :: ds) k = lookK ds k := by simp [lookK, hk]
      rw [e1, valV_neg hk]
      exact RelKv.look k r
theorem RelKv.any {K : PySem.W.Frag} {H : Hp} (k : Key) : ∀ {ds : List (Key × D)} {vs : List (Key × V)}, RelKv K H ds vs → (ds.any fun p => decide (p.1 = k)) = vs.any fun p => decide (p.1 = k)
  | [], _, h => by cases (show _ = [] from h); rfl
  | p :: ds, _, ⟨v, t, e, h, r⟩ => by
    subst e
    rw [List.any_cons, List.any_cons, RelKv.any k r]
theorem RelKv.set {K : PySem.W.Frag} {H : Hp} (k : Key) {d : D} {u : V} (q : RelD K H d u) {ds : List (Key × D)} {vs : List (Key × V)} (r : RelKv K H ds vs) : RelKv K H (setK ds k d) (putK vs k u) := by
  have repl : ∀ {ds : List (Key × D)} {vs : List (Key × V)}, RelKv K H ds vs → RelKv K H (ds.map fun p => if p.1 = k then (p.1, d) else p) (vs.map fun p => if p.1 = k then (p.1, u) else p) := fun {ds} => by
    induction ds with
    | nil => intro vs h; cases (show _ = [] from h); exact rfl
    | cons p ds ih =>
      rintro vs ⟨v, t, e, h, r⟩
      subst e
      rw [List.map_cons, List.map_cons]
      by_cases hk : p.1 = k
      · rw [if_pos hk, if_pos hk]
        exact ⟨u, _, rfl, q, ih r⟩
      · rw [if_neg hk, if_neg hk]
        exact ⟨v, _, rfl, h, ih r⟩
  unfold setK putK
  rw [RelKv.any k r]
  split
  · exact repl r
  · exact r.app ⟨u, [], rfl, q, rfl⟩
theorem RelKv.merge {K : PySem.W.Frag} {H : Hp} : ∀ {more : List (Key × D)} {ms : List (Key × V)} {ds : List (Key × D)} {vs : List (Key × V)}, RelKv K H more ms → RelKv K H ds vs → RelKv K H (mergK ds more) (mergeK vs ms)
  | [], _, _, _, h, r => by cases (show _ = [] from h); exact r
  | p :: more, _, _, _, ⟨v, t, e, h, r'⟩, r => by
    subst e
    exact RelKv.merge (more := more) (ms := t) r' (r.set p.1 h)
/-- the pairs of a dict, changing or not -/
theorem mapD_rel {c : RC} {A : AH} {H : Hp} {d : D} {x : V} {kvs : List (Key × D)} (r : RelA c A H) (rx : RelD c.K H d x) (h : mapD A d = some kvs) : ∃ a ws, x = .ref a ∧ Rd H a (.dK ws) ∧ RelKv c.K H kvs ws := by
  cases d <;> simp only [mapD] at h <;> try (cases h; done)
  · split at h
    · rename_i e
      cases h
      obtain ⟨ws, q, t⟩ := r _ _ e
      exact ⟨_, ws, rx, .inl q, t⟩
    · cases h
  · cases h
    obtain ⟨a, ws, e, ⟨o, hf⟩, ek, q⟩ := rx
    subst ek
    exact ⟨a, ws, e, .inr ⟨o, hf⟩, RelKv.zip q⟩
theorem lstD_rel {c : RC} {A : AH} {H : Hp} {d : D} {x : V} {ds : List D} (r : RelA c A H) (rx : RelD c.K H d x) (h : lstD A d = some ds) : ∃ a vs, x = .ref a ∧ SqL c.K H a vs ∧ RelDs c.K H ds vs := by
  cases d <;> simp only [lstD] at h <;> try (cases h; done)
  · obtain ⟨vs, q, t⟩ := getL_rel r h
    exact ⟨_, vs, rx, .inl q, t⟩
  · cases h
    obtain ⟨a, vs, e, hf, q⟩ := rx
    exact ⟨a, vs, e, hf.sql, q⟩
/-- keys as data -/
theorem keyD_rel {K : PySem.W.Frag} {H : Hp} (k : Key) : RelD K H (keyD k) (kV k) := by cases k <;> rfl
theorem dkey_rel {K : PySem.W.Frag} {H : Hp} {d : D} {k : Key} {v : V} (h : dkey d = some k) (r : RelD K H d v) : v = kV k := by
  cases d <;> simp only [dkey] at h <;> try (cases h; done)
  · cases h; exact r
  · cases h; exact r
/-! ### what is frozen while it goes on -/
/-- some changing things may be frozen ahead of what follows -/
inductive FzS (Q : VK) : VK
  | here {v : V} {H : Hp} : Q v H → FzS Q v H
  | step {v : V} {H : Hp} {p : Addr} {u : HO} : Mut (some u) → H p = some u → (∀ o, FzS Q v (L2.upd H p (.frz o u))) → FzS Q v H
theorem EP_fz {X : Cx} {pins : List (Addr × Obj)} {σ : L2.St} {Q : VK} {u : Value} {s : Shared} (h : EP X pins σ (FzS Q) u s) : EP X pins σ Q u s := by
  obtain ⟨v, H, I, r, q⟩ := h
  induction q with
  | here q => exact ⟨_, _, I, r, q⟩
  | step mu e _ ih =>
    obtain ⟨o, I'⟩ := I.lock e mu
    exact ih o I' r
theorem PE.fz {X : Cx} {e : Expr} {t : TE} (h : PE X e t) : PE X e (fun σ H Q => t σ H (FzS Q)) := ⟨fun pins s σ H Q I q => thn (h.run pins s σ H _ I q) fun _ _ => EP_fz⟩
theorem OpR.fz {X : Cx} {f : Value → Value → Sem Value} {r : R2} (h : OpR X f r) : OpR X f (fun x y H Q => r x y H (FzS Q)) := fun pins s σ H x y v u Q I rx ry q => thn (h pins s σ H x y v u _ I rx ry q) fun _ _ => EP_fz
theorem CallR.fz {X : Cx} {f : Value} {r : List V → Hp → VK → Prop} (h : CallR X f r) : CallR X f (fun x H Q => r x H (FzS Q)) := fun pins s σ H x v Q I rx q => thn (h pins s σ H x v _ I rx q) fun _ _ => EP_fz
theorem SlR.fz {X : Cx} {r : V → Option Int → Option Int → Hp → VK → Prop} (h : SlR X r) : SlR X (fun x a b H Q => r x a b H (FzS Q)) := fun pins s σ H x v vl vu lo hi sl Q I rx hs pl pu q =>
  let ⟨T, id, h1, h2, h3⟩ := h pins s σ H x v vl vu lo hi sl _ I rx hs pl pu q
  ⟨T, id, h1, h2, thn h3 fun _ _ => EP_fz⟩
/-- all that comes out is frozen -/
theorem frz_rel {c : RC} {A : AH} {H : Hp} {p : Addr} {o : Obj} {u : HO} (r : RelA c A H) (hp : A p = none) (m : Mono H (L2.upd H p (.frz o u))) : RelA c A (L2.upd H p (.frz o u)) := fun b a e => by
  have hb : b ≠ p := fun z => by rw [z, hp] at e; cases e
  exact (r b a e).keep m (upd_ne hb)
theorem Mono.frz {H : Hp} {p : Addr} {o : Obj} {u : HO} (h : H p = some u) (mu : Mut (some u)) : Mono H (L2.upd H p (.frz o u)) := Mono.at h fun ob w z => by subst z; exact mu
/-! ### the slots -/
def RelS (K : PySem.W.Frag) (H : Hp) (σd : DSt) (σ : L2.St) : Prop := σd.length = σ.length ∧ ∀ (i : Nat) d, σd[i]? = some (some d) → ∃ v, σ[i]? = some (some v) ∧ RelD K H d v
theorem RelS.mono {K : PySem.W.Frag} {H H' : Hp} {σd : DSt} {σ : L2.St} (m : Mono H H') (r : RelS K H σd σ) : RelS K H' σd σ := ⟨r.1, fun i d e => let ⟨v, a, b⟩ := r.2 i d e; ⟨v, a, RelD.mono m _ _ b⟩⟩
theorem RelS.set {K : PySem.W.Frag} {H : Hp} {σd : DSt} {σ : L2.St} {i : Nat} {d : D} {v : V} (r : RelS K H σd σ) (h : RelD K H d v) : RelS K H (σd.set i (some d)) (σ.set i (some v)) := by
  refine ⟨by simpa using r.1, fun j e q => ?_⟩
  by_cases hj : i = j
  · subst hj
    by_cases hi : i < σd.length
    · rw [List.getElem?_set_self hi] at q
      cases q
      exact ⟨v, List.getElem?_set_self (by rw [← r.1]; exact hi), h⟩
    · rw [List.getElem?_eq_none (by simpa using hi)] at q
      cases q
  · rw [List.getElem?_set_ne hj] at q ⊢
    exact r.2 j e q
theorem RelS.setN {K : PySem.W.Frag} {H : Hp} {σd : DSt} {σ : L2.St} {i : Nat} (r : RelS K H σd σ) : RelS K H (σd.set i none) (σ.set i none) := by
  refine ⟨by simpa using r.1, fun j e q => ?_⟩
  by_cases hj : i = j
  · subst hj
    by_cases hi : i < σd.length
    · rw [List.getElem?_set_self hi] at q
      cases q
    · rw [List.getElem?_eq_none (by simpa using hi)] at q
      cases q
  · rw [List.getElem?_set_ne hj] at q ⊢
    exact r.2 j e q
theorem RelS.forget {K : PySem.W.Frag} {H : Hp} {σd : DSt} {σ : L2.St} {i : Nat} (r : RelS K H σd σ) : RelS K H (σd.set i none) σ := by
  refine ⟨by simpa using r.1, fun j e q => ?_⟩
  by_cases hj : i = j
  · subst hj
    by_cases hi : i < σd.length
    · rw [List.getElem?_set_self hi] at q
      cases q
    · rw [List.getElem?_eq_none (by simpa using hi)] at q
      cases q
  · rw [List.getElem?_set_ne hj] at q
    exact r.2 j e q
theorem RelS.wipN {K : PySem.W.Frag} {H : Hp} {σ : L2.St} : ∀ (ws : List Nat) {σd : DSt}, RelS K H σd σ → RelS K H (wipN σd ws) σ
  | [], _, r => r
  | _ :: ws, _, r => RelS.wipN ws r.forget
theorem RelS.wipe {K : PySem.W.Frag} {H : Hp} {σd : DSt} {σ : L2.St} (r : RelS K H σd σ) : ∀ own : List (Str × Nat), RelS K H (wipeD σd own) (wipe σ (own.map (·.2)))
  | [] => r
  | v :: vs => (RelS.wipe r vs).setN
/-- weaken what follows -/
theorem PE.imp {X : Cx} {e : Expr} {t t' : TE} (h : PE X e t) (i : ∀ σ H Q, t' σ H Q → t σ H Q) : PE X e t' := ⟨fun pins s σ H Q I q => h.run pins s σ H Q I (i _ _ _ q)⟩
theorem PT.imp {X : Cx} {e : Expr} {t t' : TT} (h : PT X e t) (i : ∀ σ H Q, t' σ H Q → t σ H Q) : PT X e t' := ⟨fun pins s σ H Q I q => h.run pins s σ H Q I (i _ _ _ q)⟩
theorem PS.imp {X : Cx} {e : Stmt} {t t' : TS} (h : PS X e t) (i : ∀ D σ H, t' D σ H → t D σ H) : PS X e t' := ⟨fun pins s σ H Q I q => h.run pins s σ H Q I (i _ _ _ q)⟩
theorem PSs.imp {X : Cx} {e : List Stmt} {t t' : TS} (h : PSs X e t) (i : ∀ D σ H, t' D σ H → t D σ H) : PSs X e t' := ⟨fun pins s σ H Q I q => h.run pins s σ H Q I (i _ _ _ q)⟩
theorem PA.imp {X : Cx} {e : List Expr} {t t' : TA} (h : PA X e t) (i : ∀ σ H Q, t' σ H Q → t σ H Q) : PA X e t' := ⟨fun pos pins s σ H Q I q => h.run pos pins s σ H Q I (i _ _ _ q)⟩
theorem PI.imp {X : Cx} {tg e : Expr} {t t' : TI} (h : PI X tg e t) (i : ∀ σ H Q, t' σ H Q → t σ H Q) : PI X tg e t' := ⟨fun pins s σ H Q I q => h.run pins s σ H Q I (i _ _ _ q)⟩
theorem PG.imp {X : Cx} {e : Expr} {t t' : TG} (h : PG X e t) (i : ∀ v σ H Q, t' v σ H Q → t v σ H Q) : PG X e t' := ⟨fun pins s σ H v u Q I r q => h.run pins s σ H v u Q I r (i _ _ _ _ q)⟩
theorem OpR.imp {X : Cx} {f : Value → Value → Sem Value} {r r' : R2} (h : OpR X f r) (i : ∀ x y H Q, r' x y H Q → r x y H Q) : OpR X f r' := fun pins s σ H x y v u Q I rx ry q => h pins s σ H x y v u Q I rx ry (i _ _ _ _ q)
theorem CallR.imp {X : Cx} {f : Value} {r r' : List V → Hp → VK → Prop} (h : CallR X f r) (i : ∀ x H Q, r' x H Q → r x H Q) : CallR X f r' := fun pins s σ H x v Q I rx q => h pins s σ H x v Q I rx (i _ _ _ q)
theorem MtR.imp {X : Cx} {f : String} {r r' : V → List V → Hp → VK → Prop} (h : MtR X f r) (i : ∀ o x H Q, r' o x H Q → r o x H Q) : MtR X f r' := fun pins s σ H o x w v Q I ro rx q => h pins s σ H o x w v Q I ro rx (i _ _ _ _ q)
theorem IxR.imp {X : Cx} {r r' : R2} (h : IxR X r) (i : ∀ x y H Q, r' x y H Q → r x y H Q) : IxR X r' := fun a b pins s σ H x y v u Q I rx ry q => h a b pins s σ H x y v u Q I rx ry (i _ _ _ _ q)
theorem SlR.imp {X : Cx} {r r' : V → Option Int → Option Int → Hp → VK → Prop} (h : SlR X r) (i : ∀ x a b H Q, r' x a b H Q → r x a b H Q) : SlR X r' := fun pins s σ H x v vl vu lo hi sl Q I rx hs pl pu q => h pins s σ H x v vl vu lo hi sl Q I rx hs pl pu (i _ _ _ _ _ q)
end Py

namespace Py
open PySem PySem.Spec PyProof.Rows L2
/-! ### calls where no __repr__ is under way: what a def promises there -/
structure FnG (P : Program) (w : World) (K : PySem.W.Frag) (mg : Str → Option Value) (base : Heap) (CX : CXT) (k : Nat) (f : Addr) (fd : FuncData) (ps : List Str) (sp : Sp) : Prop where
  len : ∀ vs H Q E, sp vs H Q E → vs.length = ps.length
  run : ∀ (A : Around) (outer : List Env) (s : Shared) (H : Hp) (args : Args) (us : List Value) (vs : List V) (Q : VK) (E : XK), Room k A → A.guards = some [] → Env0 P w K mg base A outer s H → BindsTo s fd args (ps.zip us) → Vals vs us → sp vs H Q E →
    codeAny (model P w) A (.call (.ref f) args) (CR CX outer P w H s Q E) s
/-- a weaker promise -/
theorem FnG.weaken {P : Program} {w : World} {K : PySem.W.Frag} {mg : Str → Option Value} {base : Heap} {CX : CXT} {k : Nat} {f : Addr} {fd : FuncData} {ps : List Str} {sp sp' : Sp} (F : FnG P w K mg base CX k f fd ps sp) (h : ∀ vs H Q E, sp' vs H Q E → sp vs H Q E) : FnG P w K mg base CX k f fd ps sp' :=
  ⟨fun vs H Q E q => F.len vs H Q E (h _ _ _ _ q), fun A outer s H args us vs Q E hr hg he hb hv hs => F.run A outer s H args us vs Q E hr hg he hb hv (h _ _ _ _ hs)⟩
section
variable {CX : CXT} {P : Program} {w : World} {K : PySem.W.Frag} {mg : Str → Option Value} {base : Heap} {k : Nat} {f : Addr}
theorem fn_G {x qual : Str} {st : Stmt} {fd : FuncData} {N ps : List Str} {sp : Sp} (F : Fun K x qual st f fd) (S : FnScope N ps (defScope st)) (len : ∀ vs H Q E, sp vs H Q E → vs.length = ps.length)
    (body : ∀ (cdv : Value) (A : Around) (outer : List Env) (s : Shared) (H : Hp) (vs : List V) (Q : VK) (E : XK), Room k (A.deeper (envOfC qual (defScope st) s.heap.objs.size f cdv)) → A.guards = some [] → sp vs H Q E →
      ∃ t, PSs (cxOf CX P w K mg base N qual (defScope st) f cdv A outer s H E) (defBody st) t ∧ t { nx := fun _ H' => FzS Q .non H', rt := FzS Q } (L2.start N vs) H) : FnG P w K mg base CX (k + 1) f fd ps sp := by
  obtain ⟨oc, od, kV, doc, pm, an, cdv, ct, osl, rfl, lk, hcd⟩ := F.ex
  constructor
  · exact len
  · intro A outer s H args us vs Q E hr hg e0 hb rv hsp
    have n1 := len _ _ _ _ hsp
    have inK : K.In s.heap := e0.mod.kin.keeps fun b o e => (e0.bs b o e).1
    have noL : s.heap.NoLimit := e0.mod.nolimit.keeps fun b o e => (e0.bs b o e).1
    have par : ∀ y ∈ ps.zip us, (defScope st).names.lookup y.1 = some .local ∨ ((defScope st).names.lookup y.1 = some .cell ∧ ((cellsFrom (s.heap.objs.size + 1) (defScope st).names []).lookup y.1).isSome = true) := by
      rintro ⟨n, v⟩ hy
      exact (S.par n (List.of_mem_zip hy).1).imp id fun q => ⟨q, PySem.W.cellsFrom_some _ _ _ (.inl q)⟩
    obtain ⟨t, ht, hq⟩ := body cdv A outer s H vs Q E (hr.deeper _) hg hsp
    apply codeAny_call_function hr.depth (inK _ _ lk) rfl S.co S.gen rfl (PySem.W.codeRec_of inK hcd)
    apply hb
    apply wpAny_newFunctionEnv_cells S.kind par
    rintro env rfl s1 x
    refine ⟨noL.keeps x.toInCall.keep, codeAny_func ?_⟩
    have J := inv_start (CX := CX) (E := E) S hr.hd e0 n1 rv x
    apply wpAny_mono (ht.run [] s1 (L2.start N vs) H _ J hq)
    · intro fl s' hs
      have fin : ∀ (σ' : L2.St) (H' : Hp) (v : V) (u : Value), Inv (cxOf CX P w K mg base N qual (defScope st) f cdv A outer s H E) [] σ' H' s' → RelV v u → FzS Q v H' → CE outer P w H s Q u s' :=
        fun σ' H' v u I r q => by
          obtain ⟨v, H', I, r, q⟩ := EP_fz ⟨v, H', I, r, q⟩
          exact ⟨v, H', I.os, I.bare, I.base, I.hok, r, q⟩
      cases fl with
      | ret u => obtain ⟨v, σ', H', I, r, q⟩ := hs; exact fin σ' H' v u I r q
      | next => obtain ⟨σ', H', I, q⟩ := hs; exact fin σ' H' .non .none I rfl q
      | brk => exact hs.choose_spec.choose_spec.2.elim
      | cont => exact hs.choose_spec.choose_spec.2.elim
    · exact fun e s' hs => hs
end
section
variable {X : Cx} {CX : CXT} {k : Nat} {f : Addr} {fd : FuncData} {ps : List Str} {sp : Sp} {E : L2.St → XK} {x : Str} {p pos : Pos} {e : Expr} {es : List Expr} {t : TA}
theorem run_G {pins : List (Addr × Obj)} {σ : L2.St} {H : Hp} {s : Shared} {Q : VK} {us : List Value} {vs : List V} (F : FnG X.prog X.w X.K X.mg X.base CX k f fd ps sp) (hr : Room k X.A) (hg : X.A.guards = some []) (hb : Binds X.K fd ps []) (hx : PassesAt CX X σ (E σ))
    (I : Inv X pins σ H s) (r : Vals vs us) (h : sp vs H Q (E σ)) : wpAny (model X.prog X.w) X.A (call (.ref f) us) (EP X pins σ Q) X.xe s := by
  have n1 : us.length = ps.length := r.length.symm.trans (F.len _ _ _ _ h)
  have b := hb s us I.kIn (by simpa using n1)
  simp only [List.append_nil] at b
  apply wpAny_call
  apply codeAny_mono (F.run X.A X.stack s H ⟨us, []⟩ us vs Q (E σ) hr hg I.env0 b r h)
  intro r s' hq
  cases r with
  | error e => exact hx pins H s e s' I hq
  | ok fl => cases fl with
    | ret u => exact I.after hq
    | _ => exact hq.elim
theorem pe_G (F : FnG X.prog X.w X.K X.mg X.base CX k f fd ps sp) (hr : Room k X.A) (hgd : X.A.guards = some []) (hg : Gl X x) (hm : X.mg x = some (.ref f)) (hk : PySem.W.keepIn X.K (.ref f) = true) (hb : Binds X.K fd ps []) (hx : ∀ σ, PassesAt CX X σ (E σ))
    (ha : PA X (e :: es) t) (hdb : (x == ("__debug__" : Str)) = false) (he : starEach (e :: es) X.env = (false, eval e X.env) :: starEach es X.env) (hpl : (backTo pos (starEach es X.env)).any (·.1) = false) : PE X (.Call (.Name x p) (e :: es) [] pos) (tCallS sp E t) := by
  constructor
  intro pins s σ H Q I h
  apply wpAny_Call_Name_kw
  apply ld_glob I hg hm _ hdb
  apply PySem.W.callWith_K (h₀ := X.base) I.ok.mod.kin hk _ he hpl
  apply thn (ha.run pos pins s σ H _ I h)
  rintro us s1 ⟨vs, H1, I1, r, q⟩
  exact ⟨I1.kIn, run_G F hr hgd hb (hx σ) I1 r q⟩
theorem pe_G0 (F : FnG X.prog X.w X.K X.mg X.base CX k f fd ps sp) (hr : Room k X.A) (hgd : X.A.guards = some []) (hg : Gl X x) (hm : X.mg x = some (.ref f)) (hk : PySem.W.keepIn X.K (.ref f) = true) (hb : Binds X.K fd ps []) (hx : ∀ σ, PassesAt CX X σ (E σ))
    (hdb : (x == ("__debug__" : Str)) = false) : PE X (.Call (.Name x p) [] [] pos) (tCallS sp E tNil) := by
  constructor
  intro pins s σ H Q I h
  apply wpAny_Call_Name_kw
  apply ld_glob I hg hm _ hdb
  exact PySem.W.callWith_K0 I.kIn hk (run_G (us := []) F hr hgd hb (hx σ) I .nil h)
end
end Py

namespace Py
open PySem PySem.Spec PyProof.Rows L2
/-! ### == of dicts whose values are tuples of whole numbers, all of the same keys -/
section
variable {X : Cx} {pins : List (Addr × Obj)} {σ : L2.St} {H : Hp} {s : Shared}
theorem tup_ints {K : PySem.W.Frag} {H : Hp} : ∀ {ds : List D} {vs : List V} {ns : List Int}, RelDs K H ds vs → intsD ds = some ns → vs = ns.map V.int
  | [], _, _, r, e => by cases (show _ = [] from r); simp only [intsD] at e; cases e; rfl
  | d :: ds, _, _, ⟨v, w, ev, h, r⟩, e => by
    subst ev
    cases d <;> simp only [intsD] at e <;> try (cases e; done)
    cases q : intsD ds with
    | none => rw [q] at e; cases e
    | some ms =>
      rw [q] at e
      cases e
      cases h
      rw [List.map_cons, ← tup_ints r q]
theorem relDs_nil {K : PySem.W.Frag} {H : Hp} {ds : List D} (r : RelDs K H ds []) : ds = [] := by
  cases ds with
  | nil => rfl
  | cons d ds => obtain ⟨v, w, e, _⟩ := r; cases e
theorem relDs_cons {K : PySem.W.Frag} {H : Hp} {ds : List D} {v : V} {vs : List V} (r : RelDs K H ds (v :: vs)) : ∃ d ds', ds = d :: ds' ∧ RelD K H d v ∧ RelDs K H ds' vs := by
  cases ds with
  | nil => cases (show _ = [] from r)
  | cons d ds => obtain ⟨v', w, e, h, q⟩ := r; cases e; exact ⟨d, ds, rfl, h, q⟩
theorem tupsL_cons {d : D} {ds : List D} {ra : List (List Int)} (h : tupsL (d :: ds) = some ra) : ∃ x ra', ra = x :: ra' ∧ (∃ es, d = .tup es ∧ intsD es = some x) ∧ tupsL ds = some ra' := by
  cases d <;> simp only [tupsL] at h <;> try (cases h; done)
  rename_i es
  split at h
  · rename_i l ls e1 e2
    cases h
    exact ⟨l, ls, rfl, ⟨es, rfl, e1⟩, e2⟩
  · cases h
theorem dp_ints {K : PySem.W.Frag} {H : Hp} : ∀ ns : List Int, DpAll K H (ns.map V.int) (ns.map PyData.int)
  | [] => .nil
  | n :: ns => .cons (.int n) (dp_ints ns)
theorem dp_tup {K : PySem.W.Frag} {H : Hp} {es : List D} {ns : List Int} {v : V} (r : RelD K H (.tup es) v) (hi : intsD es = some ns) : Dp K H v (.tuple (ns.map .int)) := by
  obtain ⟨a, vs, rfl, h, q⟩ := r
  have e := tup_ints q hi
  subst e
  exact .tup h.sqt (dp_ints ns)
theorem eqv_tups (ns ms : List Int) : PyData.eqv (.tuple (ns.map PyData.int)) (.tuple (ms.map PyData.int)) = decide (ns = ms) := by
  rw [← SeqAt.same_eq_eqv _ _ (by simp only [SeqAt.noMix]; exact PySem.W.noMix_ints ns ms)]
  simp only [PySem.Spec.same]
  exact PySem.W.same_ints ns ms
theorem shaped_tups (ns : List Int) : SeqAt.shaped (.tuple (ns.map PyData.int)) = true := by
  have h := PySem.W.depthAll_ints ns
  show (PyData.canLay0 (.tuple (ns.map PyData.int)) && decide (PyData.depth (.tuple (ns.map PyData.int)) ≤ 64)) = true
  rw [Bool.and_eq_true]
  refine ⟨?_, decide_eq_true (by simp only [PyData.depth]; omega)⟩
  simp only [PyData.canLay0]
  exact PySem.W.canLayAll0_ints ns
theorem tup_eqAt (I : Inv X pins σ H s) {A : Around} (hu : A.units + 4 < cLine) {es fs : List D} {ns ms : List Int} {v w : V} {u z : Value} (r : RelD X.K H (.tup es) v) (q : RelD X.K H (.tup fs) w) (hn : intsD es = some ns) (hm : intsD fs = some ms) (ru : RelV v u) (rz : RelV w z) :
    SeqAt.EqAt A.in1 s u z (decide (ns = ms)) := by
  obtain ⟨as, r1⟩ := Dp.reads I _ v u (dp_tup r hn) ru
  obtain ⟨bs, r2⟩ := Dp.reads I _ w z (dp_tup q hm) rz
  have y := SeqAt.eqAt_reads _ _ A.in1 s u z as bs r1 r2 (SeqAt.canLay_of_shaped (shaped_tups ns)) (SeqAt.canLay_of_shaped (shaped_tups ms)) (by
    have h1 : PyData.depth (.tuple (ns.map PyData.int)) ≤ 2 := by
      have := PySem.W.depthAll_ints ns
      simp only [PyData.depth]
      omega
    show A.units + 1 + min (PyData.depth (.tuple (ns.map PyData.int))) _ < cLine
    omega)
  rw [eqv_tups] at y
  exact y
theorem int_vals : ∀ {ns ms : List Int} {us : List Value}, Vals (ns.map V.int) us → Vals (ms.map V.int) us → ns = ms
  | [], [], _, _, _ => rfl
  | [], _ :: _, _, .nil, h => nomatch h
  | _ :: _, [], _, h, .nil => nomatch h
  | n :: ns, m :: ms, _, .cons a b, .cons c d => by
    obtain ⟨t, e⟩ := (show ∃ t, _ = Value.int n t from a)
    obtain ⟨t', e'⟩ := (show ∃ t, _ = Value.int m t from c)
    rw [e] at e'
    cases e'
    rw [int_vals b d]
theorem tup_uniq (I : Inv X pins σ H s) {es fs : List D} {ns ms : List Int} {v : V} (r : RelD X.K H (.tup es) v) (q : RelD X.K H (.tup fs) v) (hn : intsD es = some ns) (hm : intsD fs = some ms) : ns = ms := by
  obtain ⟨a, vs, rfl, h, r⟩ := r
  obtain ⟨b, ws, e, h', q⟩ := q
  cases e
  cases tup_ints r hn
  cases tup_ints q hm
  obtain ⟨i1, v1, ⟨o1, e1, _, n1, d1⟩, _⟩ := I.tuple h.sqt
  obtain ⟨i2, v2, ⟨o2, e2, _, n2, d2⟩, _⟩ := I.tuple h'.sqt
  rw [e1] at e2
  cases e2
  rw [d1] at d2
  have e3 : i1 = i2 := by simpa using (Data.seq.inj d2).1
  subst e3
  exact int_vals v1 v2
theorem rows_hits (I : Inv X pins σ H s) {P : Program} {w : World} {A : Around} (hu : A.units + 4 < cLine) {kb : List (Key × Value)} : ∀ {is : List Int} {ds es : List D} {ra rb : List (List Int)} {ws zs : List (Key × V)} {va vb : List (Key × Value)},
    ws.map (·.1) = is.map Sum.inl → zs.map (·.1) = is.map Sum.inl → RelDs X.K H ds (ws.map (·.2)) → RelDs X.K H es (zs.map (·.2)) → tupsL ds = some ra → tupsL es = some rb → KV ws va → KV zs vb → (∀ p ∈ vb, valueAt kb p.1 = some p.2) →
    PySem.W.KeqHitsP P w A.in1 s kb va (decide (ra = rb))
  | [], ds, es, ra, rb, [], [], va, vb, _, _, r1, r2, t1, t2, k1, k2, _ => by
    cases k1
    cases (relDs_nil r1)
    cases (relDs_nil r2)
    cases t1
    cases t2
    exact .nil
  | i :: is, ds, es, ra, rb, p :: ws, q :: zs, va, vb, h1, h2, r1, r2, t1, t2, k1, k2, hk => by
    simp only [List.map_cons, List.cons.injEq] at h1 h2
    obtain ⟨d, ds', rfl, rd, q1⟩ := relDs_cons r1
    obtain ⟨e, es', rfl, re, q2⟩ := relDs_cons r2
    unfold KV at k1 k2
    cases k1 with
    | @cons _ y _ ys a1 b1 =>
      cases k2 with
      | @cons _ z _ zs' a2 b2 =>
        obtain ⟨x1, ra', rfl, hx1, z1⟩ := tupsL_cons t1
        obtain ⟨x2, rb', rfl, hx2, z2⟩ := tupsL_cons t2
        obtain ⟨f1, rfl, i1⟩ := hx1
        obtain ⟨f2, rfl, i2⟩ := hx2
        have ih := rows_hits I (P := P) (w := w) hu h1.2 h2.2 q1 q2 z1 z2 b1 b2 fun p hp => hk p (List.mem_cons_of_mem _ hp)
        have ez := hk z List.mem_cons_self
        have ey : y.1 = z.1 := by rw [← a1.1, ← a2.1, h1.1, h2.1]
        obtain ⟨yk, yv⟩ := y
        obtain ⟨zk, zv⟩ := z
        cases ey
        have hit := PySem.W.KeqHitsP.hit (prog := P) (w := w) ez ((tup_eqAt I hu rd re i1 i2 a1.2 a2.2).eqP (prog := P) (w := w)) ih
        have eb : (decide (x1 = x2) && decide (ra' = rb')) = decide (x1 :: ra' = x2 :: rb') := by simp
        rw [← eb]
        exact hit
  | [], _, _, _, _, _ :: _, _, _, _, h1, _, _, _, _, _, _, _, _ => by simp at h1
  | [], _, _, _, _, [], _ :: _, _, _, _, h2, _, _, _, _, _, _, _ => by simp at h2
  | _ :: _, _, _, _, _, [], _, _, _, h1, _, _, _, _, _, _, _, _ => by simp at h1
  | _ :: _, _, _, _, _, _ :: _, [], _, _, _, h2, _, _, _, _, _, _, _ => by simp at h2
/-- the keys, the rows of such a dict -/
theorem inlK_map : ∀ {ks : List Key} {is : List Int}, inlK ks = some is → ks = is.map Sum.inl
  | [], _, h => by simp only [inlK] at h; cases h; rfl
  | .inr _ :: _, _, h => by simp only [inlK] at h; cases h
  | .inl i :: ks, _, h => by
    simp only [inlK] at h
    cases q : inlK ks with
    | none => rw [q] at h; cases h
    | some js => rw [q] at h; cases h; rw [List.map_cons, ← inlK_map q]
theorem tabD_some {d : D} {p : List Int × List (List Int)} (h : tabD d = some p) : ∃ vs, d = .fd (p.1.map Sum.inl) vs ∧ tupsL vs = some p.2 ∧ p.1.Nodup := by
  cases d <;> simp only [tabD] at h <;> try (cases h; done)
  split at h
  · rename_i is rs e1 e2
    split at h
    · rename_i hn
      cases h
      exact ⟨_, by rw [inlK_map e1], e2, hn.1⟩
    · cases h
  · cases h
theorem rows_uniq (I : Inv X pins σ H s) : ∀ {ds es : List D} {vs : List V} {ra rb : List (List Int)}, RelDs X.K H ds vs → RelDs X.K H es vs → tupsL ds = some ra → tupsL es = some rb → ra = rb
  | ds, es, [], ra, rb, r1, r2, t1, t2 => by
    cases (relDs_nil r1)
    cases (relDs_nil r2)
    rw [t1] at t2
    exact Option.some.inj t2
  | ds, es, v :: vs, ra, rb, r1, r2, t1, t2 => by
    obtain ⟨d, ds', rfl, rd, q1⟩ := relDs_cons r1
    obtain ⟨e, es', rfl, re, q2⟩ := relDs_cons r2
    obtain ⟨x1, ra', rfl, ⟨f1, rfl, i1⟩, z1⟩ := tupsL_cons t1
    obtain ⟨x2, rb', rfl, ⟨f2, rfl, i2⟩, z2⟩ := tupsL_cons t2
    rw [tup_uniq I rd re i1 i2, rows_uniq I q1 q2 z1 z2]
theorem tab_at {K : PySem.W.Frag} {H : Hp} {d : D} {v : V} {p : List Int × List (List Int)} (h : tabD d = some p) (r : RelD K H d v) : ∃ a o ws ds, v = .ref a ∧ H a = some (.frz o (.dK ws)) ∧ ws.map (·.1) = p.1.map Sum.inl ∧ RelDs K H ds (ws.map (·.2)) ∧ tupsL ds = some p.2 ∧ p.1.Nodup := by
  obtain ⟨vs, rfl, t, nd⟩ := tabD_some h
  obtain ⟨a, ws, rfl, ⟨o, ha⟩, ek, q⟩ := r
  exact ⟨a, o, ws, vs, rfl, ha, ek, q, t, nd⟩
theorem tab_uniq (I : Inv X pins σ H s) {d e : D} {v : V} {is : List Int} {ra rb : List (List Int)} (hd : tabD d = some (is, ra)) (he : tabD e = some (is, rb)) (rd : RelD X.K H d v) (re : RelD X.K H e v) : ra = rb := by
  obtain ⟨a, o, ws, ds, rfl, ha, _, q1, t1, _⟩ := tab_at hd rd
  obtain ⟨b, o', zs, es, e, hb, _, q2, t2, _⟩ := tab_at he re
  cases e
  rw [ha] at hb
  cases hb
  exact rows_uniq I q1 q2 t1 t2
theorem val_mem : ∀ {vb : List (Key × Value)}, (vb.map (·.1)).Nodup → ∀ p ∈ vb, valueAt vb p.1 = some p.2
  | [], _, p, h => nomatch h
  | q :: vb, nd, p, h => by
    rw [List.map_cons, List.nodup_cons] at nd
    rcases List.mem_cons.mp h with rfl | h
    · simp [valueAt]
    · have hn : q.1 ≠ p.1 := fun e => nd.1 (e ▸ List.mem_map.mpr ⟨p, h, rfl⟩)
      have := val_mem nd.2 p h
      unfold valueAt at this ⊢
      rw [List.find?_cons_of_neg (by simpa using hn)]
      exact this
/-- keys that are whole numbers stand so in every world -/
theorem dictOf_any {P P' : Program} {w w' : World} {h : Heap} {a : Addr} {va : List (Key × Value)} {is : List Int} (hk : va.map (·.1) = is.map Sum.inl) (x : h.DictOf (mixKind P w) a va) : h.DictOf (mixKind P' w') a va := by
  obtain ⟨o, es, ep, e, ex, d, ks, ps, nd⟩ := x
  have pr : ∀ {l : List DictEntry} {kvs : List (Key × Value)}, Pairs (mixKind P w) l kvs → Pairs (mixKind P' w') l kvs ∧ ∀ z ∈ l, ∃ q ∈ kvs, keyIs q.1 z.key = true := fun z => by
    induction z with
    | nil => exact ⟨.nil, fun _ h => nomatch h⟩
    | @cons z kv l kvs a b _ ih =>
      refine ⟨.cons a b ih.1, fun y hy => ?_⟩
      rcases List.mem_cons.mp hy with rfl | hy
      · exact ⟨kv, List.mem_cons_self, a⟩
      · obtain ⟨q, hq, e⟩ := ih.2 y hy
        exact ⟨q, List.mem_cons_of_mem _ hq, e⟩
  obtain ⟨ps', fnd⟩ := pr ps
  refine ⟨o, es, ep, e, ex, d, fun z hz => ?_, ps', nd⟩
  obtain ⟨k, hk1, hk2⟩ := ks z hz
  obtain ⟨q, hq, hq1⟩ := fnd z (by simpa using hz)
  have e1 : k = q.1 := (mixKind P w).inj _ _ _ hk1 hq1
  have e2 : q.1 ∈ is.map Sum.inl := by rw [← hk]; exact List.mem_map.mpr ⟨q, hq, rfl⟩
  obtain ⟨i, _, e3⟩ := List.mem_map.mp e2
  refine ⟨k, hk1, ?_⟩
  rw [hk2, e1, ← e3]
  rfl
theorem kv_keys : ∀ {ws : List (Key × V)} {va : List (Key × Value)}, KV ws va → va.map (·.1) = ws.map (·.1)
  | _, _, .nil => rfl
  | _, _, .cons a b => by rw [List.map_cons, List.map_cons, kv_keys b, a.1]
theorem tab_eqAt (I : Inv X pins σ H s) {A : Around} (hu : A.units + 5 < cLine) {d e : D} {x y : V} {u z : Value} {is : List Int} {ra rb : List (List Int)} (hd : tabD d = some (is, ra)) (he : tabD e = some (is, rb)) (rd : RelD X.K H d x) (re : RelD X.K H e y) (ru : RelV x u) (rz : RelV y z) :
    SeqAt.EqAt A s u z (decide (ra = rb)) := by
  obtain ⟨a, o, ws, ds, rfl, ha, k1, q1, t1, nd⟩ := tab_at hd rd
  obtain ⟨b, o', zs, es, rfl, hb, k2, q2, t2, _⟩ := tab_at he re
  cases ru
  cases rz
  by_cases hab : a = b
  · subst hab
    have e : ra = rb := tab_uniq I hd he rd re
    rw [decide_eq_true e]
    exact SeqAt.EqAt.same _
  · intro P w E Q hq
    obtain ⟨_, _, ya, va, kva, da⟩ := (show ObjOk X.prog X.w H s.heap a (.frz o (.dK ws)) from I.hok a _ ha)
    obtain ⟨_, _, yb, vb, kvb, db⟩ := (show ObjOk X.prog X.w H s.heap b (.frz o' (.dK zs)) from I.hok b _ hb)
    have ka := (kv_keys kva).trans k1
    have kb := (kv_keys kvb).trans k2
    have nb : (vb.map (·.1)).Nodup := by
      rw [kb]
      exact List.Pairwise.map _ (fun p q h e => h (Sum.inl.inj e)) nd
    refine SeqAt.eqP_refs (prog := P) (w := w) hab (k := decide (ra = rb)) (fun E Q q => ?_) E Q hq
    refine PySem.W.rcP_dicts (knd := mixKind P w) (r := decide (ra = rb)) ya yb (dictOf_any ka da) (dictOf_any kb db) (by omega) (fun _ => rows_hits I (by omega) k1 k2 q1 q2 t1 t2 kva kvb (val_mem nb)) E Q ?_
    have el : va.length = vb.length := by
      have h1 := congrArg List.length ka
      have h2 := congrArg List.length kb
      simp only [List.length_map] at h1 h2
      omega
    rw [show (va.length == vb.length && decide (ra = rb)) = decide (ra = rb) by rw [el]; simp]
    exact q
end
section
variable {X : Cx}
/-- such a dict among such dicts -/
def inTab (K : PySem.W.Frag) (neg : Bool) : R2 := fun x y H Q => ∃ (p : Addr) (vs : List V) (d : D) (ds : List D) (is : List Int) (r : List (List Int)) (rs : List (List (List Int))), y = .ref p ∧ (SqL K H p vs ∨ SqT K H p vs) ∧ RelD K H d x ∧ RelDs K H ds vs ∧ tabD d = some (is, r) ∧ tabsD is ds = some rs ∧
  Q (.bl (if neg then !decide (r ∈ rs) else decide (r ∈ rs))) H
open Classical in
noncomputable def eTab (K : PySem.W.Frag) (H : Hp) (is : List Int) (r : List (List Int)) (u : Value) : Bool := match u with
  | .ref a => decide (∃ d, RelD K H d (.ref a) ∧ tabD d = some (is, r))
  | _ => false
theorem tabsD_cons {is : List Int} {d : D} {ds : List D} {rs : List (List (List Int))} (h : tabsD is (d :: ds) = some rs) : ∃ r t, rs = r :: t ∧ tabD d = some (is, r) ∧ tabsD is ds = some t := by
  simp only [tabsD] at h
  split at h
  · rename_i p t e1 e2
    split at h
    · rename_i e3
      cases h
      obtain ⟨p1, p2⟩ := p
      cases e3
      exact ⟨p2, t, rfl, e1, e2⟩
    · cases h
  · cases h
theorem tab_items {pins : List (Addr × Obj)} {σ : L2.St} {H : Hp} {s : Shared} (I : Inv X pins σ H s) {A : Around} (hu : A.units + 5 < cLine) {d : D} {x : V} {v : Value} {is : List Int} {r : List (List Int)} (hd : tabD d = some (is, r)) (rd : RelD X.K H d x) (rx : RelV x v) : ∀ {ds : List D} {vs : List V} {us : List Value} {rs : List (List (List Int))}, RelDs X.K H ds vs → Vals vs us → tabsD is ds = some rs →
    (∀ w ∈ us, SeqAt.EqAt A s w v (eTab X.K H is r w)) ∧ us.any (eTab X.K H is r) = decide (r ∈ rs) ∧ us.length = rs.length ∧ ∀ j (h1 : j < us.length) (h2 : j < rs.length), SeqAt.EqAt A s us[j] v (decide (rs[j] = r))
  | ds, [], _, rs, q, .nil, t => by
    cases (relDs_nil q)
    cases t
    exact ⟨fun w hw => (nomatch hw), rfl, rfl, fun j h1 => absurd h1 (Nat.not_lt_zero j)⟩
  | ds, y :: vs, u :: us, rs, q, .cons a b, t => by
    obtain ⟨e, es, rfl, re, q⟩ := relDs_cons q
    obtain ⟨r1, t1, rfl, he, ht⟩ := tabsD_cons t
    obtain ⟨h1, h2, h3, h4⟩ := tab_items I hu hd rd rx q b ht
    have eq := tab_eqAt I hu he hd re rd a rx
    obtain ⟨p, o, ws, ds, rfl, hp, _⟩ := tab_at he re
    cases a
    have ev : eTab X.K H is r (.ref p) = decide (r1 = r) := by
      unfold eTab
      by_cases c : r1 = r
      · subst c
        rw [decide_eq_true rfl]
        exact @decide_eq_true _ (Classical.propDecidable _) ⟨e, re, he⟩
      · rw [decide_eq_false c]
        exact @decide_eq_false _ (Classical.propDecidable _) fun ⟨e', re', he'⟩ => c (tab_uniq I he he' re re')
    refine ⟨fun w hw => ?_, ?_, by simp [h3], fun j j1 j2 => ?_⟩
    · rcases List.mem_cons.mp hw with rfl | hw
      · rw [ev]; exact eq
      · exact h1 w hw
    · rw [List.any_cons, ev, h2]
      by_cases c : r1 = r
      · subst c; simp
      · simp [c, Ne.symm c]
    · cases j with
      | zero => exact eq
      | succ j => exact h4 j (Nat.lt_of_succ_lt_succ j1) (Nat.lt_of_succ_lt_succ j2)
theorem op_inTab (hu : X.A.units + 6 < cLine) : OpR X (compareOp .In) (inTab X.K false) := by
  intro pins s σ H x y v u Q I rx ry h
  obtain ⟨p, vs, d, ds, is, r, rs, rfl, hq, rd, rds, hd, ht, q⟩ := h
  cases ry
  rcases hq with hq | hq
  · obtain ⟨its, rv, pl, _⟩ := I.list hq
    obtain ⟨h1, h2, _⟩ := tab_items I (A := X.A.in1) (by show X.A.units + 1 + 5 < cLine; omega) hd rd rx rds rv ht
    refine SeqAt.in_listAt (eTab X.K H is r) pl.isList (fun w hw => h1 w (by simpa using hw)) ⟨.bl _, H, I, rfl, ?_⟩
    rw [show its.toArray.any (eTab X.K H is r) = its.any (eTab X.K H is r) by simp, h2]
    exact q
  · obtain ⟨its, rv, pl, _⟩ := I.tuple hq
    obtain ⟨h1, h2, _⟩ := tab_items I (A := X.A.in1) (by show X.A.units + 1 + 5 < cLine; omega) hd rd rx rds rv ht
    refine SeqAt.in_tupleAt (eTab X.K H is r) pl (fun w hw => h1 w (by simpa using hw)) ⟨.bl _, H, I, rfl, ?_⟩
    rw [show its.toArray.any (eTab X.K H is r) = its.any (eTab X.K H is r) by simp, h2]
    exact q
theorem op_ninTab (hu : X.A.units + 6 < cLine) : OpR X (compareOp .NotIn) (inTab X.K true) := by
  intro pins s σ H x y v u Q I rx ry h
  obtain ⟨p, vs, d, ds, is, r, rs, rfl, hq, rd, rds, hd, ht, q⟩ := h
  cases ry
  rcases hq with hq | hq
  · obtain ⟨its, rv, pl, _⟩ := I.list hq
    obtain ⟨h1, h2, _⟩ := tab_items I (A := X.A.in1) (by show X.A.units + 1 + 5 < cLine; omega) hd rd rx rds rv ht
    refine SeqAt.notIn_listAt (eTab X.K H is r) pl.isList (fun w hw => h1 w (by simpa using hw)) ⟨.bl _, H, I, rfl, ?_⟩
    rw [show its.toArray.any (eTab X.K H is r) = its.any (eTab X.K H is r) by simp, h2]
    exact q
  · obtain ⟨its, rv, pl, _⟩ := I.tuple hq
    obtain ⟨h1, h2, _⟩ := tab_items I (A := X.A.in1) (by show X.A.units + 1 + 5 < cLine; omega) hd rd rx rds rv ht
    refine SeqAt.notIn_tupleAt (eTab X.K H is r) pl (fun w hw => h1 w (by simpa using hw)) ⟨.bl _, H, I, rfl, ?_⟩
    rw [show its.toArray.any (eTab X.K H is r) = its.any (eTab X.K H is r) by simp, h2]
    exact q
/-- list.index of such a dict -/
theorem ix_tab {pins : List (Addr × Obj)} {σ : L2.St} {H : Hp} {s : Shared} (hu : X.A.units + 7 < cLine) (I : Inv X pins σ H s) {d : D} {ds : List D} {l : Addr} {x : V} {v : Value} {vs : List V} {us : List Value} {is : List Int} {r : List (List Int)} {rs : List (List (List Int))} {E : Value → Shared → Prop} {Q : Value → Shared → Prop}
    (hl : s.heap.IsList l us.toArray) (rv : Vals vs us) (rds : RelDs X.K H ds vs) (hd : tabD d = some (is, r)) (rd : RelD X.K H d x) (rx : RelV x v) (ht : tabsD is ds = some rs) (hz : vs.length ≤ sizeLine) (hk : r ∈ rs) (q : Q (.int (idxT r rs : Nat) s.toks) { s with toks := s.toks + 1 }) :
    wpAny (model X.prog X.w) X.A (call (.builtin "list.index") [.ref l, v]) Q E s := by
  obtain ⟨_, _, h3, h4⟩ := tab_items I (A := X.A.in1) (by show X.A.units + 1 + 5 < cLine; omega) hd rd rx rds rv ht
  exact SeqAt.call_list_index (ks := rs) (k := r) hl ⟨h3, h4⟩ (by rw [← h3, ← rv.length]; exact hz) hk q
end
end Py

namespace Py
open PySem PySem.Spec PyProof.Rows L2
section
variable (c : RC)
/-- what follows, told of the layer's values -/
def Fol (H : Hp) (Q : VK) (Qd : Dk) : Prop := ∀ d A' v H', Qd d A' → Mono H H' → RelA c A' H' → RelD c.K H' d v → Q v H'
def lR2 (r : D → D → AH → Dk → Prop) : R2 := fun x y H Q => ∃ A dx dy Qd, RelA c A H ∧ RelD c.K H dx x ∧ RelD c.K H dy y ∧ r dx dy A Qd ∧ Fol c H Q Qd
def lR1 (r : D → AH → Dk → Prop) : V → Hp → VK → Prop := fun x H Q => ∃ A dx Qd, RelA c A H ∧ RelD c.K H dx x ∧ r dx A Qd ∧ Fol c H Q Qd
def lRs (r : List D → AH → Dk → Prop) : List V → Hp → VK → Prop := fun xs H Q => ∃ A ds Qd, RelA c A H ∧ RelDs c.K H ds xs ∧ r ds A Qd ∧ Fol c H Q Qd
def lRm (r : D → List D → AH → Dk → Prop) : V → List V → Hp → VK → Prop := fun x xs H Q => ∃ A dx ds Qd, RelA c A H ∧ RelD c.K H dx x ∧ RelDs c.K H ds xs ∧ r dx ds A Qd ∧ Fol c H Q Qd
end
section
variable {c : RC} {X : Cx}
theorem Fol.here {H : Hp} {Q : VK} {Qd : Dk} {A : AH} {d : D} {v : V} (f : Fol c H Q Qd) (q : Qd d A) (ra : RelA c A H) (r : RelD c.K H d v) : Q v H := f d A v H q Mono.refl ra r
theorem Fol.lst {H : Hp} {Q : VK} {Qd : Dk} {A : AH} {ds : List D} {vs : List V} (f : Fol c H Q Qd) (q : allocL ds A Qd) (ra : RelA c A H) (r : RelDs c.K H ds vs) : ∀ p, H p = none → FzS Q (.ref p) (upd H p (.lst vs)) := fun p hp => by
  rw [allocL_eq] at q
  rcases q with q | q
  · refine .step (u := .lst vs) trivial upd_same fun o => .here ?_
    rw [upd_upd]
    have m := Mono.fresh (o := .frz o (.lst vs)) hp
    exact f (.fl ds) A _ _ q m (ra.aside hp) ⟨p, vs, rfl, .inl ⟨o, upd_same⟩, r.mono m⟩
  · have m := Mono.fresh (o := .lst vs) hp
    exact .here (f (.ref p) _ _ _ (q p (RelA_none ra hp)) m (ra.put m ⟨vs, upd_same, r.mono m⟩) rfl)
theorem Fol.dct {H : Hp} {Q : VK} {Qd : Dk} {A : AH} {kvs : List (Key × D)} {ws : List (Key × V)} (f : Fol c H Q Qd) (q : allocD kvs A Qd) (ra : RelA c A H) (r : RelKv c.K H kvs ws) : ∀ p, H p = none → FzS Q (.ref p) (upd H p (.dK ws)) := fun p hp => by
  rw [allocD_eq] at q
  rcases q with q | q
  · refine .step (u := .dK ws) trivial upd_same fun o => .here ?_
    rw [upd_upd]
    have m := Mono.fresh (o := .frz o (.dK ws)) hp
    exact f (.fd _ _) A _ _ q m (ra.aside hp) ⟨p, ws, rfl, ⟨o, upd_same⟩, r.keys, (r.mono m).vals⟩
  · have m := Mono.fresh (o := .dK ws) hp
    exact .here (f (.ref p) _ _ _ (q p (RelA_none ra hp)) m (ra.put m ⟨ws, upd_same, r.mono m⟩) rfl)
/-- a new tuple, locked as its object -/
def newT (vs : List V) (H : Hp) (Q : VK) : Prop := ∀ (p : Addr) (ob : Obj), H p = none → ob.dict = none ∧ ob.slots = #[] → Q (.ref p) (upd H p (.frz ob (.tup vs)))
theorem Fol.tup {H : Hp} {Q : VK} {Qd : Dk} {A : AH} {ds : List D} {vs : List V} (f : Fol c H Q Qd) (q : Qd (.tup ds) A) (ra : RelA c A H) (r : RelDs c.K H ds vs) : newT vs H Q := fun p ob hp hd =>
  have m := Mono.fresh (o := .frz ob (.tup vs)) hp
  f (.tup ds) A _ _ q m (ra.aside hp) ⟨p, vs, rfl, .inl ⟨ob, upd_same, hd⟩, r.mono m⟩
theorem laidT {pins : List (Addr × Obj)} {σ : L2.St} {H : Hp} {s : Shared} {t : Nat} {h : Heap} {xs : List V} {us : List Value} {Q : VK} (I : Inv X pins σ H { s with heap := h, toks := t }) (r : Vals xs us) (z : xs.length ≤ sizeLine) (q : newT xs H Q) :
    EP X pins σ Q (.ref h.objs.size) { s with heap := h.push { cls := .type "tuple", data := .seq us.toArray }, toks := t } := by
  refine ⟨.ref h.objs.size, upd H h.objs.size (.frz { cls := .type "tuple", data := .seq us.toArray } (.tup xs)), ?_, rfl, q _ _ (I.hok.fresh (Nat.le_refl _)) ⟨rfl, rfl⟩⟩
  exact I.laid (t' := t) (fun b ob q => Heap.get?_push_of_some _ q) (Nat.le_refl _) ⟨Heap.get?_push_size _ rfl, z, us, r, IsTup.new _ _⟩
/-- tuple + tuple -/
def rCatN (K : PySem.W.Frag) : R2 := fun x y H Q => ∃ a b xs ys, x = .ref a ∧ y = .ref b ∧ SqT K H a xs ∧ SqT K H b ys ∧ xs.length + ys.length ≤ sizeLine ∧
  (xs = [] → Q (.ref b) H) ∧ (xs ≠ [] → ys = [] → Q (.ref a) H) ∧ (xs ≠ [] → ys ≠ [] → newT (xs ++ ys) H Q)
theorem op_catN : OpR X (binaryOp .Add) (rCatN X.K) := by
  intro pins s σ H x y v u Q I rx ry h
  obtain ⟨a, b, xs, ys, rfl, rfl, ha, hb, hz, q0, q1, q2⟩ := h
  cases rx
  cases ry
  obtain ⟨its, r1, p1, _⟩ := I.tuple ha
  obtain ⟨its2, r2, p2, _⟩ := I.tuple hb
  by_cases hx : xs = []
  · subst hx
    cases r1
    exact cat_tup0 p1 p2 ⟨.ref b, H, I, rfl, q0 rfl⟩
  · refine HT.cat_tup p1 p2 (fun z => hx (r1.nil_iff.mp z)) (fun z => ⟨.ref a, H, I, rfl, q1 hx (r2.nil_iff.mp z)⟩) (fun z => ?_) (by rw [← r1.length, ← r2.length]; exact hz)
    exact laidT (h := s.heap) (t := s.toks) I (r1.append r2) (by rw [List.length_append]; exact hz) (q2 hx fun w => z (r2.nil_iff.mpr w))
/-- list + list -/
def rCatL (K : PySem.W.Frag) : R2 := fun x y H Q => ∃ a b xs ys, x = .ref a ∧ y = .ref b ∧ SqL K H a xs ∧ SqL K H b ys ∧ xs.length + ys.length ≤ sizeLine ∧ ∀ p, H p = none → Q (.ref p) (upd H p (.lst (xs ++ ys)))
theorem op_catL : OpR X (binaryOp .Add) (rCatL X.K) := by
  intro pins s σ H x y v u Q I rx ry h
  obtain ⟨a, b, xs, ys, rfl, rfl, ha, hb, hz, q⟩ := h
  cases rx
  cases ry
  obtain ⟨its, r1, ⟨o1, n1, e1, hc1, hd1, hs1⟩, z1⟩ := I.list ha
  obtain ⟨its2, r2, ⟨o2, n2, e2, hc2, hd2, hs2⟩, z2⟩ := I.list hb
  obtain ⟨cls, dd, data, sl⟩ := o1
  obtain ⟨cls2, dd2, data2, sl2⟩ := o2
  simp only at hc1 hd1 hs1 hc2 hd2 hs2
  subst hc1 hd1 hs1 hc2 hd2 hs2
  have e : its.toArray ++ its2.toArray = (its ++ its2).toArray := by simp
  refine concat_meets ⟨_, e1, rfl⟩ ⟨_, e2, rfl⟩ noFill_list_add seq_list_add PySem.F.slot_list_add PySem.F.entry_list_add (PySem.F.args_list_add_2 _ _) (list_addW a b its.toArray its2.toArray n1 n2 _ _ sl sl2 (by rw [List.size_toArray, List.size_toArray, ← r1.length, ← r2.length]; exact hz)) ⟨e1, e2, ?_⟩
  rw [e]
  exact ⟨.ref _, _, I.lnew (t' := s.toks) (r1.append r2) (by rw [List.length_append]; exact hz), rfl, q _ I.fresh⟩
theorem Rd_sql {K : PySem.W.Frag} {H : Hp} {a : Addr} {xs : List V} (h : Rd H a (.lst xs)) : SqL K H a xs := .inl h

/-! ### + - * // % ** -/
theorem d_add (hK : X.K = c.K) : OpR X (binaryOp .Add) (lR2 c (rBin .add)) := by
  refine OpR.imp (op_add.or (op_add_str.or (op_catN.or (OpR.fz op_catL)))) fun x y H Q h => ?_
  obtain ⟨A, dx, dy, Qd, ra, rx, ry, r, f⟩ := h
  have gen : (match lstD A dx, lstD A dy with
    | some xs, some ys => xs.length + ys.length ≤ sizeLine ∧ allocL (xs ++ ys) A Qd
    | _, _ => False) → (rCatL X.K) x y H (FzS Q) := fun r => by
    split at r
    · rename_i xs ys e1 e2
      obtain ⟨a, vs, rfl, h1, r1⟩ := lstD_rel ra rx e1
      obtain ⟨b, ws, rfl, h2, r2⟩ := lstD_rel ra ry e2
      exact ⟨a, b, vs, ws, rfl, rfl, by rw [hK]; exact h1, by rw [hK]; exact h2, by rw [r1.length, r2.length]; exact r.1, f.lst r.2 ra (r1.app r2)⟩
    · exact r.elim
  cases dx <;> cases dy <;> try exact .inr (.inr (.inr (gen r)))
  · exact .inl ⟨_, _, rx, ry, f.here r ra rfl⟩
  · exact .inr (.inl ⟨_, _, rx, ry, r.1, f.here r.2 ra rfl⟩)
  · rename_i xs ys
    obtain ⟨a, vs, rfl, h1, r1⟩ := rx
    obtain ⟨b, ws, rfl, h2, r2⟩ := ry
    refine .inr (.inr (.inl ⟨a, b, vs, ws, rfl, rfl, by rw [hK]; exact h1.sqt, by rw [hK]; exact h2.sqt, by rw [r1.length, r2.length]; exact r.1, fun e => ?_, fun e1 e2 => ?_, fun e1 e2 => ?_⟩))
    · subst e
      have e1 : xs = [] := by have := r1.length; exact List.length_eq_zero_iff.mp (by simpa using this.symm)
      subst e1
      exact f.here (d := .tup ([] ++ ys)) r.2 ra ⟨b, ws, rfl, h2, r2⟩
    · subst e2
      have e3 : ys = [] := by have := r2.length; exact List.length_eq_zero_iff.mp (by simpa using this.symm)
      subst e3
      exact f.here (d := .tup (xs ++ [])) r.2 ra ⟨a, vs, rfl, h1, by rw [List.append_nil]; exact r1⟩
    · exact f.tup r.2 ra (r1.app r2)
theorem d_sub : OpR X (binaryOp .Sub) (lR2 c (rBin .sub)) := by
  refine OpR.imp op_sub fun x y H Q h => ?_
  obtain ⟨A, dx, dy, Qd, ra, rx, ry, r, f⟩ := h
  cases dx <;> cases dy <;> try exact r.elim
  exact ⟨_, _, rx, ry, f.here r ra rfl⟩
theorem flat_rep {K : PySem.W.Frag} {H : Hp} {ds : List D} {vs : List V} (r : RelDs K H ds vs) : ∀ n, RelDs K H (List.replicate n ds).flatten (List.replicate n vs).flatten
  | 0 => rfl
  | n + 1 => by
    rw [List.replicate_succ, List.replicate_succ, List.flatten_cons, List.flatten_cons]
    exact r.app (flat_rep r n)
theorem d_mul : OpR X (binaryOp .Mult) (lR2 c (rBin .mul)) := by
  refine OpR.imp (op_mulW.or (OpR.fz op_rep)) fun x y H Q h => ?_
  obtain ⟨A, dx, dy, Qd, ra, rx, ry, r, f⟩ := h
  cases dx <;> cases dy <;> try exact r.elim
  · exact .inl ⟨_, _, rx, ry, r.1, f.here r.2 ra rfl⟩
  · rename_i a k
    unfold rBin at r
    dsimp only at r
    split at r
    · rename_i xs e1
      obtain ⟨vs, h1, r1⟩ := ra a _ e1
      obtain ⟨k0, k1, hz, q⟩ := r
      exact .inr ⟨a, k, vs, rx, ry, h1, by omega, by omega, by rw [r1.length]; exact hz, f.lst q ra (flat_rep r1 _)⟩
    · exact r.elim
theorem d_fdiv : OpR X (binaryOp .FloorDiv) (lR2 c (rBin .fdiv)) := by
  refine OpR.imp op_fdivW fun x y H Q h => ?_
  obtain ⟨A, dx, dy, Qd, ra, rx, ry, r, f⟩ := h
  cases dx <;> cases dy <;> try exact r.elim
  exact ⟨_, _, rx, ry, r.1, f.here r.2 ra rfl⟩
theorem d_mod : OpR X (binaryOp .Mod) (lR2 c (rBin .mod)) := by
  refine OpR.imp op_mod fun x y H Q h => ?_
  obtain ⟨A, dx, dy, Qd, ra, rx, ry, r, f⟩ := h
  cases dx <;> cases dy <;> try exact r.elim
  exact ⟨_, _, rx, ry, r.1, f.here r.2 ra rfl⟩
theorem op_powW : OpR X (binaryOp .Pow) (rI CPowW fun i j => .int (i ^ j.toNat)) := opI fun i j _ _ _ _ _ hc q => by
  obtain ⟨h0, h1, h2⟩ := hc
  refine pow_int h0 ?_ q
  have b : Builtin.Int.intBits i ≤ 10000 := by
    unfold Builtin.Int.intBits
    split <;> omega
  have h3 : (Builtin.Int.intBits i : Int) * j ≤ 10000 * j := Int.mul_le_mul_of_nonneg_right (by omega) h0
  omega
theorem d_pow : OpR X (binaryOp .Pow) (lR2 c (rBin .pow)) := by
  refine OpR.imp op_powW fun x y H Q h => ?_
  obtain ⟨A, dx, dy, Qd, ra, rx, ry, r, f⟩ := h
  cases dx <;> cases dy <;> try exact r.elim
  exact ⟨_, _, rx, ry, r.1, f.here r.2 ra rfl⟩
def bopOp : BOp → Operator | .add => .Add | .sub => .Sub | .mul => .Mult | .fdiv => .FloorDiv | .mod => .Mod | .pow => .Pow
theorem d_bin (hK : X.K = c.K) : ∀ o : BOp, OpR X (binaryOp (bopOp o)) (lR2 c (rBin o))
  | .add => d_add hK | .sub => d_sub | .mul => d_mul | .fdiv => d_fdiv | .mod => d_mod | .pow => d_pow

/-! ### comparisons -/
theorem snaps_of {A : AH} {H : Hp} {n : Nat} (ih : ∀ (d : D) (v : V) (p : PyData), RelD c.K H d v → snap A n d = some p → Dp c.K H v p) : ∀ (ds : List D) (vs : List V) (ps : List PyData), RelDs c.K H ds vs → allSome (ds.map (snap A n)) = some ps → DpAll c.K H vs ps
  | [], _, _, r, e => by cases (show _ = [] from r); simp only [List.map_nil, allSome] at e; cases e; exact .nil
  | d :: ds, _, _, ⟨v, w, ev, h, r⟩, e => by
    subst ev
    rw [List.map_cons] at e
    cases q1 : snap A n d with
    | none => rw [q1] at e; simp only [allSome] at e; cases e
    | some p =>
      rw [q1] at e
      simp only [allSome] at e
      cases q2 : allSome (ds.map (snap A n)) with
      | none => rw [q2] at e; cases e
      | some ps =>
        rw [q2] at e
        cases e
        exact .cons (ih d v p h q1) (snaps_of ih ds w ps r q2)
theorem snap_ok {A : AH} {H : Hp} (ra : RelA c A H) : ∀ (n : Nat) (d : D) (v : V) (p : PyData), RelD c.K H d v → snap A n d = some p → Dp c.K H v p
  | _, .non, _, _, r, e => by simp only [snap] at e; cases e; cases r; exact .non
  | _, .bl _, _, _, r, e => by simp only [snap] at e; cases e; cases r; exact .bl _
  | _, .int _, _, _, r, e => by simp only [snap] at e; cases e; cases r; exact .int _
  | _, .str _, _, _, r, e => by simp only [snap] at e; cases e; cases r; exact .str _
  | 0, .tup _, _, _, r, e => by simp only [snap] at e; cases e
  | 0, .ref _, _, _, r, e => by simp only [snap] at e; cases e
  | n + 1, .tup ds, _, _, ⟨a, vs, ev, h, r⟩, e => by
    simp only [snap] at e
    subst ev
    cases q : allSome (ds.map (snap A n)) with
    | none => rw [q] at e; cases e
    | some ps =>
      rw [q] at e
      cases e
      exact .tup h.sqt (snaps_of (snap_ok ra n) ds vs ps r q)
  | 0, .fl _, _, _, r, e => by simp only [snap] at e; cases e
  | 0, .fd _ _, _, _, r, e => by simp only [snap] at e; cases e
  | n + 1, .fd ks ds, _, _, r, e => by simp only [snap] at e; cases e
  | n + 1, .fl ds, _, _, ⟨a, vs, ev, h, r⟩, e => by
    simp only [snap] at e
    subst ev
    cases q : allSome (ds.map (snap A n)) with
    | none => rw [q] at e; cases e
    | some ps =>
      rw [q] at e
      cases e
      exact .lst h.sql (snaps_of (snap_ok ra n) ds vs ps r q)
  | n + 1, .ref a, _, _, r, e => by
    simp only [snap] at e
    cases r
    cases g : getL A a with
    | none => rw [g] at e; cases e
    | some ds =>
      rw [g] at e
      dsimp only at e
      cases q : allSome (ds.map (snap A n)) with
      | none => rw [q] at e; cases e
      | some ps =>
        rw [q] at e
        cases e
        obtain ⟨vs, h, r⟩ := getL_rel ra g
        exact .lst (Rd_sql h) (snaps_of (snap_ok ra n) ds vs ps r q)
theorem eqD_ok {A : AH} {H : Hp} {dx dy : D} {x y : V} {b : Bool} (ra : RelA c A H) (rx : RelD c.K H dx x) (ry : RelD c.K H dy y) (e : eqD A dx dy = some b) :
    (scal x y = true ∧ decide (x = y) = b) ∨ ∃ d e', Dp c.K H x d ∧ Dp c.K H y e' ∧ SeqAt.shaped d = true ∧ SeqAt.shaped e' = true ∧ PyData.eqv d e' = b := by
  unfold eqD at e
  split at e
  · cases rx
    cases ry
    cases e
    exact .inl ⟨rfl, by simp⟩
  · cases rx
    cases ry
    cases e
    exact .inl ⟨rfl, by simp⟩
  · split at e
    · rename_i p q hp hq
      split at e
      · rename_i hs
        cases e
        rw [Bool.and_eq_true] at hs
        exact .inr ⟨p, q, snap_ok ra _ _ _ _ rx hp, snap_ok ra _ _ _ _ ry hq, hs.1, hs.2, rfl⟩
      · cases e
    · cases e
theorem d_eq (hK : X.K = c.K) (hu : X.A.units + 64 < cLine) : OpR X (compareOp .Eq) (lR2 c (rCmp .eq)) := by
  refine OpR.imp (op_eq.or (op_eqD hu)) fun x y H Q h => ?_
  obtain ⟨A, dx, dy, Qd, ra, rx, ry, r, f⟩ := h
  unfold rCmp at r
  dsimp only at r
  split at r
  · rename_i b e
    rcases eqD_ok ra rx ry e with ⟨h1, h2⟩ | ⟨d, e', h1, h2, s1, s2, ev⟩
    · exact .inl ⟨h1, by rw [h2]; exact f.here r ra rfl⟩
    · rw [hK]
      exact .inr ⟨d, e', h1, h2, s1, s2, by rw [ev]; exact f.here r ra rfl⟩
  · exact r.elim
theorem d_ne (hK : X.K = c.K) (hu : X.A.units + 64 < cLine) : OpR X (compareOp .NotEq) (lR2 c (rCmp .ne)) := by
  refine OpR.imp (op_ne.or (op_neD hu)) fun x y H Q h => ?_
  obtain ⟨A, dx, dy, Qd, ra, rx, ry, r, f⟩ := h
  unfold rCmp at r
  dsimp only at r
  split at r
  · rename_i b e
    rcases eqD_ok ra rx ry e with ⟨h1, h2⟩ | ⟨d, e', h1, h2, s1, s2, ev⟩
    · exact .inl ⟨h1, by rw [h2]; exact f.here r ra rfl⟩
    · rw [hK]
      exact .inr ⟨d, e', h1, h2, s1, s2, by rw [ev]; exact f.here r ra rfl⟩
  · exact r.elim
theorem d_lt : OpR X (compareOp .Lt) (lR2 c (rCmp .lt)) := by
  refine OpR.imp op_lt fun x y H Q h => ?_
  obtain ⟨A, dx, dy, Qd, ra, rx, ry, r, f⟩ := h
  cases dx <;> cases dy <;> try exact r.elim
  exact ⟨_, _, rx, ry, f.here r ra rfl⟩
theorem d_le : OpR X (compareOp .LtE) (lR2 c (rCmp .le)) := by
  refine OpR.imp op_le fun x y H Q h => ?_
  obtain ⟨A, dx, dy, Qd, ra, rx, ry, r, f⟩ := h
  cases dx <;> cases dy <;> try exact r.elim
  exact ⟨_, _, rx, ry, f.here r ra rfl⟩
theorem d_gt : OpR X (compareOp .Gt) (lR2 c (rCmp .gt)) := by
  refine OpR.imp op_gt fun x y H Q h => ?_
  obtain ⟨A, dx, dy, Qd, ra, rx, ry, r, f⟩ := h
  cases dx <;> cases dy <;> try exact r.elim
  exact ⟨_, _, rx, ry, f.here r ra rfl⟩
theorem d_ge : OpR X (compareOp .GtE) (lR2 c (rCmp .ge)) := by
  refine OpR.imp op_ge fun x y H Q h => ?_
  obtain ⟨A, dx, dy, Qd, ra, rx, ry, r, f⟩ := h
  cases dx <;> cases dy <;> try exact r.elim
  exact ⟨_, _, rx, ry, f.here r ra rfl⟩
theorem non_iff {K : PySem.W.Frag} {H : Hp} {d : D} {x : V} (r : RelD K H d x) : decide (x = V.non) = (match d with | .non => true | _ => false) := by
  cases d with
  | tup ds => obtain ⟨a, vs, e, _⟩ := r; subst e; simp
  | fl ds => obtain ⟨a, vs, e, _⟩ := r; subst e; simp
  | fd ks ds => obtain ⟨a, vs, e, _⟩ := r; subst e; simp
  | _ => cases r; simp
theorem d_is : OpR X (compareOp .Is) (lR2 c (rCmp .is_)) := by
  intro pins s σ H x y v u Q I rx' ry' h
  obtain ⟨A, dx, dy, Qd, ra, rx, ry, r, f⟩ := h
  cases dy <;> try exact r.elim
  · refine op_isN pins s σ H x y v u Q I rx' ry' ⟨ry, ?_⟩
    rw [non_iff rx]
    refine f.here r ra ?_
    cases dx <;> rfl
  · cases dx <;> try exact r.elim
    exact op_is_bl pins s σ H x y v u Q I rx' ry' ⟨_, _, rx, ry, f.here r ra rfl⟩
theorem d_isn : OpR X (compareOp .IsNot) (lR2 c (rCmp .isn)) := by
  intro pins s σ H x y v u Q I rx' ry' h
  obtain ⟨A, dx, dy, Qd, ra, rx, ry, r, f⟩ := h
  cases dy <;> try exact r.elim
  · refine op_notN pins s σ H x y v u Q I rx' ry' ⟨ry, ?_⟩
    rw [non_iff rx]
    refine f.here r ra ?_
    cases dx <;> rfl
  · cases dx <;> try exact r.elim
    exact op_isnot_bl pins s σ H x y v u Q I rx' ry' ⟨_, _, rx, ry, f.here r ra rfl⟩
theorem flat_ok {K : PySem.W.Frag} {H : Hp} {d : D} {x : V} (r : RelD K H d x) (h : flatD d = true) : flatV x = true := by
  cases d <;> first | (cases r; rfl) | cases h
theorem flats_ok {K : PySem.W.Frag} {H : Hp} : ∀ {ds : List D} {xs : List V}, RelDs K H ds xs → ds.all flatD = true → xs.all flatV = true
  | [], _, r, _ => by cases (show _ = [] from r); rfl
  | d :: ds, _, ⟨v, w, e, h, r⟩, q => by
    subst e
    rw [List.all_cons, Bool.and_eq_true] at q ⊢
    exact ⟨flat_ok h q.1, flats_ok r q.2⟩
theorem eqF_ok {K : PySem.W.Frag} {H : Hp} {d e : D} {x y : V} (r : RelD K H d x) (q : RelD K H e y) (h : flatD d = true) (h2 : flatD e = true) : eqV x y = eqF d e := by
  cases d <;> first | (cases h; done) | (cases r; cases e <;> first | (cases h2; done) | (cases q; rfl))
theorem inF_ok {K : PySem.W.Frag} {H : Hp} {d : D} {x : V} (r : RelD K H d x) (h : flatD d = true) : ∀ {ds : List D} {xs : List V}, RelDs K H ds xs → ds.all flatD = true → inV x xs = inF d ds
  | [], _, q, _ => by cases (show _ = [] from q); rfl
  | e :: ds, _, ⟨v, w, ev, h1, q⟩, a => by
    subst ev
    rw [List.all_cons, Bool.and_eq_true] at a
    have ih := inF_ok r h q a.2
    unfold inV inF at *
    rw [List.any_cons, List.any_cons, ih, eqF_ok h1 r a.1 h]
theorem seq_ok {A : AH} {H : Hp} {d : D} {x : V} {ds : List D} (ra : RelA c A H) (r : RelD c.K H d x) (e : seqD A d = some ds) : ∃ p vs, x = .ref p ∧ (SqL c.K H p vs ∨ SqT c.K H p vs) ∧ RelDs c.K H ds vs := by
  cases d <;> first | (simp only [seqD] at e; cases e; done) | skip
  · simp only [seqD] at e
    cases e
    obtain ⟨a, vs, e, h, q⟩ := r
    exact ⟨a, vs, e, .inr h.sqt, q⟩
  · simp only [seqD] at e
    obtain ⟨vs, h, q⟩ := getL_rel ra e
    exact ⟨_, vs, r, .inl (Rd_sql h), q⟩
  · simp only [seqD] at e
    cases e
    obtain ⟨a, vs, e, h, q⟩ := r
    exact ⟨a, vs, e, .inl h.sql, q⟩
/-- k in a dict, by values -/
def rInD (neg : Bool) : R2 := fun y x H Q => ∃ a o, x = .ref a ∧ DGet H a y o ∧ Q (.bl (o.isSome != neg)) H
theorem op_inD (hu : X.A.units + 1 < cLine) : OpR X (compareOp .In) (rInD false) := by
  intro pins s σ H y x u v Q I ry rx h
  obtain ⟨a, o, rfl, g, q⟩ := h
  cases rx
  exact d_in hu I g ry fun s' I' => ⟨.bl _, H, I', rfl, by simpa using q⟩
theorem op_ninD (hu : X.A.units + 1 < cLine) : OpR X (compareOp .NotIn) (rInD true) := by
  intro pins s σ H y x u v Q I ry rx h
  obtain ⟨a, o, rfl, g, q⟩ := h
  cases rx
  exact d_notIn hu I g ry fun s' I' => ⟨.bl _, H, I', rfl, by simpa using q⟩
theorem dget_of {A : AH} {H : Hp} {d i : D} {x y : V} {kvs : List (Key × D)} {k : Key} (ra : RelA c A H) (rx : RelD c.K H d x) (ry : RelD c.K H i y) (h : mapD A d = some kvs) (hk : dkey i = some k) :
    ∃ a o, x = .ref a ∧ DGet H a y o ∧ ((lookK kvs k = none ∧ o = none) ∨ ∃ e v, lookK kvs k = some e ∧ o = some v ∧ RelD c.K H e v) := by
  obtain ⟨a, ws, rfl, hr, rk⟩ := mapD_rel ra rx h
  cases dkey_rel hk ry
  exact ⟨a, valV ws k, rfl, .inl ⟨ws, k, hr, rfl, rfl⟩, rk.look k⟩
theorem d_inO (hK : X.K = c.K) (hu : X.A.units + 64 < cLine) : OpR X (compareOp .In) (lR2 c (rCmp .in_)) := by
  refine OpR.imp (OpR.or (OpR.or op_in_seq (op_inD (by omega))) (op_inTab (by omega))) fun x y H Q h => ?_
  obtain ⟨A, dx, dy, Qd, ra, rx, ry, r, f⟩ := h
  unfold rCmp at r
  dsimp only at r
  split at r
  · rename_i kvs e
    split at r
    · rename_i k ek
      obtain ⟨a, o, e1, g, z⟩ := dget_of ra ry rx e ek
      refine .inl (.inr ⟨a, o, e1, g, ?_⟩)
      have : o.isSome = (lookK kvs k).isSome := by rcases z with ⟨z1, z2⟩ | ⟨e, v, z1, z2, _⟩ <;> simp [z1, z2]
      rw [this]
      exact f.here r ra (by simp [RelD])
    · exact r.elim
  · split at r
    · rename_i ds e
      obtain ⟨p, vs, e1, h, q⟩ := seq_ok ra ry e
      split at r
      · rename_i pr ep
        split at r
        · rename_i rs er
          rw [hK]
          exact .inr ⟨p, vs, dx, ds, pr.1, pr.2, rs, e1, h, rx, q, ep, er, f.here r ra rfl⟩
        · exact r.elim
      · rw [hK]
        refine .inl (.inl ⟨p, vs, e1, h, flat_ok rx r.1, flats_ok q r.2.1, ?_⟩)
        rw [inF_ok rx r.1 q r.2.1]
        exact f.here r.2.2 ra rfl
    · exact r.elim
theorem d_ninO (hK : X.K = c.K) (hu : X.A.units + 64 < cLine) : OpR X (compareOp .NotIn) (lR2 c (rCmp .nin)) := by
  refine OpR.imp (OpR.or (OpR.or op_notIn_seq (op_ninD (by omega))) (op_ninTab (by omega))) fun x y H Q h => ?_
  obtain ⟨A, dx, dy, Qd, ra, rx, ry, r, f⟩ := h
  unfold rCmp at r
  dsimp only at r
  split at r
  · rename_i kvs e
    split at r
    · rename_i k ek
      obtain ⟨a, o, e1, g, z⟩ := dget_of ra ry rx e ek
      refine .inl (.inr ⟨a, o, e1, g, ?_⟩)
      have : o.isSome = (lookK kvs k).isSome := by rcases z with ⟨z1, z2⟩ | ⟨e, v, z1, z2, _⟩ <;> simp [z1, z2]
      rw [this]
      exact f.here r ra (by simp [RelD])
    · exact r.elim
  · split at r
    · rename_i ds e
      obtain ⟨p, vs, e1, h, q⟩ := seq_ok ra ry e
      split at r
      · rename_i pr ep
        split at r
        · rename_i rs er
          rw [hK]
          exact .inr ⟨p, vs, dx, ds, pr.1, pr.2, rs, e1, h, rx, q, ep, er, f.here r ra rfl⟩
        · exact r.elim
      · rw [hK]
        refine .inl (.inl ⟨p, vs, e1, h, flat_ok rx r.1, flats_ok q r.2.1, ?_⟩)
        rw [inF_ok rx r.1 q r.2.1]
        exact f.here r.2.2 ra rfl
    · exact r.elim
def copOp : COp → CmpOp | .eq => .Eq | .ne => .NotEq | .lt => .Lt | .le => .LtE | .gt => .Gt | .ge => .GtE | .is_ => .Is | .isn => .IsNot | .in_ => .In | .nin => .NotIn
theorem d_cmp (hK : X.K = c.K) (hu : X.A.units + 64 < cLine) : ∀ o : COp, OpR X (compareOp (copOp o)) (lR2 c (rCmp o))
  | .eq => d_eq hK hu | .ne => d_ne hK hu | .lt => d_lt | .le => d_le | .gt => d_gt | .ge => d_ge | .is_ => d_is | .isn => d_isn | .in_ => d_inO hK hu | .nin => d_ninO hK hu
end
end Py

/-! repr of plain data, dicts among it -/
namespace Py
open PySem PySem.Spec PyProof.Rows L2
mutual
/-- what stands at a value: plain data; no dict is sys.modules -/
inductive RdM (h : Heap) : Value → PyData → Prop
  | non : RdM h .none .none
  | bl (b) : RdM h (.bool b) (.bool b)
  | int (i t) : RdM h (.int i t) (.int i)
  | str (x t) : RdM h (.str x t) (.str x)
  | lst {p ob vs n ds} : h.get? p = some ob → ob.cls = .type "list" → ob.data = .seq vs n → RdMs h vs.toList ds → RdM h (.ref p) (.list ds)
  | tup {p ob vs n ds} : h.get? p = some ob → ob.cls = .type "tuple" → ob.data = .seq vs n → RdMs h vs.toList ds → RdM h (.ref p) (.tuple ds)
  | dct {p ob es n kvs} : h.get? p = some ob → ob.cls = .type "dict" → ob.data = .dict es n → (p == sysModules) = false → RdMs h (es.toList.map (·.key)) (kvs.map (·.1)) → RdMs h (es.toList.map (·.val)) (kvs.map (·.2)) → RdM h (.ref p) (.dict kvs)
inductive RdMs (h : Heap) : List Value → List PyData → Prop
  | nil : RdMs h [] []
  | cons {v vs d ds} : RdM h v d → RdMs h vs ds → RdMs h (v :: vs) (d :: ds)
end
section
variable {h : Heap} {P : Program} {w : World}
mutual
theorem RdM.reads : ∀ {v : Value} {d : PyData}, RdM h v d → ∃ as, Reads h v d as
  | _, _, .non => ⟨_, .none⟩
  | _, _, .bl b => ⟨_, .bool b⟩
  | _, _, .int i t => ⟨_, .int i t⟩
  | _, _, .str x t => ⟨_, .str x t⟩
  | _, _, .lst k1 k2 k3 k4 => let ⟨_, z⟩ := RdMs.reads k4; ⟨_, .list k1 k2 k3 z⟩
  | _, _, .tup k1 k2 k3 k4 => let ⟨_, z⟩ := RdMs.reads k4; ⟨_, .tuple k1 k2 k3 z⟩
  | _, _, .dct k1 k2 k3 _ k4 k5 => let ⟨_, y⟩ := RdMs.reads k4; let ⟨_, z⟩ := RdMs.reads k5; ⟨_, .dict k1 k2 k3 y z⟩
theorem RdMs.reads : ∀ {vs : List Value} {ds : List PyData}, RdMs h vs ds → ∃ as, ReadsAll h vs ds as
  | _, _, .nil => ⟨_, .nil⟩
  | _, _, .cons k ks => let ⟨_, y⟩ := RdM.reads k; let ⟨_, z⟩ := RdMs.reads ks; ⟨_, .cons y z⟩
end
theorem noRead {n : Nat} : ReadAtMost h n [] := (fun _ z => nomatch z)
theorem le_list {ds : List PyData} (hz : (PyData.list ds).shown.length ≤ sizeLine) : ∀ t ∈ PyData.shownAll ds, t.length ≤ sizeLine := fun t ht => by
  simp only [PyData.shown] at hz
  exact Nat.le_trans (listText_mem_le ht) hz
theorem le_tup {ds : List PyData} (hz : (PyData.tuple ds).shown.length ≤ sizeLine) : ∀ t ∈ PyData.shownAll ds, t.length ≤ sizeLine := fun t ht => by
  simp only [PyData.shown] at hz
  exact Nat.le_trans (tupleText_mem_le ht) hz
theorem le_keys {kvs : List (PyData × PyData)} (hz : (PyData.dict kvs).shown.length ≤ sizeLine) : ∀ t ∈ PyData.shownAll (kvs.map (·.1)), t.length ≤ sizeLine := fun t ht => by
  simp only [PyData.shown] at hz
  obtain ⟨q, hq, hl⟩ := PyData.shownKv_key_le kvs t ht
  have := dictText_mem_le hq
  omega
theorem le_vals {kvs : List (PyData × PyData)} (hz : (PyData.dict kvs).shown.length ≤ sizeLine) : ∀ t ∈ PyData.shownAll (kvs.map (·.2)), t.length ≤ sizeLine := fun t ht => by
  simp only [PyData.shown] at hz
  obtain ⟨q, hq, hl⟩ := PyData.shownKv_val_le kvs t ht
  have := dictText_mem_le hq
  omega
mutual
theorem RdM.k : ∀ {v : Value} {d : PyData}, RdM h v d → d.showable = true → d.shown.length ≤ sizeLine → ∃ L, ReadAtMost h d.depth L ∧ ReprK P w L h d.depth v d.shown
  | _, _, .non, _, _ => ⟨[], noRead, by simp only [PyData.shown]; exact .of_is ReprIs.none _ _ _⟩
  | _, _, .bl b, _, _ => ⟨[], noRead, by simp only [PyData.shown]; exact .of_is (ReprIs.bool b) _ _ _⟩
  | _, _, .int i t, sh, _ => ⟨[], noRead, by simp only [PyData.shown]; exact .of_is (ReprIs.int t (by simpa [PyData.showable] using sh)) _ _ _⟩
  | _, _, .str x t, _, lz => ⟨[], noRead, by simp only [PyData.shown] at lz ⊢; exact .of_is (ReprIs.str x t lz) _ _ _⟩
  | _, _, .lst (p := p) (vs := vs) (ds := ds) k1 k2 k3 k4, sh, lz => by
    obtain ⟨L, l1, l2⟩ := RdMs.k k4 (by simpa [PyData.showable] using sh) (le_list lz)
    obtain ⟨_, rd⟩ := RdM.reads (.lst k1 k2 k3 k4)
    have deep : (PyData.list ds).depth = PyData.depthAll ds + 1 := by simp only [PyData.depth]
    have out := not_mem_of_deeper rd (by omega) l1
    refine ⟨p :: L, .cons rd (by omega) l1, ?_⟩
    rw [deep]
    simp only [PyData.shown]
    rcases vs with ⟨_ | ⟨x, l⟩⟩
    · have k5 : RdMs h [] ds := k4
      cases k5
      simp only [PyData.shownAll, listText_nil]
      exact .listEmpty k1 k2 k3
    · exact .list k1 k2 k3 out (by simpa using l2.length_eq) fun i y e => l2.item i y (by simpa using e)
  | _, _, .tup (p := p) (ds := ds) k1 k2 k3 k4, sh, lz => by
    obtain ⟨L, l1, l2⟩ := RdMs.k k4 (by simpa [PyData.showable] using sh) (le_tup lz)
    obtain ⟨_, rd⟩ := RdM.reads (.tup k1 k2 k3 k4)
    have deep : (PyData.tuple ds).depth = PyData.depthAll ds + 1 := by simp only [PyData.depth]
    have out := not_mem_of_deeper rd (by omega) l1
    refine ⟨p :: L, .cons rd (by omega) l1, ?_⟩
    rw [deep]
    simp only [PyData.shown]
    exact .tuple k1 k2 k3 out l2
  | _, _, .dct (p := p) (es := es) (kvs := kvs) k1 k2 k3 ks k4 k5, sh, lz => by
    obtain ⟨s1, s2⟩ := PyData.showableKv_split kvs (by simpa [PyData.showable] using sh)
    obtain ⟨L, l1, l2⟩ := RdMs.k k4 s1 (le_keys lz)
    obtain ⟨M, m1, m2⟩ := RdMs.k k5 s2 (le_vals lz)
    obtain ⟨_, rd⟩ := RdM.reads (.dct k1 k2 k3 ks k4 k5)
    have deep : (PyData.dict kvs).depth = PyData.depthKv kvs + 1 := by simp only [PyData.depth]
    have both : ReadAtMost h (PyData.depthKv kvs) (L ++ M) := (l1.mono (PyData.depthAll_keys_le kvs)).append (m1.mono (PyData.depthAll_vals_le kvs))
    have out := not_mem_of_deeper rd (by omega) both
    have ent := ReprEntriesK.of_two es.toList _ _ (l2.more_le (fun q hq => List.mem_append_left M hq) (PyData.depthAll_keys_le kvs)) (m2.more_le (fun q hq => List.mem_append_right L hq) (PyData.depthAll_vals_le kvs))
    refine ⟨p :: (L ++ M), .cons rd (by omega) both, ?_⟩
    rw [deep]
    simp only [PyData.shown, PyData.shownKv_eq]
    exact .dict k1 k2 k3 ks out ent
theorem RdMs.k : ∀ {vs : List Value} {ds : List PyData}, RdMs h vs ds → PyData.showableAll ds = true → (∀ t ∈ PyData.shownAll ds, t.length ≤ sizeLine) → ∃ L, ReadAtMost h (PyData.depthAll ds) L ∧ ReprAllK P w L h (PyData.depthAll ds) vs (PyData.shownAll ds)
  | _, _, .nil, _, _ => ⟨[], noRead, by simp only [PyData.shownAll]; exact .nil⟩
  | _, _, .cons (d := d) (ds := ds) k ks, sh, lz => by
    simp only [PyData.showableAll, Bool.and_eq_true] at sh
    simp only [PyData.shownAll, List.mem_cons, forall_eq_or_imp] at lz
    obtain ⟨L, l1, l2⟩ := RdM.k k sh.1 lz.1
    obtain ⟨M, m1, m2⟩ := RdMs.k ks sh.2 lz.2
    simp only [PyData.depthAll, PyData.shownAll]
    refine ⟨L ++ M, (l1.mono (Nat.le_max_left _ _)).append (m1.mono (Nat.le_max_right _ _)), ?_⟩
    exact .cons ((l2.more fun q hq => List.mem_append_left M hq).level_le (Nat.le_max_left _ _)) (m2.more_le (fun q hq => List.mem_append_right L hq) (Nat.le_max_right _ _))
end
theorem RdM.shows {p : Addr} {d : PyData} (r : RdM h (.ref p) d) (sh : d.showable = true) (lz : d.shown.length ≤ sizeLine) : ∃ T f, ShowsBy P w h p d T f := by
  have all := r
  cases r with
  | lst k1 k2 k3 k4 =>
    rename_i ob vs n ds
    obtain ⟨L, l1, l2⟩ := RdMs.k (P := P) (w := w) k4 (by simpa [PyData.showable] using sh) (le_list lz)
    obtain ⟨_, rd⟩ := all.reads
    have deep : (PyData.list ds).depth = PyData.depthAll ds + 1 := by simp only [PyData.depth]
    have out := not_mem_of_deeper rd (by omega) l1
    have lz2 : (listText (PyData.shownAll ds)).length ≤ sizeLine := by simpa only [PyData.shown] using lz
    refine ⟨"list", "list.__repr__", F.slot_list_repr.toG, F.slot_list_str, F.slot_list_format, fun t old => ⟨ob, old _ _ k1, k2⟩, ?_⟩
    intro A E t Q gd un old fin
    rw [deep] at un
    simp only [PyData.shown] at fin
    rcases vs with ⟨_ | ⟨x, l⟩⟩
    · have k5 : RdMs h [] ds := k4
      cases k5
      simp only [PyData.shownAll, listText_nil] at fin
      exact call_list_repr_empty ⟨ob, old _ _ k1, k2⟩ (old _ _ k1) k3 (fin t.heap _ _ fun _ _ z => z)
    · exact call_list_reprK k1 k2 k3 out (by simpa using l2.length_eq) (fun i y e => l2.item i y (by simpa using e)) gd (fun b _ => Clear.nil b) un old fin lz2
  | tup k1 k2 k3 k4 =>
    rename_i ob vs n ds
    obtain ⟨L, l1, l2⟩ := RdMs.k (P := P) (w := w) k4 (by simpa [PyData.showable] using sh) (le_tup lz)
    obtain ⟨_, rd⟩ := all.reads
    have deep : (PyData.tuple ds).depth = PyData.depthAll ds + 1 := by simp only [PyData.depth]
    have out := not_mem_of_deeper rd (by omega) l1
    have lz2 : (tupleText (PyData.shownAll ds)).length ≤ sizeLine := by simpa only [PyData.shown] using lz
    refine ⟨"tuple", "tuple.__repr__", F.slot_tuple_repr, F.slot_tuple_str, F.slot_tuple_format, fun t old => ⟨ob, old _ _ k1, k2⟩, ?_⟩
    intro A E t Q gd un old fin
    rw [deep] at un
    simp only [PyData.shown] at fin
    exact call_tuple_reprK k1 k2 k3 out l2 gd (fun b _ => Clear.nil b) un old fin lz2
  | dct k1 k2 k3 ks k4 k5 =>
    rename_i ob es n kvs
    obtain ⟨s1, s2⟩ := PyData.showableKv_split kvs (by simpa [PyData.showable] using sh)
    obtain ⟨L, l1, l2⟩ := RdMs.k (P := P) (w := w) k4 s1 (le_keys lz)
    obtain ⟨M, m1, m2⟩ := RdMs.k (P := P) (w := w) k5 s2 (le_vals lz)
    obtain ⟨_, rd⟩ := all.reads
    have deep : (PyData.dict kvs).depth = PyData.depthKv kvs + 1 := by simp only [PyData.depth]
    have both : ReadAtMost h (PyData.depthKv kvs) (L ++ M) := (l1.mono (PyData.depthAll_keys_le kvs)).append (m1.mono (PyData.depthAll_vals_le kvs))
    have out := not_mem_of_deeper rd (by omega) both
    have ent := ReprEntriesK.of_two es.toList _ _ (l2.more_le (fun q hq => List.mem_append_left M hq) (PyData.depthAll_keys_le kvs)) (m2.more_le (fun q hq => List.mem_append_right L hq) (PyData.depthAll_vals_le kvs))
    refine ⟨"dict", "dict.__repr__", F.slot_dict_repr, F.slot_dict_str, F.slot_dict_format, fun t old => ⟨ob, old _ _ k1, k2⟩, ?_⟩
    intro A E t Q gd un old fin
    rw [deep] at un
    simp only [PyData.shown, PyData.shownKv_eq] at fin lz
    exact call_dict_reprK k1 k2 k3 ks out ent gd (fun b _ => Clear.nil b) un old fin lz
theorem repr_RdM {A : Around} {E : Value → Shared → Prop} {s : Shared} {Q : Value → Shared → Prop} {p : Addr} {d : PyData} (r : RdM s.heap (.ref p) d) (sh : d.showable = true) (lz : d.shown.length ≤ sizeLine) (gd : A.guards = some []) (un : A.units + (d.depth + 1) < cLine)
    (fin : ∀ h' u tk, (∀ b o, s.heap.get? b = some o → h'.get? b = some o) → Q (.str d.shown u) { s with heap := h', toks := tk }) : wpAny (model P w) A (call (.builtin "repr") [.ref p]) Q E s := by
  obtain ⟨T, f, S⟩ := r.shows (P := P) (w := w) sh lz
  have un2 : A.in1.units + d.depth < cLine := by show A.units + 1 + d.depth < cLine; omega
  exact call_repr_slot (by omega) (S.typeIs s fun _ _ z => z) S.slotRepr (S.call A.in1 E s _ gd un2 (fun _ _ z => z) fun h' u tk old => ⟨_, _, rfl, fin h' u tk old⟩)
end
/-! ### the same of what is tracked -/
mutual
inductive DpM (K : PySem.W.Frag) (H : Hp) : V → PyData → Prop
  | non : DpM K H .non .none
  | bl (b : Bool) : DpM K H (.bl b) (.bool b)
  | int (i : Int) : DpM K H (.int i) (.int i)
  | str (x : Str) : DpM K H (.str x) (.str x)
  | lst {a : Addr} {xs : List V} {ds : List PyData} : SqL K H a xs → DpMs K H xs ds → DpM K H (.ref a) (.list ds)
  | tup {a : Addr} {xs : List V} {ds : List PyData} : SqT K H a xs → DpMs K H xs ds → DpM K H (.ref a) (.tuple ds)
  | dct {a : Addr} {kvs : List (Key × V)} {ds : List PyData} : Rd H a (.dK kvs) → DpMs K H (kvs.map (·.2)) ds → DpM K H (.ref a) (.dict ((kvs.map fun q => keyP q.1).zip ds))
inductive DpMs (K : PySem.W.Frag) (H : Hp) : List V → List PyData → Prop
  | nil : DpMs K H [] []
  | cons {v vs d ds} : DpM K H v d → DpMs K H vs ds → DpMs K H (v :: vs) (d :: ds)
end
theorem DpMs.length {K : PySem.W.Frag} {H : Hp} : ∀ {vs : List V} {ds : List PyData}, DpMs K H vs ds → vs.length = ds.length
  | _, _, .nil => rfl
  | _, _, .cons _ t => congrArg Nat.succ (DpMs.length t)
section
variable {X : Cx} {pins : List (Addr × Obj)} {σ : L2.St} {H : Hp} {s : Shared}
theorem keys_RdM {h : Heap} {P : Program} {w : World} : ∀ {es : List DictEntry} {vs : List (Key × Value)} {kvs : List (Key × V)}, Pairs (mixKind P w) es vs → KV kvs vs → RdMs h (es.map (·.key)) (kvs.map fun q => keyP q.1) ∧ Vals (kvs.map (·.2)) (es.map (·.val))
  | _, _, _, .nil, r => by
    cases r
    exact ⟨.nil, .nil⟩
  | _, _, _, .cons k1 k2 ks, r => by
    cases r with
    | cons r rs =>
      obtain ⟨z1, z2⟩ := keys_RdM (h := h) ks rs
      refine ⟨.cons ?_ z1, .cons (by dsimp only; rw [k2]; exact r.2) z2⟩
      have k1 : keyIs _ _ = true := k1
      dsimp only
      rcases keyIs_shape k1 with ⟨i, t, e1, e2⟩ | ⟨x, t, e1, e2⟩
      · rw [e2, r.1, e1]; exact .int i t
      · rw [e2, r.1, e1]; exact .str x t
mutual
theorem DpM.read (I : Inv X pins σ H s) : ∀ {v : V} {d : PyData} {u : Value}, DpM X.K H v d → RelV v u → RdM s.heap u d
  | _, _, _, .non, r => by cases r; exact .non
  | _, _, _, .bl b, r => by cases r; exact .bl b
  | _, _, _, .int i, r => by obtain ⟨t, rfl⟩ := r; exact .int i t
  | _, _, _, .str x, r => by obtain ⟨t, rfl⟩ := r; exact .str x t
  | _, _, _, .lst h1 h2, r => by
    obtain ⟨its, rv, ⟨o, n, g1, g2, _, g3⟩, _⟩ := I.list h1
    cases r
    exact .lst g1 g2 g3 (DpMs.read I h2 rv)
  | _, _, _, .tup h1 h2, r => by
    obtain ⟨its, rv, ⟨o, g1, g2, n, g3⟩, _⟩ := I.tuple h1
    cases r
    exact .tup g1 g2 g3 (DpMs.read I h2 rv)
  | _, _, _, .dct h1 h2, r => by
    obtain ⟨z, hd, vs, rel, dd⟩ := dk_rd I.hok h1
    obtain ⟨ob, es, n, g1, g2, g3, _, g4, _⟩ := dd
    obtain ⟨q1, q2⟩ := keys_RdM (h := s.heap) g4 rel
    have len := DpMs.length h2
    rw [List.length_map] at len
    cases r
    refine .dct g1 g2.1 g3 hd ?_ ?_
    · rw [List.map_fst_zip (by rw [List.length_map]; omega)]
      exact q1
    · rw [List.map_snd_zip (by rw [List.length_map]; omega)]
      exact DpMs.read I h2 q2
theorem DpMs.read (I : Inv X pins σ H s) : ∀ {vs : List V} {ds : List PyData} {us : List Value}, DpMs X.K H vs ds → Vals vs us → RdMs s.heap us ds
  | _, _, _, .nil, r => by cases r; exact .nil
  | _, _, _, .cons h hs, r => by
    cases r with
    | cons r rs => exact .cons (DpM.read I h r) (DpMs.read I hs rs)
end
end
/-! ### from the plain heap -/
section
variable {c : RC}
theorem snapsR_of {A : AH} {H : Hp} {n : Nat} (ih : ∀ (d : D) (v : V) (p : PyData), RelD c.K H d v → snapR A n d = some p → DpM c.K H v p) : ∀ (ds : List D) (vs : List V) (ps : List PyData), RelDs c.K H ds vs → allSome (ds.map (snapR A n)) = some ps → DpMs c.K H vs ps
  | [], _, _, r, e => by cases (show _ = [] from r); simp only [List.map_nil, allSome] at e; cases e; exact .nil
  | d :: ds, _, _, ⟨v, w, ev, h, r⟩, e => by
    subst ev
    rw [List.map_cons] at e
    cases q1 : snapR A n d with
    | none => rw [q1] at e; simp only [allSome] at e; cases e
    | some p =>
      rw [q1] at e
      simp only [allSome] at e
      cases q2 : allSome (ds.map (snapR A n)) with
      | none => rw [q2] at e; cases e
      | some ps =>
        rw [q2] at e
        cases e
        exact .cons (ih d v p h q1) (snapsR_of ih ds w ps r q2)
theorem map_some {α β : Type} {x : Option α} {f : α → β} {y : β} (h : x.map f = some y) : ∃ z, x = some z ∧ f z = y := by
  cases x with
  | none => cases h
  | some z => cases h; exact ⟨z, rfl, rfl⟩
theorem snapR_ok {A : AH} {H : Hp} (ra : RelA c A H) : ∀ (n : Nat) (d : D) (v : V) (p : PyData), RelD c.K H d v → snapR A n d = some p → DpM c.K H v p
  | _, .non, _, _, r, e => by simp only [snapR] at e; cases e; cases r; exact .non
  | _, .bl _, _, _, r, e => by simp only [snapR] at e; cases e; cases r; exact .bl _
  | _, .int _, _, _, r, e => by simp only [snapR] at e; cases e; cases r; exact .int _
  | _, .str _, _, _, r, e => by simp only [snapR] at e; cases e; cases r; exact .str _
  | 0, .tup _, _, _, r, e => by simp only [snapR] at e; cases e
  | 0, .ref _, _, _, r, e => by simp only [snapR] at e; cases e
  | 0, .fl _, _, _, r, e => by simp only [snapR] at e; cases e
  | 0, .fd _ _, _, _, r, e => by simp only [snapR] at e; cases e
  | n + 1, .tup ds, _, _, ⟨a, vs, ev, h, r⟩, e => by
    simp only [snapR] at e
    obtain ⟨ps, q, rfl⟩ := map_some e
    subst ev
    exact .tup h.sqt (snapsR_of (snapR_ok ra n) ds vs ps r q)
  | n + 1, .fl ds, _, _, ⟨a, vs, ev, h, r⟩, e => by
    simp only [snapR] at e
    obtain ⟨ps, q, rfl⟩ := map_some e
    subst ev
    exact .lst h.sql (snapsR_of (snapR_ok ra n) ds vs ps r q)
  | n + 1, .fd ks ds, _, _, ⟨a, ws, ev, ⟨o, h⟩, hk, r⟩, e => by
    simp only [snapR] at e
    obtain ⟨ps, q, rfl⟩ := map_some e
    subst ev hk
    have z := DpM.dct (K := c.K) (H := H) (a := a) (kvs := ws) (.inr ⟨o, h⟩) (snapsR_of (snapR_ok ra n) ds _ ps r q)
    rwa [List.map_map]
  | n + 1, .ref a, _, _, r, e => by
    simp only [snapR] at e
    cases r
    cases g : A a with
    | none => rw [g] at e; cases e
    | some u =>
      rw [g] at e
      cases u with
      | lst ds =>
        dsimp only at e
        obtain ⟨ps, q, rfl⟩ := map_some e
        obtain ⟨vs, h, r⟩ := getL_rel (c := c) ra (show getL A a = some ds by simp only [getL, g])
        exact .lst (Rd_sql h) (snapsR_of (snapR_ok ra n) ds vs ps r q)
      | dct kvs =>
        dsimp only at e
        obtain ⟨ps, q, rfl⟩ := map_some e
        obtain ⟨b, ws, eb, h, r⟩ := mapD_rel (c := c) (d := .ref a) (x := .ref a) ra rfl (show mapD A (.ref a) = some kvs by simp only [mapD, g])
        cases eb
        have z := DpM.dct (K := c.K) (H := H) (a := a) (kvs := ws) h (snapsR_of (snapR_ok ra n) (kvs.map (·.2)) _ ps r.vals q)
        have ek : ws.map (fun p => keyP p.1) = (kvs.map (·.1)).map keyP := by rw [← r.keys, List.map_map]; rfl
        rwa [ek] at z
      | _ => cases e
end
end Py

namespace Py
open PySem PySem.Spec PyProof.Rows L2 SrtO
section
variable {prog : Program} {w : World} {A : Around} {E : Value → Shared → Prop} {s : Shared}
/-- what a fresh list holds that was filled with these -/
abbrev filled (h : Heap) (vs : List Value) : Heap := (h.push (seqObj "list" #[] 0)).update h.objs.size (Obj.mapSeq (· ++ vs.toArray))
theorem collect_tupleN {l : Addr} {vs : List Value} {Q : List Value → Shared → Prop} (hl : s.heap.IsTuple l vs.toArray) (h : Q vs { s with heap := filled s.heap vs }) (z : vs.length ≤ sizeLine) : wpAny (model prog w) A (collect (.ref l)) Q E s := by
  obtain ⟨o, ho, hc, n, hd⟩ := id hl
  unfold collect
  apply wpAny_bind
  apply wpAny_runValue
  apply codeAny_builtin entry_proto_collect'
  show wpAny _ _ (do again (.builtin "list.__iadd__" ⟨[← newList [], .ref l], []⟩)) _ _ s
  refine wpAny_bind (wpAny_newList ?_ (Nat.zero_le _))
  refine wpAny_pure ⟨Code.quiet_builtin _ (by decide +kernel), codeAny_builtin entry_list_iadd' ?_⟩
  show wpAny _ _ (Builtin.List.listExtendWith (.ref s.heap.objs.size) (.ref l) (.ref s.heap.objs.size)) _ _ { s with heap := s.heap.push (seqObj "list" #[] 0) }
  unfold Builtin.List.listExtendWith
  have h1 : (s.heap.push (seqObj "list" #[] 0)).get? l = some o := Heap.get?_push_of_some _ ho
  have h2 : (s.heap.push (seqObj "list" #[] 0)).get? s.heap.objs.size = some (seqObj "list" #[] 0) := Heap.get?_push_size _ rfl
  refine wpAny_bind (wpAny_typeOf (T := "tuple") ⟨o, h1, hc⟩ ?_)
  have t1 : (Value.type "tuple" == Value.type "tuple") = true := by rfl
  rw [if_pos (by simp)]
  apply wpAny_bind
  apply listItems_at h1 hd
  apply wpAny_bind
  apply listItems_at (xs := #[]) (n := 0) h2 rfl
  rw [if_neg (by simp)]
  apply wpAny_bind
  refine listUpdate_at (xs := #[]) (n := 0) h2 rfl ?_ (Nat.zero_le _) (by show (#[] ++ vs.toArray).size ≤ sizeLine + 1; simp; omega)
  apply wpAny_pure
  show wpAny (model prog w) A (do
      let o ← load s.heap.objs.size
      match o.data with
      | .seq xs _ => pure xs.toList
      | _ => unsupported "internal:collect") Q E { s with heap := filled s.heap vs }
  apply wpAny_bind
  apply wpAny_load (get?_update_seq h2 _)
  show wpAny _ _ (pure ((#[] : Array Value) ++ vs.toArray).toList) Q E _
  have e : ((#[] : Array Value) ++ vs.toArray).toList = vs := by simp
  rw [e]
  exact wpAny_pure h
theorem sorted_tupleN {l : Addr} {vs : List Value} {ltv : Value → Value → Bool} {Q : Value → Shared → Prop} (O : Swo ltv) (hl : s.heap.IsTuple l vs.toArray) (z : vs.length ≤ sizeLine)
    (hS : 2 ≤ vs.length → ∀ (h1 : Heap) (a : Addr), h1.get? a = some (seqObj "list" vs.toArray 0) → (∀ b o, s.heap.get? b = some o → b ≠ a ∧ h1.get? b = some o) → SortableO prog w A.in1.in1 { s with heap := h1 } a vs ltv)
    (h : ∀ out : List Value, Srtd ltv out → Stb ltv out vs → Q (.ref (s.heap.objs.size + 1)) { s with heap := sortedAll s.heap vs out.toArray }) : wpAny (model prog w) A (call (.builtin "sorted") [.ref l]) Q E s := by
  apply Calls.call_function_entry kind_sorted plain_sorted entry_sorted (args_sorted1 _)
  unfold Builtin.«sorted»
  refine wpAny_bind (m := checkCount "sorted" 1 1 _) (wpAny_pure ?_)
  apply wpAny_bind
  refine collect_tupleN hl ?_ z
  apply wpAny_bind
  refine wpAny_newList ?_ z
  have n1 : (filled s.heap vs).objs.size = s.heap.objs.size + 1 := by
    show ((s.heap.push (seqObj "list" #[] 0)).update _ _).objs.size = _
    rw [Heap.size_update, size_push']
  have at1 : ((filled s.heap vs).push (seqObj "list" vs.toArray 0)).get? (s.heap.objs.size + 1) = some (seqObj "list" vs.toArray 0) := by
    rw [← n1]
    exact Heap.get?_push_size _ rfl
  have kp : ∀ b o, s.heap.get? b = some o → b ≠ s.heap.objs.size + 1 ∧ ((filled s.heap vs).push (seqObj "list" vs.toArray 0)).get? b = some o := fun b o q => by
    have lt : b < s.heap.objs.size := Heap.lt_size q
    refine ⟨Nat.ne_of_lt (Nat.lt_succ_of_lt lt), Heap.get?_push_of_some _ ?_⟩
    show ((s.heap.push (seqObj "list" #[] 0)).update _ _).get? b = _
    rw [Heap.get?_update_ne _ _ _ _ (Nat.ne_of_lt lt)]
    exact Heap.get?_push_of_some _ q
  show wpAny _ _ _ _ _ { s with heap := (filled s.heap vs).push (seqObj "list" vs.toArray 0) }
  rw [n1]
  apply wpAny_bind
  apply wpAny_holding
  refine wpAny_call_entry slot_list_sort ⟨_, at1, rfl⟩ entry_list_sort ?_ (args_list_sort _)
  exact list_sort_ord O at1 z (fun h2 => hS h2 _ _ at1 kp) fun out h1 h2 => ⟨_, rfl, wpAny_pure ⟨_, rfl, h out h1 h2⟩⟩
end
/-- sorted(t), t a tuple of whole numbers -/
theorem cr_sortedTN {X : Cx} : CallR X (.builtin "sorted") (fun vs H Q => ∃ (a : Addr) (ns : List Int), vs = [V.ref a] ∧ SqT X.K H a (ns.map V.int) ∧ ∀ (ms : List Int) (p : Addr), ms.Perm ns → ms.Pairwise (· ≤ ·) → H p = none → Q (.ref p) (upd H p (.lst (ms.map V.int)))) := by
  intro pins s σ H vs us Q I r h
  obtain ⟨a, ns, rfl, hs, q⟩ := h
  obtain ⟨its, rv, hl, hz⟩ := I.tuple hs
  rw [Vals.ref1 r]
  have hi := rv.ints
  apply sorted_tupleN swo_int (show s.heap.IsTuple a its.toArray from hl) (by rw [← rv.length]; exact hz) (fun h2 _ _ _ _ => ints_sortable hi h2)
  intro out h1 h2
  obtain ⟨k1, k2, k3⟩ := ints_out hi h1 h2
  obtain ⟨ep, at1⟩ := PyProof.Rows.sortedAll_at s.heap its out.toArray
  have len : ((out.map iv).map V.int).length ≤ sizeLine := by
    have := k2.length_eq
    simp at this hz ⊢
    omega
  exact ⟨.ref _, upd H (s.heap.objs.size + 1) (.lst ((out.map iv).map V.int)), I.laid (t' := s.toks) (fun _ _ => PyProof.Rows.sortedAll_old) (Nat.le_succ _) ⟨len, out, ep, vals_of_ints k1, at1⟩, rfl, q _ _ k2 k3 (I.hok.fresh (Nat.le_succ _))⟩
end Py

/-! sorted(l): a list of rows of whole numbers, lists or tuples -/
namespace Py
open PySem PySem.Spec PySem.W PyProof.Rows L2
def encR (tp : Bool) (p : V × List Int) : PyData := if tp then .tuple (p.2.map .int) else .list (p.2.map .int)
theorem alike_encR (tp : Bool) (p q : V × List Int) : alike (encR tp p) (encR tp q) = true := by
  unfold encR
  cases tp
  · show alike (.list _) (.list _) = true
    rw [alike]
    exact alike_ints _ _
  · show alike (.tuple _) (.tuple _) = true
    rw [alike]
    exact alike_ints _ _
theorem depth_encR (tp : Bool) (p : V × List Int) : (encR tp p).depth ≤ 1 := by
  unfold encR
  cases tp
  · show (PyData.list _).depth ≤ 1
    rw [PyData.depth, depth_ints]
    exact Nat.le_refl _
  · show (PyData.tuple _).depth ≤ 1
    rw [PyData.depth, depth_ints]
    exact Nat.le_refl _
theorem le_encR (tp : Bool) : dataLe false (encR tp) = fun p q => decide (p.2 ≤ q.2) := by
  cases tp
  · exact dataLe_rows (β := V × List Int) (fun p => p.2)
  · funext p q
    show (!dataLt (.tuple (q.2.map .int)) (.tuple (p.2.map .int))) = _
    rw [dataLt_tuple]
    show (!rowLt (q.2.map .int) (p.2.map .int)) = _
    rw [dataLt_ints]
    by_cases h : q.2 < p.2
    · have h' : ¬ p.2 ≤ q.2 := fun r => List.not_lt.mpr r h
      simp [h, h']
    · have h' : p.2 ≤ q.2 := List.not_lt.mp h
      simp [h, h']
theorem vals_each : ∀ {ps : List (V × List Int)} {us : List Value}, Vals (ps.map (·.1)) us → EachIs (fun u (p : V × List Int) => RelV p.1 u) us ps
  | [], us, r => by cases r; exact .nil
  | p :: ps, us, r => by
    rw [List.map_cons] at r
    cases r with
    | cons h t => exact .cons h (vals_each t)
theorem each_vals : ∀ {us : List Value} {ps : List (V × List Int)}, EachIs (fun u (p : V × List Int) => RelV p.1 u) us ps → Vals (ps.map (·.1)) us
  | _, _, .nil => .nil
  | _, _, .cons h t => .cons h (each_vals t)
theorem each_reads {R : Value → V × List Int → Prop} {S : Value → V × List Int → Prop} : ∀ {us : List Value} {ps : List (V × List Int)}, EachIs R us ps → (∀ p ∈ ps, ∀ u, R u p → S u p) → EachIs S us ps
  | _, _, .nil, _ => .nil
  | _, _, .cons h t, k => .cons (k _ List.mem_cons_self _ h) (each_reads t fun p hp => k p (List.mem_cons_of_mem _ hp))
theorem cr_sortedR {X : Cx} (hu : X.A.units + 66 < cLine) (tp : Bool) : CallR X (.builtin "sorted") (fun xs H Q => ∃ (a : Addr) (ps : List (V × List Int)), xs = [V.ref a] ∧ SqL X.K H a (ps.map (·.1)) ∧ (∀ p ∈ ps, DpM X.K H p.1 (encR tp p) ∧ (tp = true → p.2 ≠ [])) ∧
    ∀ q, H q = none → Q (.ref q) (upd H q (.lst ((ps.mergeSort fun p q => decide (p.2 ≤ q.2)).map (·.1))))) := by
  intro pins s σ H vs us Q I r h
  obtain ⟨a, ps, rfl, hs, hp, q⟩ := h
  obtain ⟨its, rv, hl, hz⟩ := I.list hs
  rw [Vals.ref1 r]
  have lz : ps.length ≤ sizeLine := by rw [List.length_map] at hz; exact hz
  have e1 := vals_each rv
  have er : EachIs (fun u (p : V × List Int) => ∃ as, Reads s.heap u (encR tp p) as) its ps := each_reads e1 fun p pm u ru => ((hp p pm).1.read I ru).reads
  refine sorted_data (enc := encR tp) hl.isList e1 er (AllAlike.of fun p q => alike_encR tp p q) ?_ lz (fun b _ => by have := depth_encR tp b; omega) fun out ho e2 => ?_
  · cases tp
    · exact .inr fun d hd => by
        obtain ⟨p, pm, rfl⟩ := List.mem_map.mp hd
        exact ⟨by unfold encR; simp, fun xs => by unfold encR; simp⟩
    · exact .inl fun d hd => by
        obtain ⟨p, pm, rfl⟩ := List.mem_map.mp hd
        have := (hp p pm).2 rfl
        unfold encR
        cases e : p.2 with
        | nil => exact absurd e this
        | cons x l => exact ⟨_, _, rfl⟩
  · obtain ⟨ep, at1⟩ := PyProof.Rows.sortedAll_at s.heap its out.toArray
    rw [le_encR] at e2
    have hlen : ((ps.mergeSort fun p q => decide (p.2 ≤ q.2)).map (·.1)).length ≤ sizeLine := by
      rw [List.length_map, List.length_mergeSort]
      exact lz
    exact ⟨.ref _, upd H (s.heap.objs.size + 1) (.lst ((ps.mergeSort fun p q => decide (p.2 ≤ q.2)).map (·.1))), I.laid (t' := s.toks) (fun _ _ => PyProof.Rows.sortedAll_old) (Nat.le_succ _) ⟨hlen, out, ep, each_vals e2, at1⟩, rfl, q _ (I.hok.fresh (Nat.le_succ _))⟩
end Py

/-! tuple(d) of a dict; max(t) of a tuple -/
namespace Py
open PySem PySem.Spec PySem.W PyProof.Rows L2
section
variable {prog : Program} {w : World} {A : Around} {E : Value → Shared → Prop} {s : Shared} {T : String} {r d : Addr} {n : Nat} {P : Nat → Value → Prop} {OK : Heap → Prop}
theorem collect_kdl {Q : List Value → Shared → Prop} (K : KdlSrc prog w T r d n P OK) (hh : A.handled = none) (hok : OK s.heap) (hn : n ≤ sizeLine)
    (hQ : ∀ (h' : Heap) (tk : Nat) (acc : Array Value), (∀ b o, s.heap.get? b = some o → h'.get? b = some o) → ItemsOf P acc n → Q acc.toList { s with heap := h', toks := tk }) :
    wpAny (model prog w) A (collect (.ref r)) Q E s := by
  unfold collect
  refine wpAny_bind (wpAny_runValue (codeAny_builtin F.entry_proto_collect ?_))
  rw [Around.under_plainId F.plain_proto_collect _]
  show wpAny _ A.in1 (newList [] >>= fun l => again (.builtin "list.__iadd__" ⟨[l, .ref r], []⟩)) _ _ s
  refine wpAny_bind (wpAny_newObj_type ?_)
  refine wpAny_pure ⟨plainId_quiet F.plain_list_iadd _, codeAny_builtin F.entry_list_iadd ?_⟩
  rw [Around.under_plainId F.plain_list_iadd _]
  show wpAny _ A.in1 (Builtin.List.listExtendWith (.ref s.heap.objs.size) (.ref r) (.ref s.heap.objs.size)) _ _ _
  have hS : (s.heap.push { cls := .type "list", data := .seq ([] : List Value).toArray }).get? s.heap.objs.size = some { cls := .type "list", data := .seq #[] 0 } := Heap.get?_push_size _ rfl
  have hlt := K.there _ hok
  refine wpAny_mono (kdl_extend (A := A) (R := fun rr s' => rr = .ok (.ret (.ref s.heap.objs.size)) ∧ ∃ (h' : Heap) (tk : Nat) (acc : Array Value) (c' : Nat), s' = { s with heap := h', toks := tk } ∧
      (∀ b o, s.heap.get? b = some o → h'.get? b = some o) ∧ h'.get? s.heap.objs.size = some { cls := .type "list", dict := none, data := .seq acc c', slots := #[] } ∧ ItemsOf P acc n)
    (s := { s with heap := s.heap.push { cls := .type "list", data := .seq ([] : List Value).toArray } }) K hh (K.keep _ _ hok fun b _ o e => Heap.get?_push_of_some _ e) _ (Nat.ne_of_gt hlt.1) (Nat.ne_of_gt hlt.2) _ 0 hS
    (fun h' tk acc c' hk e hi => ⟨rfl, h', tk, acc, c', rfl, fun b o q => hk b o (Nat.ne_of_lt (Heap.lt_size q)) (Heap.get?_push_of_some _ q), e, hi⟩) hn) (fun fin s' h => ?_) (fun e s' h => ?_)
  · cases fin with
    | done f =>
      obtain ⟨e, h', tk, acc, c', rfl, hk, hS', hi⟩ := h
      cases e
      show wpAny _ A (load s.heap.objs.size >>= _) _ _ _
      exact wpAny_bind (wpAny_load hS' (wpAny_pure (hQ h' tk acc hk hi)))
    | again c' =>
      refine ⟨h.1, codeAny_mono h.2 fun rr s'' hr' => ?_⟩
      obtain ⟨rfl, h', tk, acc, c', rfl, hk, hS', hi⟩ := hr'
      show wpAny _ A (load s.heap.objs.size >>= _) _ _ _
      exact wpAny_bind (wpAny_load hS' (wpAny_pure (hQ h' tk acc hk hi)))
  · exact absurd h.1 (by simp)
theorem code_tuple_new_kdl {Q₁ : Value → Shared → Prop} (K : KdlSrc prog w T r d n P OK) (hh : A.handled = none) (hok : OK s.heap) (hn : n ≤ sizeLine)
    (h : ∀ (h' : Heap) (tk : Nat) (acc : Array Value), (∀ b o, s.heap.get? b = some o → h'.get? b = some o) → ItemsOf P acc n →
      Q₁ (.ref h'.objs.size) { s with heap := h'.push { cls := .type "tuple", data := .seq acc }, toks := tk }) :
    codeAny (model prog w) A (.call (.builtin "tuple.__new__") ⟨[.type "tuple", .ref r], []⟩) (wants Q₁ E) s := by
  refine codeAny_of_tree ?_
  show wpAny _ A.in1 (do checkBuiltinCall "tuple.__new__" ⟨[.type "tuple", .ref r], []⟩; again (.builtin "tuple.__new__" ⟨[.type "tuple", .ref r], []⟩)) _ _ s
  refine wpAny_bind (wpAny_of_eq (F.newCall_tuple_1 _) (wpAny_pure ⟨plainId_quiet F.plain_tuple_new _, codeAny_builtin F.entry_tuple_new ?_⟩))
  rw [Around.under_plainId F.plain_tuple_new _]
  have hsub := sub_tuple_self
  have hinit := init_tuple_lookup
  have hmh := madeHere_tuple
  have hTI : s.TypeIs (.ref r) T := K.type s hok
  have hnt : (Value.type T == Value.type "tuple") = false := K.notTuple
  have hh1 : A.in1.handled = none := hh
  wp_walk using wpAny_typeOf hTI, collect_kdl (A := A.in1) K hh1 hok hn
  intro h' tk acc hk hacc
  show wpAny _ _ (Builtin.Tuple.tupleExact acc.toList.toArray >>= fun v => ret v) _ _ _
  unfold Builtin.Tuple.tupleExact
  refine wpAny_bind (wpAny_newObj_type ?_ (by show acc.toList.toArray.size ≤ sizeLine; simp only [Array.toArray_toList]; rw [hacc.1]; exact hn))
  refine wpAny_pure ?_
  have e : acc.toList.toArray = acc := by simp
  rw [e]
  exact h h' tk acc hk hacc
theorem call_tuple_kdl {Q : Value → Shared → Prop} (K : KdlSrc prog w T r d n P OK) (hh : A.handled = none) (hok : OK s.heap) (hn : n ≤ sizeLine)
    (hQ : ∀ (h' : Heap) (tk : Nat) (acc : Array Value), (∀ b o, s.heap.get? b = some o → h'.get? b = some o) → ItemsOf P acc n →
      Q (.ref h'.objs.size) { s with heap := h'.push { cls := .type "tuple", data := .seq acc }, toks := tk }) :
    wpAny (model prog w) A (call (.type "tuple") [.ref r]) Q E s := by
  refine callType_codes (Q₁ := fun obj s₁ => s₁.TypeIs obj "tuple" ∧ Q obj s₁) F.called_tuple (F.typeCall_tuple_1 _) F.entry_object_init
    (code_tuple_new_kdl (A := A.in1) K hh hok hn fun h' tk acc hk hacc => ⟨⟨_, Heap.get?_push_size _ rfl, rfl⟩, hQ h' tk acc hk hacc⟩) fun obj s₁ h₁ => ?_
  exact ⟨h₁.1, F.args_object_init_2 obj _, object_init_meets F.called_tuple.init.lookup F.called_tuple.made (by decide) prog w A.in1 _ s₁ ⟨h₁.1, rfl, h₁.2⟩⟩
end
variable {X : Cx}
/-- tuple(d) of a dict that is read -/
theorem call_tupD (hc : X.calm = true) : CallR X (.type "tuple") (fun xs H Q => ∃ p kvs, xs = [.ref p] ∧ Rd H p (.dK kvs) ∧ newT (kvs.map fun kv => kV kv.1) H Q) := by
  intro pins s σ H xs us Q I r h
  obtain ⟨p, kvs, e, hk, q⟩ := h
  subst e
  obtain ⟨u, eu, rx⟩ := vals1 r
  subst eu
  obtain rfl : u = Value.ref p := rx
  obtain ⟨z, lo, vs, rk, hd⟩ := dk_rd I.hok hk
  obtain ⟨ep, hat⟩ := hd.dictAt
  have hl : kvs.length = vs.length := Paired.length rk
  refine call_tuple_kdl (PySem.W.kdl_dict (knd := mixKind X.prog X.w) (kvs := vs) (ep := ep) lo) (I.ok.hd hc) hat (by rw [← hl]; exact z) fun h' tk acc' hkeep hacc => ?_
  have rv : Vals (kvs.map fun kv => kV kv.1) acc'.toList := by
    have el : acc'.toList.length = acc'.size := by simp
    refine vals_of_at (by rw [List.length_map, el, hacc.1, hl]) fun j x w h1 h2 => ?_
    obtain ⟨k, y, hky, hi⟩ := hacc.2 j w (by rw [← Array.getElem?_toList]; exact h2)
    have e1 : (kvs.map (·.1))[j]? = some k := by
      rw [KV.keys rk, List.getElem?_map, hky] <;> rfl
    have e2 : (kvs.map fun kv => kV kv.1)[j]? = some (kV k) := by
      have e3 : (kvs.map fun kv => kV kv.1) = (kvs.map (·.1)).map kV := by rw [List.map_map] <;> rfl
      rw [e3, List.getElem?_map, e1] <;> rfl
    rw [e2] at h1
    cases h1
    exact keyIs_rel hi
  have e : acc' = acc'.toList.toArray := by simp
  rw [e]
  exact laidT (h := h') (t := tk) (I.kept hkeep) rv (by rw [List.length_map]; exact z) q
/-- max(t) of a tuple of whole numbers -/
theorem call_maxT (hc : X.calm = true) (hu : X.A.units + 66 < cLine) : CallR X (.builtin "max") (fun vs H Q => ∃ (a : Addr) (ns : List Int), vs = [V.ref a] ∧ SqT X.K H a (ns.map V.int) ∧ 0 < ns.length ∧ ∀ m, m ∈ ns → (∀ y, y ∈ ns → y ≤ m) → Q (.int m) H) := by
  intro pins s σ H vs us Q I r h
  obtain ⟨a, ns, rfl, hs, hne, q⟩ := h
  obtain ⟨its, rv, hl, _⟩ := I.tuple hs
  rw [Vals.ref1 r]
  obtain ⟨x, xs, rfl⟩ : ∃ x xs, ns = x :: xs := by
    cases ns with
    | nil => exact absurd hne (by simp)
    | cons x xs => exact ⟨x, xs, rfl⟩
  have rdm : ∀ {ms : List Int} {us : List Value}, Vals (ms.map V.int) us → ∃ as, ReadsAll s.heap us (ms.map PyData.int) as := fun {ms} => by
    induction ms with
    | nil => intro us r; cases r; exact ⟨_, .nil⟩
    | cons m ms ih =>
      intro us r
      rw [List.map_cons] at r
      cases r with
      | cons h t =>
        obtain ⟨k, rfl⟩ := h
        obtain ⟨as, ra⟩ := ih t
        exact ⟨_, .cons (.int _ _) ra⟩
  obtain ⟨as, ra⟩ := rdm rv
  have mx : ∀ (ms : List Int) (m : Int), ∃ k, maxD (.int m) (ms.map .int) = .int k ∧ k ∈ m :: ms ∧ ∀ y ∈ m :: ms, y ≤ k := fun ms => by
    induction ms with
    | nil => intro m; exact ⟨m, rfl, by simp, by simp⟩
    | cons y ms ih =>
      intro m
      show ∃ k, maxD (if dataLt (.int m) (.int y) = true then PyData.int y else PyData.int m) (ms.map PyData.int) = .int k ∧ _
      rw [dataLt_int]
      by_cases c : m < y
      · rw [if_pos (by simpa using c)]
        obtain ⟨k, k1, k2, k3⟩ := ih y
        refine ⟨k, k1, List.mem_cons_of_mem _ k2, fun z hz => ?_⟩
        rcases List.mem_cons.mp hz with rfl | hz
        · have := k3 y List.mem_cons_self; omega
        · exact k3 z hz
      · rw [if_neg (by simpa using c)]
        obtain ⟨k, k1, k2, k3⟩ := ih m
        refine ⟨k, k1, ?_, fun z hz => ?_⟩
        · rcases List.mem_cons.mp k2 with k2 | k2
          · rw [k2]; exact List.mem_cons_self
          · exact List.mem_cons_of_mem _ (List.mem_cons_of_mem _ k2)
        · rcases List.mem_cons.mp hz with rfl | hz
          · exact k3 _ List.mem_cons_self
          · rcases List.mem_cons.mp hz with rfl | hz
            · have := k3 m List.mem_cons_self; omega
            · exact k3 z (List.mem_cons_of_mem _ hz)
  obtain ⟨k, k1, k2, k3⟩ := mx xs x
  refine max_tuple_data (x := .int x) (xs := xs.map .int) (I.ok.hd hc) (show s.heap.IsTuple a its.toArray from hl) (by simpa using ra) ?_ ?_ fun i v h' tk bs hi hr hk => ?_
  · have this : ∀ p ∈ PyData.int x :: xs.map PyData.int, ∃ n, p = .int n := fun p hp => by
      rcases List.mem_cons.mp hp with rfl | hp
      · exact ⟨_, rfl⟩
      · obtain ⟨n, _, rfl⟩ := List.mem_map.mp hp
        exact ⟨n, rfl⟩
    refine ⟨fun p hp p' hp' => ?_, fun p hp => ?_⟩
    · obtain ⟨n, rfl⟩ := this p hp
      obtain ⟨n', rfl⟩ := this p' hp'
      simp [alike]
    · obtain ⟨n, rfl⟩ := this p hp
      simp
  · have : PyData.depthAll (PyData.int x :: xs.map .int) = 0 := depth_ints (x :: xs)
    rw [this]
    omega
  · rw [k1] at hr
    cases hr
    exact ⟨.int k, H, I.kept hk, ⟨_, rfl⟩, q k k2 k3⟩
end Py

namespace Py
open PySem PySem.Spec PyProof.Rows L2
section
variable {c : RC} {X : Cx}
/-- a slice of a tuple -/
def rSlN (K : PySem.W.Frag) : V → Option Int → Option Int → Hp → VK → Prop := fun x lo hi H Q => ∃ a xs, x = .ref a ∧ SqT K H a xs ∧
  (HT.sIx xs.length 0 lo = 0 ∧ HT.sIx xs.length xs.length hi = xs.length → Q (.ref a) H) ∧ (¬ (HT.sIx xs.length 0 lo = 0 ∧ HT.sIx xs.length xs.length hi = xs.length) → newT (cutV xs lo hi) H Q)
theorem sl_tupN : SlR X (rSlN X.K) := by
  intro pins s σ H x v vl vu lo hi sl Q I rx hs pl pu h
  obtain ⟨a, xs, rfl, hx, q1, q2⟩ := h
  cases rx
  obtain ⟨its, r, ht, hz⟩ := I.tuple hx
  have hlen : its.toArray.size = xs.length := by rw [List.size_toArray]; exact r.length.symm
  refine ⟨"tuple", _, PyProof.Rows.slot_tuple_getitem.lookup, ht.typeIs, ?_⟩
  by_cases hw : HT.sIx xs.length 0 lo = 0 ∧ HT.sIx xs.length xs.length hi = xs.length
  · exact getItem_tuple_whole ht hs pl pu (by rw [hlen]; exact hw) ⟨.ref a, H, I, rfl, q1 hw⟩
  · refine HT.getItem_tuple_cut ht hs pl pu (by rw [hlen]; exact hw) ?_ (by rw [hlen]; exact hz)
    rw [hlen]
    exact laidT (h := s.heap) (t := s.toks) I ((r.drop (HT.sIx xs.length 0 lo)).take (HT.sIx xs.length xs.length hi - HT.sIx xs.length 0 lo)) (Nat.le_trans (cutV_length xs lo hi) hz) (q2 hw)
theorem call_tupleN : CallR X (.type "tuple") (fun xs H Q => ∃ p ys, xs = [.ref p] ∧ ((SqL X.K H p ys ∧ newT ys H Q) ∨ (SqT X.K H p ys ∧ Q (.ref p) H))) := by
  intro pins s σ H xs us Q I r h
  obtain ⟨p, ys, rfl, h⟩ := h
  obtain ⟨u, rfl, rx⟩ := vals1 r
  cases rx
  rcases h with ⟨hq, q⟩ | ⟨hq, q⟩
  · obtain ⟨its, r', pl, hz⟩ := I.list hq
    have hlen := r'.length
    refine call_tuple_list pl.isList (fun h' kp => ?_) (by simp only [List.size_toArray] <;> omega)
    exact laidT (h := h') (t := s.toks) (I.kept kp) r' hz q
  · obtain ⟨its, r', pl, hz⟩ := I.tuple hq
    exact call_tuple_same pl ⟨.ref p, H, I, rfl, q⟩
theorem atI_ok {K : PySem.W.Frag} {H : Hp} {ds : List D} {vs : List V} {k : Int} {d : D} (r : RelDs K H ds vs) (h : atI ds k = some d) : ∃ v, atI vs k = some v ∧ RelD K H d v := by
  unfold atI at *
  rw [r.length]
  cases e : ixN ds.length k with
  | none => rw [e] at h; cases h
  | some j =>
    rw [e] at h
    exact r.get h
/-- d[k] by values -/
theorem ix_dict (hu : X.A.units + 1 < cLine) : IxR X (fun x y H Q => ∃ a v, x = .ref a ∧ DGet H a y (some v) ∧ Q v H) := by
  intro value slice pins s σ H x y u w Q I rx ry h hs
  obtain ⟨a, v, rfl, g, q⟩ := h
  cases rx
  exact tail_any (dict_typeIs I g) PySem.F.slot_dict_getitem.lookup (d_getItem hu I g ry fun w' s' I' rw' => ⟨v, H, I', rw', q⟩) hs
theorem d_idx (hK : X.K = c.K) (hu : X.A.units + 1 < cLine) : IxR X (lR2 c rIdx) := by
  refine IxR.imp (IxR.or ix_seq (ix_dict hu)) fun x y H Q h => ?_
  obtain ⟨A, dx, dy, Qd, ra, rx, ry, r, f⟩ := h
  unfold rIdx at r
  split at r
  · rename_i kvs e
    split at r
    · rename_i k ek
      obtain ⟨a, o, e1, g, z⟩ := dget_of ra rx ry e ek
      split at r
      · rename_i d ed
        rcases z with ⟨z1, _⟩ | ⟨e', v, z1, z2, rv⟩
        · rw [ed] at z1; cases z1
        · rw [ed] at z1
          cases z1
          subst z2
          exact .inr ⟨a, v, e1, g, f.here r ra rv⟩
      · exact r.elim
    · exact r.elim
  · split at r
    · cases ry
      split at r
      · rename_i ds e
        split at r
        · rename_i d e2
          obtain ⟨p, vs, e1, h, q⟩ := seq_ok ra rx e
          obtain ⟨v, hv, rv⟩ := atI_ok q e2
          rcases h with h | h
          · exact .inl (.inl ⟨p, vs, _, v, e1, rfl, by rw [hK]; exact h, hv, f.here r ra rv⟩)
          · exact .inl (.inr (.inl ⟨p, vs, _, v, e1, rfl, by rw [hK]; exact h, hv, f.here r ra rv⟩))
        · exact r.elim
      · exact r.elim
    · exact r.elim
def lRsl (c : RC) (r : D → Option Int → Option Int → AH → Dk → Prop) : V → Option Int → Option Int → Hp → VK → Prop := fun x lo hi H Q => ∃ A dx Qd, RelA c A H ∧ RelD c.K H dx x ∧ r dx lo hi A Qd ∧ Fol c H Q Qd
theorem cut_ok {K : PySem.W.Frag} {H : Hp} {ds : List D} {vs : List V} {lo hi : Option Int} (r : RelDs K H ds vs) : RelDs K H (cutD ds lo hi) (cutV vs lo hi) := by
  unfold cutD cutV
  rw [r.length]
  exact (r.drop _).take _
theorem d_slc (hK : X.K = c.K) : SlR X (lRsl c rSlc) := by
  refine SlR.imp (SlR.or (SlR.fz sl_list) sl_tupN) fun x lo hi H Q h => ?_
  obtain ⟨A, dx, Qd, ra, rx, r, f⟩ := h
  unfold rSlc at r
  split at r
  · rename_i ds
    obtain ⟨a, vs, e, h, q⟩ := rx
    refine .inr ⟨a, vs, e, by rw [hK]; exact h.sqt, fun hw => ?_, fun hw => f.tup r ra (cut_ok q)⟩
    have e2 : cutD ds lo hi = ds := by
      unfold cutD
      rw [q.length] at hw
      rw [hw.1, hw.2]
      simp
    refine f.here r ra ?_
    rw [e2]
    exact ⟨a, vs, rfl, h, q⟩
  · obtain ⟨a, vs, rfl, h, q⟩ := rx
    exact .inl ⟨a, vs, rfl, by rw [hK]; exact h.sql, f.lst r ra (cut_ok q)⟩
  · split at r
    · rename_i e
      obtain ⟨vs, h, q⟩ := getL_rel ra e
      exact .inl ⟨_, vs, rx, .inl h, f.lst r ra (cut_ok q)⟩
    · exact r.elim
  · exact r.elim
/-! ### built-in calls -/
theorem ints_ok {K : PySem.W.Frag} {H : Hp} : ∀ {ds : List D} {vs : List V} {ns : List Int}, RelDs K H ds vs → intsD ds = some ns → vs = ns.map V.int
  | [], _, _, r, e => by cases (show _ = [] from r); cases e; rfl
  | d :: ds, _, ns, ⟨v, w, ev, h, r⟩, e => by
    subst ev
    cases d <;> try (simp only [intsD] at e; cases e; done)
    rename_i i
    simp only [intsD] at e
    cases q : intsD ds with
    | none => rw [q] at e; cases e
    | some ms =>
      rw [q] at e
      cases e
      cases h
      rw [ints_ok r q]
      rfl
theorem bools_ok {K : PySem.W.Frag} {H : Hp} : ∀ {ds : List D} {vs : List V} {ns : List Bool}, RelDs K H ds vs → boolsD ds = some ns → vs = ns.map V.bl
  | [], _, _, r, e => by cases (show _ = [] from r); cases e; rfl
  | d :: ds, _, ns, ⟨v, w, ev, h, r⟩, e => by
    subst ev
    cases d <;> try (simp only [boolsD] at e; cases e; done)
    rename_i i
    simp only [boolsD] at e
    cases q : boolsD ds with
    | none => rw [q] at e; cases e
    | some ms =>
      rw [q] at e
      cases e
      cases h
      rw [bools_ok r q]
      rfl
theorem CallR.or {f : Value} {r r' : List V → Hp → VK → Prop} (h : CallR X f r) (h' : CallR X f r') : CallR X f (fun x H Q => r x H Q ∨ r' x H Q) := by
  intro pins s σ H xs us Q I r q
  rcases q with q | q
  · exact h pins s σ H xs us Q I r q
  · exact h' pins s σ H xs us Q I r q
theorem RelDs.nil_of {K : PySem.W.Frag} {H : Hp} {vs : List V} (r : RelDs K H [] vs) : vs = [] := r
theorem RelDs.one_of {K : PySem.W.Frag} {H : Hp} {d : D} {vs : List V} (r : RelDs K H [d] vs) : ∃ v, vs = [v] ∧ RelD K H d v := by
  obtain ⟨v, w, e, h, q⟩ := r
  cases q.nil_of
  exact ⟨v, e, h⟩
theorem RelDs.two_of {K : PySem.W.Frag} {H : Hp} {d e : D} {vs : List V} (r : RelDs K H [d, e] vs) : ∃ v w, vs = [v, w] ∧ RelD K H d v ∧ RelD K H e w := by
  obtain ⟨v, w, e, h, q⟩ := r
  obtain ⟨u, e2, h2⟩ := q.one_of
  subst e2
  exact ⟨v, u, e, h, h2⟩
theorem call_lenR : CallR X (.builtin "len") (fun xs H Q => ∃ a kvs, xs = [.ref a] ∧ Rd H a (.dK kvs) ∧ Q (.int kvs.length) H) := by
  intro pins s σ H xs us Q I r h
  obtain ⟨a, kvs, rfl, hr, q⟩ := h
  obtain ⟨u, rfl, rx⟩ := vals1 r
  cases rx
  exact d_len I hr fun t s' I' => ⟨.int _, H, I', ⟨t, rfl⟩, q⟩
theorem b_len (hK : X.K = c.K) : CallR X (.builtin "len") (lRs c (rB .len)) := by
  refine CallR.imp (call_len.or (call_lenD.or call_lenR)) fun xs H Q h => ?_
  obtain ⟨A, ds, Qd, ra, rx, r, f⟩ := h
  rcases ds with _ | ⟨d, _ | ⟨e, _⟩⟩
  · exact r.elim
  · obtain ⟨v, rfl, rv⟩ := rx.one_of
    cases d <;> try exact r.elim
    · cases rv
      exact .inl ⟨_, _, rfl, ⟨r.1, rfl⟩, f.here r.2 ra rfl⟩
    · obtain ⟨a, vs, rfl, h, q⟩ := rv
      exact .inl ⟨_, _, rfl, .inr ⟨vs, by rw [hK]; exact h.sqt, rfl⟩, f.here r ra (by rw [q.length]; rfl)⟩
    · cases rv
      simp only [rB] at r
      split at r
      · rename_i e
        obtain ⟨vs, h, q⟩ := ra _ _ e
        exact .inl ⟨_, _, rfl, .inl ⟨vs, .inl (.inl h), rfl⟩, f.here r ra (by rw [q.length]; rfl)⟩
      · rename_i e
        obtain ⟨vs, h, q⟩ := ra _ _ e
        exact .inr (.inl ⟨_, _, rfl, h, f.here r ra (by rw [RelKv.length q]; rfl)⟩)
      · exact r.elim
    · obtain ⟨a, vs, rfl, h, q⟩ := rv
      exact .inl ⟨_, _, rfl, .inl ⟨vs, by rw [hK]; exact h.sql, rfl⟩, f.here r ra (by rw [q.length]; rfl)⟩
    · obtain ⟨a, ws, rfl, ⟨o, h⟩, ek, q⟩ := rv
      subst ek
      exact .inr (.inr ⟨a, ws, rfl, .inr ⟨o, h⟩, f.here r ra (by show _ = _; simp)⟩)
  · cases d <;> exact r.elim
theorem b_int : CallR X (.type "int") (lRs c (rB .int)) := by
  refine CallR.imp call_int1 fun xs H Q h => ?_
  obtain ⟨A, ds, Qd, ra, rx, r, f⟩ := h
  rcases ds with _ | ⟨d, _ | ⟨e, _⟩⟩
  · exact r.elim
  · obtain ⟨v, rfl, rv⟩ := rx.one_of
    cases d <;> try exact r.elim
    · cases rv
      exact .inr ⟨_, rfl, f.here r ra rfl⟩
    · cases rv
      exact .inl ⟨_, rfl, f.here r ra rfl⟩
  · cases d <;> exact r.elim
theorem b_str : CallR X (.type "str") (lRs c (rB .str)) := by
  refine CallR.imp call_str_int fun xs H Q h => ?_
  obtain ⟨A, ds, Qd, ra, rx, r, f⟩ := h
  rcases ds with _ | ⟨d, _ | ⟨e, _⟩⟩
  · exact r.elim
  · obtain ⟨v, rfl, rv⟩ := rx.one_of
    cases d <;> try exact r.elim
    cases rv
    exact ⟨_, rfl, r.1, f.here r.2 ra rfl⟩
  · cases d <;> exact r.elim
/-- repr of plain data, where no __repr__ is under way -/
theorem call_reprM (hg : X.A.guards = some []) (hu : X.A.units + 66 < cLine) : CallR X (.builtin "repr") (fun xs H Q => ∃ x p, xs = [x] ∧ DpM X.K H x p ∧ p.showable = true ∧ p.depth ≤ 64 ∧ p.shown.length ≤ sizeLine ∧ Q (.str p.shown) H) := by
  rintro pins s σ H xs us Q I r ⟨x, p, rfl, dp, h1, h3, h4, q⟩
  rcases r with _ | ⟨ru, rn⟩
  rename_i u _
  cases rn
  have fin : ∀ t tk, ∃ v H', L2.Inv X pins σ H' { s with toks := tk } ∧ RelV v (.str p.shown t) ∧ Q v H' := fun t tk => ⟨.str p.shown, H, I.tok _, ⟨t, rfl⟩, q⟩
  have rd := dp.read I ru
  have obj : ∀ a, x = .ref a → wpAny (model X.prog X.w) X.A (call (.builtin "repr") [u]) (EP X pins σ Q) X.xe s := fun a e => by
    subst e
    cases (show u = Value.ref a from ru)
    exact repr_RdM rd h1 h4 hg (by omega) fun h' t tk old => ⟨.str p.shown, H, I.kept old, ⟨t, rfl⟩, q⟩
  cases dp with
  | non => cases (show _ = Value.none from ru); exact PySem.P.repr_of_none (fin _ _)
  | bl b => cases (show _ = Value.bool b from ru); exact PySem.P.repr_of_bool (fin _ _)
  | int i => obtain ⟨t, rfl⟩ := ru; exact PySem.P.repr_of_int (by simpa [PyData.showable] using h1) (fin _ _)
  | str y => obtain ⟨t, rfl⟩ := ru; exact PySem.P.repr_of_str (fin _ _) h4
  | lst _ _ => exact obj _ rfl
  | tup _ _ => exact obj _ rfl
  | dct _ _ => exact obj _ rfl
theorem b_repr (hK : X.K = c.K) (hg : X.A.guards = some []) (hu : X.A.units + 66 < cLine) : CallR X (.builtin "repr") (lRs c (rB .repr)) := by
  refine CallR.imp (CallR.or SkE.call_repr_int (call_reprM hg hu)) fun xs H Q h => ?_
  obtain ⟨A, ds, Qd, ra, rx, r, f⟩ := h
  rcases ds with _ | ⟨d, _ | ⟨e, _⟩⟩
  · exact r.elim
  · obtain ⟨v, rfl, rv⟩ := rx.one_of
    have gen : (match snapR A 60 d with
        | some p => p.showable = true ∧ p.depth ≤ 64 ∧ p.shown.length ≤ sizeLine ∧ Qd (.str p.shown) A
        | none => False) → ∃ x p, [v] = [x] ∧ DpM X.K H x p ∧ p.showable = true ∧ p.depth ≤ 64 ∧ p.shown.length ≤ sizeLine ∧ Q (.str p.shown) H := fun z => by
      split at z
      · rename_i p e
        exact ⟨v, p, rfl, by rw [hK]; exact snapR_ok ra 60 d v p rv e, z.1, z.2.1, z.2.2.1, f.here z.2.2.2 ra rfl⟩
      · exact z.elim
    cases d with
    | int i =>
      cases rv
      exact .inl ⟨_, rfl, r.1, f.here r.2 ra rfl⟩
    | _ => exact .inr (gen r)
  · cases d <;> exact r.elim
theorem ints_rel {K : PySem.W.Frag} {H : Hp} : ∀ ns : List Int, RelDs K H (ns.map .int) (ns.map V.int)
  | [] => rfl
  | n :: ns => ⟨_, _, rfl, rfl, ints_rel ns⟩
theorem getL_ints {A : AH} {H : Hp} {a : Addr} {ns : List Int} (ra : RelA c A H) (h : (getL A a).bind intsD = some ns) : SqL c.K H a (ns.map V.int) := by
  cases e : getL A a with
  | none => rw [e] at h; cases h
  | some ds =>
    rw [e] at h
    obtain ⟨vs, h1, q⟩ := getL_rel ra e
    cases ints_ok q h
    exact .inl h1
theorem lst_ints {A : AH} {H : Hp} {d : D} {x : V} {ns : List Int} (ra : RelA c A H) (rx : RelD c.K H d x) (h : (lstD A d).bind intsD = some ns) : ∃ a, x = .ref a ∧ SqL c.K H a (ns.map V.int) := by
  cases e : lstD A d with
  | none => rw [e] at h; cases h
  | some ds =>
    rw [e] at h
    obtain ⟨a, vs, rfl, h1, q⟩ := lstD_rel ra rx e
    cases ints_ok q h
    exact ⟨a, rfl, h1⟩
theorem seq_ints {A : AH} {H : Hp} {d : D} {x : V} {ns : List Int} (ra : RelA c A H) (rx : RelD c.K H d x) (h : (seqD A d).bind intsD = some ns) : ∃ a, x = .ref a ∧ (SqL c.K H a (ns.map V.int) ∨ SqT c.K H a (ns.map V.int)) := by
  cases e : seqD A d with
  | none => rw [e] at h; cases h
  | some ds =>
    rw [e] at h
    obtain ⟨a, vs, rfl, h1, q⟩ := seq_ok ra rx e
    cases ints_ok q h
    exact ⟨a, rfl, h1⟩
theorem lst_bools {A : AH} {H : Hp} {d : D} {x : V} {ns : List Bool} (ra : RelA c A H) (rx : RelD c.K H d x) (h : (lstD A d).bind boolsD = some ns) : ∃ a, x = .ref a ∧ SqL c.K H a (ns.map V.bl) := by
  cases e : lstD A d with
  | none => rw [e] at h; cases h
  | some ds =>
    rw [e] at h
    obtain ⟨a, vs, rfl, h1, q⟩ := lstD_rel ra rx e
    cases bools_ok q h
    exact ⟨a, rfl, h1⟩
theorem getL_bools {A : AH} {H : Hp} {a : Addr} {ns : List Bool} (ra : RelA c A H) (h : (getL A a).bind boolsD = some ns) : SqL c.K H a (ns.map V.bl) := by
  cases e : getL A a with
  | none => rw [e] at h; cases h
  | some ds =>
    rw [e] at h
    obtain ⟨vs, h1, q⟩ := getL_rel ra e
    cases bools_ok q h
    exact .inl h1
theorem sortI_eq {ns ms : List Int} (h : ms.Perm ns) (s : ms.Pairwise (· ≤ ·)) : ms = sortI ns := by
  refine List.Perm.eq_of_pairwise (le := fun a b : Int => a ≤ b) (fun a b _ _ h1 h2 => Int.le_antisymm h1 h2) s ?_ (h.trans (List.mergeSort_perm _ _).symm)
  have q := List.pairwise_mergeSort (le := fun a b : Int => decide (a ≤ b)) (fun a b c h1 h2 => by simp at *; omega) (fun a b => by simp; omega) ns
  exact q.imp fun h => by simpa using h
theorem foldl_max {r : List Int} : ∀ {x : Int}, (r.foldl max x ∈ x :: r) ∧ ∀ y ∈ x :: r, y ≤ r.foldl max x := by
  induction r with
  | nil => intro x; simp
  | cons b r ih =>
    intro x
    obtain ⟨h1, h2⟩ := ih (x := max x b)
    rw [List.foldl_cons]
    refine ⟨?_, fun y hy => ?_⟩
    · rcases List.mem_cons.mp h1 with e | e
      · rw [e]
        rcases (by omega : max x b = x ∨ max x b = b) with q | q <;> rw [q] <;> simp
      · exact List.mem_cons_of_mem _ (List.mem_cons_of_mem _ e)
    · have h3 := h2 (max x b) List.mem_cons_self
      rcases List.mem_cons.mp hy with e | e
      · omega
      · rcases List.mem_cons.mp e with e | e
        · omega
        · exact h2 y (List.mem_cons_of_mem _ e)
theorem foldl_min {r : List Int} : ∀ {x : Int}, (r.foldl min x ∈ x :: r) ∧ ∀ y ∈ x :: r, r.foldl min x ≤ y := by
  induction r with
  | nil => intro x; simp
  | cons b r ih =>
    intro x
    obtain ⟨h1, h2⟩ := ih (x := min x b)
    rw [List.foldl_cons]
    refine ⟨?_, fun y hy => ?_⟩
    · rcases List.mem_cons.mp h1 with e | e
      · rw [e]
        rcases (by omega : min x b = x ∨ min x b = b) with q | q <;> rw [q] <;> simp
      · exact List.mem_cons_of_mem _ (List.mem_cons_of_mem _ e)
    · have h3 := h2 (min x b) List.mem_cons_self
      rcases List.mem_cons.mp hy with e | e
      · omega
      · rcases List.mem_cons.mp e with e | e
        · omega
        · exact h2 y (List.mem_cons_of_mem _ e)
theorem maxI_eq {ns : List Int} {m : Int} (h : m ∈ ns) (k : ∀ y ∈ ns, y ≤ m) : m = maxI ns := by
  cases ns with
  | nil => cases h
  | cons x r =>
    obtain ⟨h1, h2⟩ := foldl_max (r := r) (x := x)
    exact Int.le_antisymm (h2 m h) (k _ h1)
theorem minI_eq {ns : List Int} {m : Int} (h : m ∈ ns) (k : ∀ y ∈ ns, m ≤ y) : m = minI ns := by
  cases ns with
  | nil => cases h
  | cons x r =>
    obtain ⟨h1, h2⟩ := foldl_min (r := r) (x := x)
    exact Int.le_antisymm (k _ h1) (h2 m h)
theorem b_max (hc : X.calm = true) (hK : X.K = c.K) (hu : X.A.units + 66 < cLine) : CallR X (.builtin "max") (lRs c (rB .max)) := by
  refine CallR.imp (CallR.or (call_max2 hc) (CallR.or (cr_max hc) (call_maxT hc hu))) fun xs H Q h => ?_
  obtain ⟨A, ds, Qd, ra, rx, r, f⟩ := h
  rcases ds with _ | ⟨d, _ | ⟨e, _ | _⟩⟩
  · exact r.elim
  · obtain ⟨v, rfl, rv⟩ := rx.one_of
    have r : (match (seqD A d).bind intsD with
      | some ns => 0 < ns.length ∧ Qd (.int (maxI ns)) A
      | none => False) := by cases d <;> exact r
    split at r
    · rename_i ns e
      obtain ⟨a, rfl, h⟩ := seq_ints ra rv e
      rcases h with h | h
      · exact .inr (.inl ⟨_, ns, rfl, by rw [hK]; exact h, r.1, fun m h1 h2 => f.here r.2 ra (by rw [maxI_eq h1 h2]; rfl)⟩)
      · exact .inr (.inr ⟨_, ns, rfl, by rw [hK]; exact h, r.1, fun m h1 h2 => f.here r.2 ra (by rw [maxI_eq h1 h2]; rfl)⟩)
    · exact r.elim
  · obtain ⟨v, w, rfl, rv, rw'⟩ := rx.two_of
    cases d <;> cases e <;> try exact r.elim
    cases rv
    cases rw'
    exact .inl ⟨_, _, rfl, f.here r ra rfl⟩
  · cases d <;> cases e <;> exact r.elim
theorem b_min (hc : X.calm = true) (hK : X.K = c.K) : CallR X (.builtin "min") (lRs c (rB .min)) := by
  refine CallR.imp (CallR.or (call_min2 hc) (cr_min hc)) fun xs H Q h => ?_
  obtain ⟨A, ds, Qd, ra, rx, r, f⟩ := h
  rcases ds with _ | ⟨d, _ | ⟨e, _ | _⟩⟩
  · exact r.elim
  · obtain ⟨v, rfl, rv⟩ := rx.one_of
    have r : (match (lstD A d).bind intsD with
      | some ns => 0 < ns.length ∧ Qd (.int (minI ns)) A
      | none => False) := by cases d <;> exact r
    split at r
    · rename_i ns e
      obtain ⟨a, rfl, h⟩ := lst_ints ra rv e
      exact .inr ⟨_, ns, rfl, by rw [hK]; exact h, r.1, fun m h1 h2 => f.here r.2 ra (by rw [minI_eq h1 h2]; rfl)⟩
    · exact r.elim
  · obtain ⟨v, w, rfl, rv, rw'⟩ := rx.two_of
    cases d <;> cases e <;> try exact r.elim
    cases rv
    cases rw'
    exact .inl ⟨_, _, rfl, f.here r ra rfl⟩
  · cases d <;> cases e <;> exact r.elim
theorem keys_ints : ∀ {kvs : List (Key × D)} {ns : List Int}, intsD (kvs.map fun p => keyD p.1) = some ns → kvs.map (·.1) = ns.map Sum.inl
  | [], ns, e => by cases e; rfl
  | (.inl i, d) :: r, ns, e => by
    have e : (intsD (r.map fun p => keyD p.1)).map (i :: ·) = some ns := e
    cases q : intsD (r.map fun p => keyD p.1) with
    | none => rw [q] at e; cases e
    | some ms =>
      rw [q] at e
      cases e
      rw [List.map_cons, keys_ints q]
      rfl
  | (.inr x, d) :: r, ns, e => by cases (show none = some ns from e)
theorem keysD_rel {K : PySem.W.Frag} {H : Hp} : ∀ ks : List Key, RelDs K H (ks.map keyD) (ks.map kV)
  | [] => rfl
  | k :: ks => ⟨_, _, rfl, keyD_rel k, keysD_rel ks⟩
/-- list(d) of a dict that is read -/
theorem call_listR (hc : X.calm = true) : CallR X (.type "list") (fun xs H Q => ∃ p kvs, xs = [.ref p] ∧ Rd H p (.dK kvs) ∧ ∀ q, H q = none → Q (.ref q) (upd H q (.lst (kvs.map fun kv => kV kv.1)))) := by
  intro pins s σ H xs us Q I r h
  obtain ⟨p, kvs, e, hk, q⟩ := h
  subst e
  obtain ⟨u, eu, rx⟩ := vals1 r
  subst eu
  obtain rfl : u = Value.ref p := rx
  obtain ⟨z, lo, vs, rk, hd⟩ := dk_rd I.hok hk
  obtain ⟨ep, hat⟩ := hd.dictAt
  have hl : kvs.length = vs.length := Paired.length rk
  refine PySem.W.kdl_call (PySem.W.kdl_dict (knd := mixKind X.prog X.w) (kvs := vs) (ep := ep) lo) (I.ok.hd hc) hat (by rw [← hl]; exact z) fun h' tk acc' c' hkeep hS hacc => ?_
  refine ⟨.ref s.heap.objs.size, upd H s.heap.objs.size (.lst (kvs.map fun kv => kV kv.1)), I.laid hkeep (Nat.le_refl _) (show ObjOk X.prog X.w _ _ _ (.lst (kvs.map fun kv => kV kv.1)) from ⟨?_, acc'.toList, c', ?_, ?_⟩), rfl, q _ (I.hok.fresh (Nat.le_refl _))⟩
  · rw [List.length_map]; exact z
  · have el : acc'.toList.length = acc'.size := by simp
    refine vals_of_at (by rw [List.length_map, el, hacc.1, hl]) fun j x w h1 h2 => ?_
    obtain ⟨k, y, hky, hi⟩ := hacc.2 j w (by rw [← Array.getElem?_toList]; exact h2)
    have e1 : (kvs.map (·.1))[j]? = some k := by
      rw [KV.keys rk, List.getElem?_map, hky] <;> rfl
    have e2 : (kvs.map fun kv => kV kv.1)[j]? = some (kV k) := by
      have e3 : (kvs.map fun kv => kV kv.1) = (kvs.map (·.1)).map kV := by rw [List.map_map] <;> rfl
      rw [e3, List.getElem?_map, e1] <;> rfl
    rw [e2] at h1
    cases h1
    exact keyIs_rel hi
  · rw [Array.toArray_toList]; exact hS
/-- what stands at the rows -/
theorem rows_rel {K : PySem.W.Frag} {H : Hp} (tp : Bool) : ∀ {ds : List D} {vs : List V} {ls : List (List Int)}, RelDs K H ds vs → (if tp then tupsD ds else rowsD ds) = some ls →
    ∃ ps : List (V × List Int), ps.map (·.1) = vs ∧ ps.map (·.2) = ls ∧ ∀ p ∈ ps, RelD K H (if tp then .tup (p.2.map .int) else .fl (p.2.map .int)) p.1 ∧ (tp = true → p.2 ≠ [])
  | [], _, ls, r, e => by
    cases (show _ = [] from r)
    cases tp <;> (cases e; exact ⟨[], rfl, rfl, fun p hp => by cases hp⟩)
  | d :: ds, _, ls, ⟨v, w, ev, h, r⟩, e => by
    subst ev
    have key : ∀ {es : List D} {l : List Int}, intsD es = some l → es = l.map .int := fun {es} => by
      induction es with
      | nil => intro l q; cases q; rfl
      | cons x es ih =>
        intro l q
        cases x <;> try (simp only [intsD] at q; cases q; done)
        simp only [intsD] at q
        cases q2 : intsD es with
        | none => rw [q2] at q; cases q
        | some m => rw [q2] at q; cases q; rw [ih q2]; rfl
    cases tp
    · have e : rowsD (d :: ds) = some ls := e
      cases d <;> try (simp only [rowsD] at e; cases e; done)
      rename_i es
      simp only [rowsD] at e
      split at e
      · rename_i l ms q1 q2
        cases e
        obtain ⟨ps, p1, p2, p3⟩ := rows_rel false (ls := ms) r q2
        rw [key q1] at h
        refine ⟨(v, l) :: ps, by rw [List.map_cons, p1], by rw [List.map_cons, p2], fun p hp => ?_⟩
        rcases List.mem_cons.mp hp with rfl | hp
        · exact ⟨h, fun z => by cases z⟩
        · exact p3 p hp
      · cases e
    · have e : tupsD (d :: ds) = some ls := e
      cases d <;> try (simp only [tupsD] at e; cases e; done)
      rename_i es
      simp only [tupsD] at e
      split at e
      · rename_i l ms q1 q2
        split at e
        · cases e
        · rename_i ne
          cases e
          obtain ⟨ps, p1, p2, p3⟩ := rows_rel true (ls := ms) r q2
          rw [key q1] at h
          refine ⟨(v, l) :: ps, by rw [List.map_cons, p1], by rw [List.map_cons, p2], fun p hp => ?_⟩
          rcases List.mem_cons.mp hp with rfl | hp
          · exact ⟨h, fun _ => ne⟩
          · exact p3 p hp
      · cases e
theorem allSome_ints (A : AH) (n : Nat) : ∀ l : List Int, allSome ((l.map D.int).map (snapR A n)) = some (l.map .int)
  | [] => rfl
  | i :: l => by
    have e : snapR A n (.int i) = some (.int i) := by cases n <;> rfl
    rw [List.map_cons, List.map_cons, e, allSome, allSome_ints A n l]
    rfl
theorem rows_dpm {A : AH} {H : Hp} (ra : RelA c A H) {tp : Bool} {p : V × List Int} (h : RelD c.K H (if tp then .tup (p.2.map .int) else .fl (p.2.map .int)) p.1) : DpM c.K H p.1 (encR tp p) := by
  cases tp
  · exact snapR_ok ra 1 _ _ _ h (by show (allSome ((p.2.map D.int).map (snapR A 0))).map _ = _; rw [allSome_ints]; rfl)
  · exact snapR_ok ra 1 _ _ _ h (by show (allSome ((p.2.map D.int).map (snapR A 0))).map _ = _; rw [allSome_ints]; rfl)
theorem relDs_of {K : PySem.W.Frag} {H : Hp} {f : V × List Int → D} : ∀ {ps : List (V × List Int)}, (∀ p ∈ ps, RelD K H (f p) p.1) → RelDs K H (ps.map f) (ps.map (·.1))
  | [], _ => rfl
  | p :: ps, h => ⟨_, _, rfl, h p List.mem_cons_self, relDs_of fun q hq => h q (List.mem_cons_of_mem _ hq)⟩
theorem rows_out {K : PySem.W.Frag} {H : Hp} {tp : Bool} {ps : List (V × List Int)} {ls : List (List Int)} (e : ps.map (·.2) = ls) (h : ∀ p ∈ ps, RelD K H (if tp then .tup (p.2.map .int) else .fl (p.2.map .int)) p.1 ∧ (tp = true → p.2 ≠ [])) :
    RelDs K H ((sortR ls).map fun l => if tp then .tup (l.map .int) else .fl (l.map .int)) ((ps.mergeSort fun p q => decide (p.2 ≤ q.2)).map (·.1)) := by
  have e2 : sortR ls = (ps.mergeSort fun p q => decide (p.2 ≤ q.2)).map (·.2) := by
    unfold sortR
    rw [← e]
    exact (List.map_mergeSort (r := fun p q : V × List Int => decide (p.2 ≤ q.2)) (s := fun a b : List Int => decide (a ≤ b)) (f := fun p : V × List Int => p.2) (l := ps) fun a _ b _ => rfl).symm
  rw [e2, List.map_map]
  exact relDs_of fun p hp => (h p (List.mem_mergeSort.mp hp)).1
theorem b_sorted (hc : X.calm = true) (hK : X.K = c.K) (hu : X.A.units + 66 < cLine) : CallR X (.builtin "sorted") (lRs c (rB .sorted)) := by
  refine CallR.imp (CallR.or (CallR.fz cr_sortedI) (CallR.or (CallR.fz cr_sortedTN) (CallR.or (CallR.fz (call_sortedDI hc)) (CallR.or (CallR.fz (cr_sortedR hu false)) (CallR.fz (cr_sortedR hu true)))))) fun xs H Q h => ?_
  obtain ⟨A, ds, Qd, ra, rx, r, f⟩ := h
  rcases ds with _ | ⟨d, _ | ⟨e, _⟩⟩ <;> try exact r.elim
  obtain ⟨v, rfl, rv⟩ := rx.one_of
  simp only [rB] at r
  split at r
  · rename_i kvs e
    split at r
    · rename_i ns en
      obtain ⟨a, ws, rfl, hr, rk⟩ := mapD_rel ra rv e
      have ek : ws.map (·.1) = ns.map Sum.inl := by
        rw [rk.keys]
        exact keys_ints en
      refine .inr (.inr (.inl ⟨a, ws, ns, rfl, hr, ek, r.1, fun ms p h1 h2 hp => ?_⟩))
      rw [sortI_eq h1 h2]
      exact f.lst r.2 ra (ints_rel _) p hp
    · exact r.elim
  · split at r
    · rename_i ns e
      obtain ⟨a, rfl, h⟩ := seq_ints ra rv e
      rcases h with h | h
      · refine .inl ⟨a, ns, rfl, by rw [hK]; exact h, fun ms p h1 h2 hp => ?_⟩
        rw [sortI_eq h1 h2]
        exact f.lst r ra (ints_rel _) p hp
      · refine .inr (.inl ⟨a, ns, rfl, by rw [hK]; exact h, fun ms p h1 h2 hp => ?_⟩)
        rw [sortI_eq h1 h2]
        exact f.lst r ra (ints_rel _) p hp
    · split at r
      · rename_i ls e
        cases e1 : lstD A d with
        | none => rw [e1] at e; cases e
        | some es =>
          rw [e1] at e
          obtain ⟨a, vs, rfl, h1, q⟩ := lstD_rel ra rv e1
          obtain ⟨ps, p1, p2, p3⟩ := rows_rel false (ls := ls) q e
          exact .inr (.inr (.inr (.inl ⟨a, ps, rfl, by rw [hK, p1]; exact h1, fun p hp => ⟨by rw [hK]; exact rows_dpm ra (tp := false) (p3 p hp).1, (p3 p hp).2⟩, f.lst r ra (rows_out (tp := false) p2 p3)⟩)))
      · split at r
        · rename_i ls e
          cases e1 : lstD A d with
          | none => rw [e1] at e; cases e
          | some es =>
            rw [e1] at e
            obtain ⟨a, vs, rfl, h1, q⟩ := lstD_rel ra rv e1
            obtain ⟨ps, p1, p2, p3⟩ := rows_rel true (ls := ls) q e
            exact .inr (.inr (.inr (.inr ⟨a, ps, rfl, by rw [hK, p1]; exact h1, fun p hp => ⟨by rw [hK]; exact rows_dpm ra (tp := true) (p3 p hp).1, (p3 p hp).2⟩, f.lst r ra (rows_out (tp := true) p2 p3)⟩)))
        · exact r.elim
theorem b_all (hc : X.calm = true) (hK : X.K = c.K) : CallR X (.builtin "all") (lRs c (rB .all)) := by
  refine CallR.imp (cr_all hc) fun xs H Q h => ?_
  obtain ⟨A, ds, Qd, ra, rx, r, f⟩ := h
  rcases ds with _ | ⟨d, _ | ⟨e, _⟩⟩ <;> try exact r.elim
  obtain ⟨v, rfl, rv⟩ := rx.one_of
  simp only [rB] at r
  split at r
  · rename_i bs e
    obtain ⟨a, rfl, h⟩ := lst_bools ra rv e
    exact ⟨_, bs, rfl, by rw [hK]; exact h, f.here r ra rfl⟩
  · exact r.elim
theorem b_any (hc : X.calm = true) (hK : X.K = c.K) : CallR X (.builtin "any") (lRs c (rB .any)) := by
  refine CallR.imp (cr_any hc) fun xs H Q h => ?_
  obtain ⟨A, ds, Qd, ra, rx, r, f⟩ := h
  rcases ds with _ | ⟨d, _ | ⟨e, _⟩⟩ <;> try exact r.elim
  obtain ⟨v, rfl, rv⟩ := rx.one_of
  simp only [rB] at r
  split at r
  · rename_i bs e
    obtain ⟨a, rfl, h⟩ := lst_bools ra rv e
    exact ⟨_, bs, rfl, by rw [hK]; exact h, f.here r ra rfl⟩
  · exact r.elim
theorem b_sum (hc : X.calm = true) (hK : X.K = c.K) : CallR X (.builtin "sum") (lRs c (rB .sum)) := by
  refine CallR.imp (cr_sum hc) fun xs H Q h => ?_
  obtain ⟨A, ds, Qd, ra, rx, r, f⟩ := h
  rcases ds with _ | ⟨d, _ | ⟨e, _⟩⟩ <;> try exact r.elim
  obtain ⟨v, rfl, rv⟩ := rx.one_of
  simp only [rB] at r
  split at r
  · rename_i bs e
    obtain ⟨a, rfl, h⟩ := lst_ints ra rv e
    exact ⟨_, bs, rfl, by rw [hK]; exact h, f.here r ra rfl⟩
  · exact r.elim
theorem b_tuple (hc : X.calm = true) (hK : X.K = c.K) : CallR X (.type "tuple") (lRs c (rB .tuple)) := by
  refine CallR.imp (CallR.or call_tupleN (call_tupD hc)) fun xs H Q h => ?_
  obtain ⟨A, ds, Qd, ra, rx, r, f⟩ := h
  rcases ds with _ | ⟨d, _ | ⟨e, _⟩⟩
  · exact r.elim
  · obtain ⟨v, rfl, rv⟩ := rx.one_of
    cases d with
    | tup es =>
      obtain ⟨a, vs, rfl, h, q⟩ := rv
      exact .inl ⟨a, vs, rfl, .inr ⟨by rw [hK]; exact h.sqt, f.here r ra ⟨a, vs, rfl, h, q⟩⟩⟩
    | _ =>
      simp only [rB] at r
      split at r
      · rename_i e
        obtain ⟨a, vs, rfl, h, q⟩ := lstD_rel ra rv e
        exact .inl ⟨a, vs, rfl, .inl ⟨by rw [hK]; exact h, f.tup r ra q⟩⟩
      · split at r
        · rename_i kvs e
          obtain ⟨a, ws, rfl, hr, rk⟩ := mapD_rel ra rv e
          refine .inr ⟨a, ws, rfl, hr, f.tup r ra ?_⟩
          have e2 : (ws.map fun q => kV q.1) = (kvs.map (·.1)).map kV := by rw [← rk.keys, List.map_map]; rfl
          rw [e2]
          have e3 : (kvs.map fun p => keyD p.1) = (kvs.map (·.1)).map keyD := by rw [List.map_map]; rfl
          rw [e3]
          exact keysD_rel _
        · exact r.elim
  · cases d <;> exact r.elim
theorem b_list (hc : X.calm = true) (hK : X.K = c.K) : CallR X (.type "list") (lRs c (rB .list)) := by
  refine CallR.imp (CallR.or (CallR.fz call_list_of) (CallR.fz (call_listR hc))) fun xs H Q h => ?_
  obtain ⟨A, ds, Qd, ra, rx, r, f⟩ := h
  rcases ds with _ | ⟨d, _ | ⟨e, _⟩⟩ <;> try exact r.elim
  obtain ⟨v, rfl, rv⟩ := rx.one_of
  simp only [rB] at r
  split at r
  · rename_i kvs e
    obtain ⟨a, ws, rfl, hr, rk⟩ := mapD_rel ra rv e
    refine .inr ⟨a, ws, rfl, hr, f.lst r ra ?_⟩
    have : (ws.map fun q => kV q.1) = (kvs.map (·.1)).map kV := by rw [← rk.keys, List.map_map]; rfl
    rw [this]
    have e3 : (kvs.map fun p => keyD p.1) = (kvs.map (·.1)).map keyD := by rw [List.map_map]; rfl
    rw [e3]
    exact keysD_rel _
  · split at r
    · rename_i e
      obtain ⟨a, vs, rfl, h, q⟩ := seq_ok ra rv e
      exact .inl ⟨a, vs, rfl, by rw [hK]; exact h, f.lst r ra q⟩
    · exact r.elim

/-! ### methods -/
theorem MtR.or {f : String} {r r' : V → List V → Hp → VK → Prop} (h : MtR X f r) (h' : MtR X f r') : MtR X f (fun o x H Q => r o x H Q ∨ r' o x H Q) := by
  intro pins s σ H o xs ov us Q I ro rx q
  rcases q with q | q
  · exact h pins s σ H o xs ov us Q I ro rx q
  · exact h' pins s σ H o xs ov us Q I ro rx q
theorem Mono.lst {H : Hp} {a : Addr} {vs : List V} {o : HO} (h : H a = some (.lst vs)) : Mono H (L2.upd H a o) := Mono.at h fun _ _ z => nomatch z
theorem Fol.wr {H : Hp} {Q : VK} {Qd : Dk} {A : AH} {d : D} {v : V} {a : Addr} {ds : List D} {vs ws : List V} (f : Fol c H Q Qd) (q : Qd d (put A a (.lst ds))) (ra : RelA c A H) (h : H a = some (.lst ws)) (rd : RelD c.K H d v) (r : RelDs c.K H ds vs) : Q v (upd H a (.lst vs)) :=
  have m := Mono.lst (o := .lst vs) h
  f d _ v _ q m (ra.put m ⟨vs, upd_same, r.mono m⟩) (RelD.mono m _ _ rd)
def lRl (c : RC) (r : Addr → List D → List D → AH → Dk → Prop) : V → List V → Hp → VK → Prop := fun x xs H Q => ∃ A a es ds Qd, RelA c A H ∧ x = .ref a ∧ A a = some (.lst es) ∧ RelDs c.K H ds xs ∧ r a es ds A Qd ∧ Fol c H Q Qd
def lRt (c : RC) (r : List D → List D → AH → Dk → Prop) : V → List V → Hp → VK → Prop := fun x xs H Q => ∃ A es ds Qd, RelA c A H ∧ RelD c.K H (.tup es) x ∧ RelDs c.K H ds xs ∧ r es ds A Qd ∧ Fol c H Q Qd
theorem m_append : MtR X "list.append" (lRl c (rML .append)) := by
  refine MtR.imp mt_append fun o xs H Q h => ?_
  obtain ⟨A, a, es, ds, Qd, ra, rfl, e, rx, r, f⟩ := h
  obtain ⟨vs, h, q⟩ := ra _ _ e
  rcases ds with _ | ⟨d, _ | ⟨e, _⟩⟩ <;> try exact r.elim
  obtain ⟨v, rfl, rv⟩ := rx.one_of
  exact ⟨_, vs, v, rfl, rfl, h, by rw [q.length]; exact r.1, f.wr (d := .non) r.2 ra h rfl (q.app (.one rv))⟩
theorem dropLast_ok {K : PySem.W.Frag} {H : Hp} {ds : List D} {vs : List V} (r : RelDs K H ds vs) : RelDs K H ds.dropLast vs.dropLast := by
  rw [List.dropLast_eq_take, List.dropLast_eq_take, r.length]
  exact r.take _
theorem m_pop : MtR X "list.pop" (lRl c (rML .pop)) := by
  refine MtR.imp (MtR.or mt_pop mt_popAt) fun o xs H Q h => ?_
  obtain ⟨A, a, es, ds, Qd, ra, rfl, e, rx, r, f⟩ := h
  obtain ⟨vs, h, q⟩ := ra _ _ e
  rcases ds with _ | ⟨d, _ | ⟨e, _⟩⟩
  · cases rx.nil_of
    simp only [rML] at r
    split at r
    · rename_i d e2
      obtain ⟨v, hv, rv⟩ := q.get e2
      exact .inl ⟨_, vs, v, rfl, rfl, h, by rw [q.length]; exact hv, f.wr r ra h rv (dropLast_ok q)⟩
    · exact r.elim
  · obtain ⟨v, rfl, rv⟩ := rx.one_of
    cases d <;> try exact r.elim
    cases rv
    rename_i i
    simp only [rML] at r
    obtain ⟨h0, h1, r⟩ := r
    split at r
    · rename_i d e2
      obtain ⟨v, hv, rv⟩ := q.get e2
      have hl : i.toNat < vs.length := (List.getElem?_eq_some_iff.mp hv).1
      exact .inr ⟨_, vs, i, i.toNat, v, rfl, rfl, h, by omega, by omega, PySem.StrLaws.seqIndex_nonneg h0 (by omega), hv, f.wr r ra h rv (q.erase _)⟩
    · exact r.elim
  · cases d <;> exact r.elim
/-- xs.extend(t), t a tuple locked as its object -/
theorem mt_extendT : MtR X "list.extend" (fun x vs H Q => ∃ l b xs zs o, x = .ref l ∧ vs = [.ref b] ∧ H l = some (.lst xs) ∧ ((H b = some (.frz o (.tup zs)) ∧ o.dict = none ∧ o.slots = #[]) ∨ ∃ (its : Array Value) (n : Nat), X.K.lookup b = some o ∧ o.cls = .type "tuple" ∧ (o.dict = none ∧ o.slots = #[]) ∧ o.data = .seq its n ∧ its.size ≤ sizeLine ∧ Vals zs its.toList) ∧ xs.length + zs.length ≤ sizeLine ∧ Q .non (upd H l (.lst (xs ++ zs)))) := by
  intro pins s σ H x vs v us Q I rx rv h
  obtain ⟨l, b, xs, zs, o, rfl, rfl, hH, hB, hz, q⟩ := h
  cases rx
  obtain ⟨u, rfl, ru⟩ := vals1 rv
  cases ru
  obtain ⟨z, its, n, r, hl, e⟩ := I.lstM hH
  obtain ⟨its2, n2, r2, e2⟩ : ∃ (its2 : List Value) (n2 : Nat), Vals zs its2 ∧ s.heap.get? b = some { cls := .type "tuple", dict := none, data := .seq its2.toArray n2, slots := #[] } := by
    rcases hB with ⟨hB, d1, d2⟩ | ⟨ar, n2, k1, k2, ⟨d1, d2⟩, k3, k4, k5⟩
    · obtain ⟨g1, g2, its2, r2, o', g3, g4, n2, g5⟩ := I.hok b _ hB
      rw [g1] at g3
      cases g3
      refine ⟨its2, n2, r2, ?_⟩
      rw [g1]
      obtain ⟨c1, c2, c3, c4⟩ := o
      subst d1 d2 g4 g5
      rfl
    · refine ⟨ar.toList, n2, k5, ?_⟩
      rw [I.kIn b o k1]
      obtain ⟨c1, c2, c3, c4⟩ := o
      subst d1 d2 k2 k3
      simp
  have hl1 := r.length
  have hl2 := r2.length
  have hsz : its.toArray.size + its2.toArray.size ≤ sizeLine := by rw [List.size_toArray, List.size_toArray]; omega
  have hlong : ¬ (!its.toArray.isEmpty && Builtin.List.listTooLong (its.toArray.size + its2.toArray.size)) = true := by
    rw [notLongL hsz, Bool.and_false]
    exact Bool.false_ne_true
  refine call_meets F.slot_list_extend ⟨_, e, rfl⟩ F.entry_list_extend (F.args_list_extend_2 _ _)
    (AutoSeq1.list_extend_list_tuple_0 l its.toArray n b its2.toArray n2 hlong (by rw [List.size_toArray]; omega) (by omega)) ⟨e, e2, ?_⟩
  refine ⟨.non, _, I.lset (its' := its ++ its2) hH e (by simp) (r.append r2) ?_, rfl, q⟩
  rw [List.length_append]
  omega
theorem mt_extendL : MtR X "list.extend" (fun x vs H Q => ∃ l b xs zs, x = .ref l ∧ vs = [.ref b] ∧ H l = some (.lst xs) ∧ (Rd H b (.lst zs) ∨ FlAt X.K H b zs) ∧ xs.length + zs.length ≤ sizeLine ∧ Q .non (upd H l (.lst (xs ++ zs)))) := by
  intro pins s σ H x vs v us Q I rx rv h
  obtain ⟨l, b, xs, zs, rfl, rfl, hH, hB, hz, q⟩ := h
  cases rx
  obtain ⟨u, rfl, ru⟩ := vals1 rv
  cases ru
  obtain ⟨z, its, n, r, hl, e⟩ := I.lstM hH
  obtain ⟨z2, its2, n2, r2, e2⟩ : ∃ (z2 : True) (its2 : List Value) (n2 : Nat), Vals zs its2 ∧ s.heap.get? b = some { cls := .type "list", data := .seq its2.toArray n2 } := by
    rcases hB with hB | ⟨o, hB⟩ | ⟨o, its2, n2, k1, k2, k3, k4, k5, k6, k7⟩
    · obtain ⟨_, its2, n2, r2, e2⟩ := hB.ok I.hok
      exact ⟨trivial, its2, n2, r2, e2⟩
    · obtain ⟨_, its2, n2, r2, e2⟩ := (Rd.ok (.inr ⟨o, hB⟩) I.hok : ObjOk X.prog X.w H s.heap b (.lst zs))
      exact ⟨trivial, its2, n2, r2, e2⟩
    · refine ⟨trivial, its2.toList, n2, k6, ?_⟩
      rw [I.kIn b o k1]
      obtain ⟨c1, c2, c3, c4⟩ := o
      subst k2 k3 k4 k7
      simp
  have hl1 := r.length
  have hl2 := r2.length
  have hsz : its.toArray.size + its2.toArray.size ≤ sizeLine := by rw [List.size_toArray, List.size_toArray]; omega
  have hlong : ¬ (!its.toArray.isEmpty && Builtin.List.listTooLong (its.toArray.size + its2.toArray.size)) = true := by
    rw [notLongL hsz, Bool.and_false]
    exact Bool.false_ne_true
  refine call_meets F.slot_list_extend ⟨_, e, rfl⟩ F.entry_list_extend (F.args_list_extend_2 _ _)
    (AutoSeq1.list_extend_list_list_0 l its.toArray n b its2.toArray n2 hlong (by rw [List.size_toArray]; omega) (by omega)) ⟨e, e2, ?_⟩
  refine ⟨.non, _, I.lset (its' := its ++ its2) hH e (by simp) (r.append r2) ?_, rfl, q⟩
  rw [List.length_append]
  omega
theorem m_extend (hK : X.K = c.K) : MtR X "list.extend" (lRl c (rML .extend)) := by
  refine MtR.imp (MtR.or mt_extendL mt_extendT) fun o xs H Q h => ?_
  obtain ⟨A, a, es, ds, Qd, ra, rfl, e, rx, r, f⟩ := h
  obtain ⟨vs, h, q⟩ := ra _ _ e
  rcases ds with _ | ⟨d, _ | ⟨e, _⟩⟩ <;> try exact r.elim
  · obtain ⟨v, rfl, rv⟩ := rx.one_of
    cases d with
    | tup es =>
      obtain ⟨b, ws, rfl, h2, q2⟩ := rv
      rcases h2 with ⟨ob, h2⟩ | ⟨ob, h2⟩
      · exact .inr ⟨a, b, vs, ws, ob, rfl, rfl, h, .inl h2, by rw [q.length, q2.length]; exact r.1, f.wr (d := .non) r.2 ra h rfl (q.app q2)⟩
      · exact .inr ⟨a, b, vs, ws, ob, rfl, rfl, h, .inr (by rw [hK]; exact h2), by rw [q.length, q2.length]; exact r.1, f.wr (d := .non) r.2 ra h rfl (q.app q2)⟩
    | ref b =>
      cases rv
      simp only [rML, lstD] at r
      split at r
      · rename_i e2
        obtain ⟨ws, h2, q2⟩ := getL_rel ra e2
        exact .inl ⟨_, _, vs, ws, rfl, rfl, h, .inl h2, by rw [q.length, q2.length]; exact r.1, f.wr (d := .non) r.2 ra h rfl (q.app q2)⟩
      · exact r.elim
    | fl es =>
      obtain ⟨b, ws, rfl, h2, q2⟩ := rv
      exact .inl ⟨a, b, vs, ws, rfl, rfl, h, .inr (by rw [hK]; exact h2), by rw [q.length, q2.length]; exact r.1, f.wr (d := .non) r.2 ra h rfl (q.app q2)⟩
    | _ => exact r.elim
  · cases d <;> exact r.elim
theorem m_insert : MtR X "list.insert" (lRl c (rML .insert)) := by
  refine MtR.imp mt_insert fun o xs H Q h => ?_
  obtain ⟨A, a, es, ds, Qd, ra, rfl, e, rx, r, f⟩ := h
  obtain ⟨vs, h, q⟩ := ra _ _ e
  rcases ds with _ | ⟨d, _ | ⟨e, _ | _⟩⟩ <;> try exact r.elim
  · cases d <;> exact r.elim
  · obtain ⟨v, w, rfl, rv, rw'⟩ := rx.two_of
    cases d <;> try exact r.elim
    cases rv
    exact ⟨_, vs, _, w, rfl, rfl, h, by rw [q.length]; exact r.1, r.2.1, by have := r.2.2.1; omega, f.wr (d := .non) r.2.2.2 ra h rfl (((q.take _).app (.one rw')).app (q.drop _))⟩
  · cases d <;> exact r.elim
theorem m_index (hK : X.K = c.K) (hu : X.A.units + 7 < cLine) : MtR X "list.index" (lRl c (rML .index)) := by
  intro pins s σ H x xs v us Q I rx rxs h
  obtain ⟨A, a, es, ds, Qd, ra, rfl, e, rd, r, f⟩ := h
  obtain ⟨vs, h, q⟩ := ra _ _ e
  rcases ds with _ | ⟨d, _ | ⟨e, _⟩⟩ <;> try exact r.elim
  · obtain ⟨w, rfl, rv⟩ := rd.one_of
    cases d <;> try exact r.elim
    · cases rv
      cases rx
      obtain ⟨u, rfl, t, rfl⟩ := vals1 rxs
      simp only [rML] at r
      split at r
      · rename_i ns e2
        cases ints_ok q e2
        obtain ⟨its, r', pl, hz⟩ := I.list (SqL.of (K := X.K) h)
        have hlen := r'.length
        exact SeqAt.list_index_ints pl.isList (intsAre_of r') (by rw [List.length_map] at hz; exact hz) r.1 ⟨.int _, H, I.tok _, ⟨_, rfl⟩, f.here r.2 ra rfl⟩
      · exact r.elim
    · cases rx
      obtain ⟨u, rfl, rw⟩ := vals1 rxs
      simp only [rML] at r
      split at r
      · rename_i p ep
        split at r
        · rename_i rs er
          obtain ⟨its, r', pl, hz⟩ := I.list (SqL.of (K := X.K) h)
          exact ix_tab hu I pl.isList r' (by rw [hK]; exact q) ep (by rw [hK]; exact rv) rw er hz r.1 ⟨.int _, H, I.tok _, ⟨_, rfl⟩, f.here r.2 ra rfl⟩
        · exact r.elim
      · exact r.elim
  · cases d <;> exact r.elim
def lRf (c : RC) (r : List D → List D → AH → Dk → Prop) : V → List V → Hp → VK → Prop := fun x xs H Q => ∃ A es ds Qd, RelA c A H ∧ RelD c.K H (.fl es) x ∧ RelDs c.K H ds xs ∧ r es ds A Qd ∧ Fol c H Q Qd
theorem m_findex (hK : X.K = c.K) : MtR X "list.index" (lRf c (rMF .index)) := by
  intro pins s σ H x xs v us Q I rx rxs h
  obtain ⟨A, es, ds, Qd, ra, ⟨a, vs, rfl, h, q⟩, rd, r, f⟩ := h
  rcases ds with _ | ⟨d, _ | ⟨e, _⟩⟩ <;> try exact r.elim
  · obtain ⟨w, rfl, rv⟩ := rd.one_of
    cases d <;> try exact r.elim
    cases rv
    cases rx
    obtain ⟨u, rfl, t, rfl⟩ := vals1 rxs
    simp only [rMF] at r
    split at r
    · rename_i ns e2
      cases ints_ok q e2
      obtain ⟨its, r', pl, hz⟩ := I.list (by rw [hK]; exact h.sql)
      have hlen := r'.length
      exact SeqAt.list_index_ints pl.isList (intsAre_of r') (by rw [List.length_map] at hz; exact hz) r.1 ⟨.int _, H, I.tok _, ⟨_, rfl⟩, f.here r.2 ra rfl⟩
    · exact r.elim
  · cases d <;> exact r.elim
theorem m_fcount (hK : X.K = c.K) : MtR X "list.count" (lRf c (rMF .count)) := by
  refine MtR.imp mt_lcount fun o xs H Q h => ?_
  obtain ⟨A, es, ds, Qd, ra, ⟨a, vs, rfl, h, q⟩, rd, r, f⟩ := h
  rcases ds with _ | ⟨d, _ | ⟨e, _⟩⟩ <;> try exact r.elim
  · obtain ⟨w, rfl, rv⟩ := rd.one_of
    cases d <;> try exact r.elim
    cases rv
    simp only [rMF] at r
    split at r
    · rename_i ns e2
      cases ints_ok q e2
      exact ⟨a, ns, _, rfl, rfl, by rw [hK]; exact h.sql, f.here r ra rfl⟩
    · exact r.elim
  · cases d <;> exact r.elim
theorem m_count (hK : X.K = c.K) : MtR X "list.count" (lRl c (rML .count)) := by
  refine MtR.imp mt_lcount fun o xs H Q h => ?_
  obtain ⟨A, a, es, ds, Qd, ra, rfl, e, rd, r, f⟩ := h
  obtain ⟨vs, h, q⟩ := ra _ _ e
  rcases ds with _ | ⟨d, _ | ⟨e, _⟩⟩ <;> try exact r.elim
  · obtain ⟨w, rfl, rv⟩ := rd.one_of
    cases d <;> try exact r.elim
    cases rv
    simp only [rML] at r
    split at r
    · rename_i ns e2
      cases ints_ok q e2
      exact ⟨a, ns, _, rfl, rfl, SqL.of h, f.here r ra rfl⟩
    · exact r.elim
  · cases d <;> exact r.elim
/-- d.get(k), d.get(k, x) -/
def lRg (c : RC) : V → List V → Hp → VK → Prop := fun x xs H Q => ∃ A d kvs ds Qd, RelA c A H ∧ RelD c.K H d x ∧ mapD A d = some kvs ∧ RelDs c.K H ds xs ∧ rMD .get kvs ds A Qd ∧ Fol c H Q Qd
theorem m_get (hu : X.A.units + 1 < cLine) : MtR X "dict.get" (lRg c) := by
  intro pins s σ H x xs v us Q I rx rxs h
  obtain ⟨A, d, kvs, ds, Qd, ra, rd, em, rds, r, f⟩ := h
  rcases ds with _ | ⟨y, _ | ⟨z, _ | _⟩⟩ <;> try exact r.elim
  · obtain ⟨w, rfl, ry⟩ := rds.one_of
    obtain ⟨u, rfl, ru⟩ := vals1 rxs
    simp only [rMD] at r
    split at r
    · rename_i k ek
      obtain ⟨a, o, rfl, g, zz⟩ := dget_of ra rd ry em ek
      cases rx
      refine d_get1 hu I g ru fun w' s' I' rw' => ⟨_, H, I', rw', ?_⟩
      rcases zz with ⟨z1, rfl⟩ | ⟨e, v, z1, rfl, rv⟩
      · rw [z1] at r
        exact f.here r ra rfl
      · rw [z1] at r
        exact f.here r ra rv
    · exact r.elim
  · obtain ⟨w, w2, rfl, ry, rz⟩ := rds.two_of
    obtain ⟨u, u2, rfl, ru, ru2⟩ := vals2 rxs
    simp only [rMD] at r
    split at r
    · rename_i k ek
      obtain ⟨a, o, rfl, g, zz⟩ := dget_of ra rd ry em ek
      cases rx
      refine d_get2 hu I g ru ru2 fun w' s' I' rw' => ⟨_, H, I', rw', ?_⟩
      rcases zz with ⟨z1, rfl⟩ | ⟨e, v, z1, rfl, rv⟩
      · rw [z1] at r
        exact f.here r ra rz
      · rw [z1] at r
        exact f.here r ra rv
    · exact r.elim
/-- d.setdefault(k, x) -/
def lRdx (c : RC) (r : Addr → List (Key × D) → List D → AH → Dk → Prop) : V → List V → Hp → VK → Prop := fun x xs H Q => ∃ A a kvs ds Qd, RelA c A H ∧ x = .ref a ∧ A a = some (.dct kvs) ∧ RelDs c.K H ds xs ∧ r a kvs ds A Qd ∧ Fol c H Q Qd
theorem m_setd : MtR X "dict.setdefault" (lRdx c (rMDx .setdefault)) := by
  intro pins s σ H x xs v us Q I rx rxs h
  obtain ⟨A, a, kvs, ds, Qd, ra, rfl, e, rds, r, f⟩ := h
  rcases ds with _ | ⟨y, _ | ⟨z, _ | _⟩⟩ <;> try exact r.elim
  obtain ⟨w, w2, rfl, ry, rz⟩ := rds.two_of
  obtain ⟨u, u2, rfl, ru, ru2⟩ := vals2 rxs
  simp only [rMDx] at r
  split at r
  · rename_i k ek
    obtain ⟨hl, r⟩ := r
    obtain ⟨ws, h, q⟩ := ra _ _ e
    cases rx
    have ew := dkey_rel ek ry
    subst ew
    refine d_setd I h ru ru2 (by rw [q.length]; exact hl) (fun v0 hv w' s' I' rw' => ?_) (fun hn w' s' I' rw' => ?_)
    · rcases q.look k with ⟨z1, z2⟩ | ⟨d0, v1, z1, z2, rv⟩
      · rw [z2] at hv; cases hv
      · rw [z2] at hv
        cases hv
        rw [z1] at r
        exact ⟨_, H, I', rw', f.here r ra rv⟩
    · rcases q.look k with ⟨z1, z2⟩ | ⟨d0, v1, z1, z2, rv⟩
      · rw [z1] at r
        have m7 : Mono H (L2.upd H a (.dK (putK ws k w2))) := Mono.at h fun _ _ z => nomatch z
        exact ⟨_, _, I', rw', f _ _ _ _ r m7 (ra.put (o := .dct (setK kvs k z)) m7 ⟨_, upd_same, (q.set k rz).mono m7⟩) (RelD.mono m7 _ _ rz)⟩
      · rw [z2] at hn; cases hn
  · exact r.elim
theorem m_tindex (hK : X.K = c.K) : MtR X "tuple.index" (lRt c (rMT .index)) := by
  intro pins s σ H x xs v us Q I rx rxs h
  obtain ⟨A, es, ds, Qd, ra, ⟨a, vs, rfl, h, q⟩, rd, r, f⟩ := h
  rcases ds with _ | ⟨d, _ | ⟨e, _⟩⟩ <;> try exact r.elim
  · obtain ⟨w, rfl, rv⟩ := rd.one_of
    cases d <;> try exact r.elim
    cases rv
    cases rx
    obtain ⟨u, rfl, t, rfl⟩ := vals1 rxs
    simp only [rMT] at r
    split at r
    · rename_i ns e2
      cases ints_ok q e2
      obtain ⟨its, r', pl, hz⟩ := I.tuple (by rw [hK]; exact h.sqt)
      exact SeqAt.tuple_index_ints pl (intsAre_of r') r.1 ⟨.int _, H, I.tok _, ⟨_, rfl⟩, f.here r.2 ra rfl⟩
    · exact r.elim
  · cases d <;> exact r.elim
theorem idxOf_first {ns : List Int} {k : Int} (h : k ∈ ns) : ns[ns.idxOf k]? = some k ∧ ∀ m : Nat, m < ns.idxOf k → ns[m]? ≠ some k := by
  induction ns with
  | nil => simp at h
  | cons a r ih =>
    by_cases e : a = k
    · subst e
      simp
    · have hk : k ∈ r := by
        rcases List.mem_cons.mp h with z | z
        · exact absurd z.symm e
        · exact z
      obtain ⟨i1, i2⟩ := ih hk
      have hb : (a == k) = false := beq_eq_false_iff_ne.mpr e
      rw [List.idxOf_cons, hb]
      refine ⟨by simpa using i1, fun m hm => ?_⟩
      cases m with
      | zero => simpa using e
      | succ m => simpa using i2 m (by simpa using hm)
theorem m_remove : MtR X "list.remove" (lRl c (rML .remove)) := by
  refine MtR.imp mt_remove fun o xs H Q h => ?_
  obtain ⟨A, a, es, ds, Qd, ra, rfl, e, rx, r, f⟩ := h
  obtain ⟨vs, h, q⟩ := ra _ _ e
  rcases ds with _ | ⟨d, _ | ⟨e, _⟩⟩ <;> try exact r.elim
  · obtain ⟨v, rfl, rv⟩ := rx.one_of
    cases d <;> try exact r.elim
    cases rv
    rename_i k
    simp only [rML] at r
    split at r
    · rename_i ns e2
      cases ints_ok q e2
      obtain ⟨h1, h2⟩ := idxOf_first r.1
      refine ⟨_, ns, k, ns.idxOf k, rfl, rfl, h, h1, h2, ?_⟩
      have := f.wr (d := .non) (v := .non) (vs := (ns.map V.int).eraseIdx (ns.idxOf k)) r.2 ra h rfl (q.erase _)
      rwa [erase_mapI] at this
    · exact r.elim
  · cases d <;> exact r.elim
end
end Py

namespace Py
open PySem PySem.Spec PyProof.Rows L2
section
variable (c : RC)
/-- what is wished of an exception, told of the layer's -/
def FolW (H : Hp) (W : Value → Option Addr → Hp → Prop) (Xd : Dx) : Prop := ∀ n A' C H', Xd n A' → c.cl n = some C → Mono H H' → RelA c A' H' → W (.ref C) none H'
def lE (t : DE) (W : WX) : TE := fun σ H Q => ∃ σd A Xd Qd, RelS c.K H σd σ ∧ RelA c A H ∧ t σd A Xd Qd ∧ Fol c H Q Qd ∧ FolW c H (fun cl d H' => W cl d σ H') Xd
def FolB (H : Hp) (Q : Bool → Hp → Prop) (Qd : Bool → AH → Prop) : Prop := ∀ b A' H', Qd b A' → Mono H H' → RelA c A' H' → Q b H'
def FolA (H : Hp) (Q : List V → Hp → Prop) (Qd : List D → AH → Prop) : Prop := ∀ ds A' vs H', Qd ds A' → Mono H H' → RelA c A' H' → RelDs c.K H' ds vs → Q vs H'
def lT (t : DE' Bool) (W : WX) : TT := fun σ H Q => ∃ σd A Xd Qd, RelS c.K H σd σ ∧ RelA c A H ∧ t σd A Xd Qd ∧ FolB c H Q Qd ∧ FolW c H (fun cl d H' => W cl d σ H') Xd
def lA (t : DE' (List D)) (W : WX) : TA := fun σ H Q => ∃ σd A Xd Qd, RelS c.K H σd σ ∧ RelA c A H ∧ t σd A Xd Qd ∧ FolA c H Q Qd ∧ FolW c H (fun cl d H' => W cl d σ H') Xd
/-- what a def promises -/
def lSp (t : List D → AH → Dx → Dk → Prop) : Sp := fun vs H Q E => ∃ A ds Xd Qd, RelA c A H ∧ RelDs c.K H ds vs ∧ t ds A Xd Qd ∧ Fol c H Q Qd ∧ FolW c H E Xd
end
section
variable {c : RC} {X : Cx} {W : WX}
theorem Fol.from {H H1 : Hp} {Q : VK} {Qd : Dk} (f : Fol c H Q Qd) (m : Mono H H1) : Fol c H1 Q Qd := fun d A v H' q m' ra r => f d A v H' q (m.trans m') ra r
theorem FolB.from {H H1 : Hp} {Q : Bool → Hp → Prop} {Qd : Bool → AH → Prop} (f : FolB c H Q Qd) (m : Mono H H1) : FolB c H1 Q Qd := fun d A H' q m' ra => f d A H' q (m.trans m') ra
theorem FolA.from {H H1 : Hp} {Q : List V → Hp → Prop} {Qd : List D → AH → Prop} (f : FolA c H Q Qd) (m : Mono H H1) : FolA c H1 Q Qd := fun d A v H' q m' ra r => f d A v H' q (m.trans m') ra r
theorem FolW.from {H H1 : Hp} {W : Value → Option Addr → Hp → Prop} {Xd : Dx} (f : FolW c H W Xd) (m : Mono H H1) : FolW c H1 W Xd := fun n A C H' q cl m' ra => f n A C H' q cl (m.trans m') ra
/-- go on with another reading -/
theorem lE_go {t : DE} {σ : L2.St} {H H1 : Hp} {σd : DSt} {A : AH} {Xd : Dx} {Q : VK} {Qd : Dk} (rs : RelS c.K H σd σ) (m : Mono H H1) (ra : RelA c A H1) (fw : FolW c H (fun cl d H' => W cl d σ H') Xd) (h : t σd A Xd Qd) (f : Fol c H1 Q Qd) : lE c t W σ H1 Q :=
  ⟨σd, A, Xd, Qd, rs.mono m, ra, h, f, fw.from m⟩
theorem lT_go {t : DE' Bool} {σ : L2.St} {H H1 : Hp} {σd : DSt} {A : AH} {Xd : Dx} {Q : Bool → Hp → Prop} {Qd : Bool → AH → Prop} (rs : RelS c.K H σd σ) (m : Mono H H1) (ra : RelA c A H1) (fw : FolW c H (fun cl d H' => W cl d σ H') Xd) (h : t σd A Xd Qd) (f : FolB c H1 Q Qd) : lT c t W σ H1 Q :=
  ⟨σd, A, Xd, Qd, rs.mono m, ra, h, f, fw.from m⟩
theorem lA_go {t : DE' (List D)} {σ : L2.St} {H H1 : Hp} {σd : DSt} {A : AH} {Xd : Dx} {Q : List V → Hp → Prop} {Qd : List D → AH → Prop} (rs : RelS c.K H σd σ) (m : Mono H H1) (ra : RelA c A H1) (fw : FolW c H (fun cl d H' => W cl d σ H') Xd) (h : t σd A Xd Qd) (f : FolA c H1 Q Qd) : lA c t W σ H1 Q :=
  ⟨σd, A, Xd, Qd, rs.mono m, ra, h, f, fw.from m⟩

/-- two expressions and an operation on their values -/
theorem two_lift {ta tb : DE} {r : D → D → AH → Dk → Prop} {σ : L2.St} {H : Hp} {Q : VK} (h : lE c (fun σ A X Q => ta σ A X fun x A1 => tb σ A1 X fun y A2 => r x y A2 Q) W σ H Q) : tOp (lR2 c r) (lE c ta W) (lE c tb W) σ H Q := by
  obtain ⟨σd, A, Xd, Qd, rs, ra, t, f, fw⟩ := h
  refine lE_go rs .refl ra fw t fun x A1 v H1 q1 m1 ra1 rx => ?_
  refine lE_go rs m1 ra1 fw q1 fun y A2 w H2 q2 m2 ra2 ry => ?_
  exact ⟨A2, x, y, Qd, ra2, RelD.mono m2 _ _ rx, ry, q2, f.from (m1.trans m2)⟩
theorem s_var {i : Nat} {x : Str} {pos : Pos} (hN : X.N[i]? = some x) (hv : Vis X.env.scope x) (hd : (x == ("__debug__" : Str)) = false) (hcd : (x == ("__classdict__" : Str)) = false) (G : GEnv) : PE X (.Name x pos) (lE c (ev G (.var i x)) W) := by
  refine PE.imp (pe_var hN hv hd hcd) fun σ H Q h => ?_
  obtain ⟨σd, A, Xd, Qd, rs, ra, t, f, fw⟩ := h
  simp only [ev, ev2, wT] at t
  split at t
  · rename_i d e
    obtain ⟨v, ev, rv⟩ := rs.2 i d e
    exact ⟨v, ev, f.here t ra rv⟩
  · exact t.elim
theorem s_gv {x : Str} {pos : Pos} {G : GEnv} (hg : Gl X x) (hd : (x == ("__debug__" : Str)) = false) (hc : ∀ d, G.con x = some d → ∃ u v, X.mg x = some u ∧ RelV v u ∧ ∀ H, RelD c.K H d v) : PE X (.Name x pos) (lE c (ev G (.gv x)) W) := by
  cases e : G.con x with
  | none =>
    refine ⟨fun _ _ σ H Q _ h => ?_⟩
    obtain ⟨σd, A, Xd, Qd, rs, ra, t, f, fw⟩ := h
    simp only [ev, ev2, wT, e] at t
  | some d =>
    obtain ⟨u, v, hm, rv, rd⟩ := hc d e
    refine PE.imp (pe_glob hg hm rv hd) fun σ H Q h => ?_
    obtain ⟨σd, A, Xd, Qd, rs, ra, t, f, fw⟩ := h
    simp only [ev, ev2, wT, e] at t
    exact f.here t ra (rd H)
def cstIs : Const → D → Bool
  | .none, .non => true
  | .bool a, .bl b => a == b
  | .int i, .int j => i == j
  | .str x, .str y => x == y
  | _, _ => false
theorem s_cst {k : Const} {d : D} {j : Nat} {pos : Pos} {G : GEnv} (h : cstIs k d = true) : PE X (.Constant k j pos) (lE c (ev G (.cst d)) W) := by
  have fin : ∀ {v : V} {σ : L2.St} {H : Hp} {Q : VK}, lE c (ev G (.cst d)) W σ H Q → (∀ H, RelD c.K H d v) → Q v H := fun {v σ H Q} h rd => by
    obtain ⟨σd, A, Xd, Qd, rs, ra, t, f, fw⟩ := h
    have t' : Qd d A := t
    exact f.here t' ra (rd H)
  cases k <;> cases d <;> first | (cases h; done) | skip
  · exact PE.imp pe_non fun σ H Q q => fin q fun _ => rfl
  · exact PE.imp pe_bl fun σ H Q q => fin q fun _ => by simp only [cstIs, beq_iff_eq] at h; subst h; rfl
  · exact PE.imp pe_int fun σ H Q q => fin q fun _ => by simp only [cstIs, beq_iff_eq] at h; subst h; rfl
  · exact PE.imp pe_str fun σ H Q q => fin q fun _ => by simp only [cstIs, beq_iff_eq] at h; subst h; rfl
variable {G : GEnv} {a b e : Expr} {ea eb : E} {pos : Pos}
theorem s_bin (hK : X.K = c.K) {o : BOp} (ha : PE X a (lE c (ev G ea) W)) (hb : PE X b (lE c (ev G eb) W)) : PE X (.BinOp a (bopOp o) b pos) (lE c (ev G (.bin o ea eb)) W) :=
  PE.imp (pe_op (d_bin hK o) ha hb) fun σ H Q h => two_lift (ta := ev G ea) (tb := ev G eb) (r := rBin o) h
theorem s_neg (ha : PE X a (lE c (ev G ea) W)) : PE X (.UnaryOp .USub a pos) (lE c (ev G (.neg ea)) W) := by
  refine PE.imp (pe_un un_neg ha) fun σ H Q h => ?_
  obtain ⟨σd, A, Xd, Qd, rs, ra, t, f, fw⟩ := h
  refine lE_go rs .refl ra fw t fun x A1 v H1 q1 m1 ra1 rx => ?_
  cases x <;> try exact q1.elim
  exact ⟨_, rx, (f.from m1).here q1 ra1 rfl⟩
theorem s_cmp (hK : X.K = c.K) (hu : X.A.units + 64 < cLine) {o : COp} (ha : PE X a (lE c (ev G ea) W)) (hb : PE X b (lE c (ev G eb) W)) (hm : behindInMarks (copOp o) b = false) : PE X (.Compare a [copOp o] [b] pos) (lE c (ev G (.cmp o ea eb)) W) :=
  PE.imp (pe_cmpR (d_cmp hK hu o) ha hb hm) fun σ H Q h => two_lift (ta := ev G ea) (tb := ev G eb) (r := rCmp o) h
/-- what comes out of a comparison, as a test -/
theorem two_liftT {ta tb : DE} {r : D → D → AH → Dk → Prop} {σ : L2.St} {H : Hp} {Q : Bool → Hp → Prop} (h : lT c (fun σ A X Q => ta σ A X fun x A1 => tb σ A1 X fun y A2 => r x y A2 fun z A3 => match z with | .bl k => Q k A3 | _ => False) W σ H Q) : tTest (tOp (lR2 c r) (lE c ta W) (lE c tb W)) σ H Q := by
  obtain ⟨σd, A, Xd, Qd, rs, ra, t, f, fw⟩ := h
  refine lE_go rs .refl ra fw t fun x A1 v H1 q1 m1 ra1 rx => ?_
  refine lE_go rs m1 ra1 fw q1 fun y A2 w H2 q2 m2 ra2 ry => ?_
  refine ⟨A2, x, y, _, ra2, RelD.mono m2 _ _ rx, ry, q2, fun z A3 u H3 q3 m3 ra3 rz => ?_⟩
  cases z <;> try exact q3.elim
  exact ⟨_, rz, f _ _ _ q3 ((m1.trans m2).trans m3) ra3⟩
theorem t_cmp (hK : X.K = c.K) (hu : X.A.units + 64 < cLine) {o : COp} (ha : PE X a (lE c (ev G ea) W)) (hb : PE X b (lE c (ev G eb) W)) (hm : behindInMarks (copOp o) b = false) : PT X (.Compare a [copOp o] [b] pos) (lT c (evT G (.cmp o ea eb)) W) :=
  PT.imp (pt_cmpR (d_cmp hK hu o) ha hb hm) fun σ H Q h => two_liftT (ta := ev G ea) (tb := ev G eb) (r := rCmp o) h
theorem s_chain (hK : X.K = c.K) (hu : X.A.units + 64 < cLine) {o o' : COp} {d : Expr} {ed : E} (ha : PE X a (lE c (ev G ea) W)) (hb : PE X b (lE c (ev G eb) W)) (hd : PE X d (lE c (ev G ed) W)) (hm : lastMarks [copOp o, copOp o'] [b, d] = false) :
    PE X (.Compare a [copOp o, copOp o'] [b, d] pos) (lE c (ev G (.chain o o' ea eb ed)) W) := by
  refine PE.imp (pe_chain (d_cmp hK hu o) (d_cmp hK hu o') ha hb hd hm) fun σ H Q h => ?_
  obtain ⟨σd, A, Xd, Qd, rs, ra, t, f, fw⟩ := h
  refine lE_go rs .refl ra fw t fun x A1 v H1 q1 m1 ra1 rx => ?_
  refine lE_go rs m1 ra1 fw q1 fun y A2 w H2 q2 m2 ra2 ry => ?_
  refine ⟨A2, x, y, _, ra2, RelD.mono m2 _ _ rx, ry, q2, fun z A3 u H3 q3 m3 ra3 rz => ?_⟩
  cases z <;> try exact q3.elim
  rename_i k
  refine ⟨k, rz, ?_⟩
  have m13 := (m1.trans m2).trans m3
  cases k with
  | true =>
    refine lE_go rs m13 ra3 fw q3 fun w' A4 v4 H4 q4 m4 ra4 r4 => ?_
    exact ⟨A4, y, w', Qd, ra4, RelD.mono (m3.trans m4) _ _ ry, r4, q4, f.from (m13.trans m4)⟩
  | false => exact (f.from m13).here q3 ra3 rfl
theorem t_chain (hK : X.K = c.K) (hu : X.A.units + 64 < cLine) {o o' : COp} {d : Expr} {ed : E} (ha : PE X a (lE c (ev G ea) W)) (hb : PE X b (lE c (ev G eb) W)) (hd : PE X d (lE c (ev G ed) W)) (hm : lastMarks [copOp o, copOp o'] [b, d] = false) :
    PT X (.Compare a [copOp o, copOp o'] [b, d] pos) (lT c (evT G (.chain o o' ea eb ed)) W) := by
  refine PT.imp (pt_chain (d_cmp hK hu o) (d_cmp hK hu o') ha hb hd hm) fun σ H Q h => ?_
  obtain ⟨σd, A, Xd, Qd, rs, ra, t, f, fw⟩ := h
  refine lE_go rs .refl ra fw t fun x A1 v H1 q1 m1 ra1 rx => ?_
  refine lE_go rs m1 ra1 fw q1 fun y A2 w H2 q2 m2 ra2 ry => ?_
  refine ⟨A2, x, y, _, ra2, RelD.mono m2 _ _ rx, ry, q2, fun z A3 u H3 q3 m3 ra3 rz => ?_⟩
  cases z <;> try exact q3.elim
  rename_i k
  refine ⟨k, rz, ?_⟩
  have m13 := (m1.trans m2).trans m3
  cases k with
  | true =>
    refine lE_go rs m13 ra3 fw q3 fun w' A4 v4 H4 q4 m4 ra4 r4 => ?_
    refine ⟨A4, y, w', _, ra4, RelD.mono (m3.trans m4) _ _ ry, r4, q4, fun z A5 u H5 q5 m5 ra5 r5 => ?_⟩
    cases z <;> try exact q5.elim
    exact ⟨_, r5, f _ _ _ q5 ((m13.trans m4).trans m5) ra5⟩
  | false => exact ⟨false, rfl, f _ _ _ q3 m13 ra3⟩
theorem tru_of {A : AH} {H : Hp} {d : D} {x : V} {b : Bool} (hK : X.K = c.K) (ra : RelA c A H) (r : RelD c.K H d x) (e : truD A d = some b) : TruV X.K x H b := by
  cases d <;> simp only [truD] at e
  · cases r; cases e; rfl
  · cases r; cases e; rfl
  · cases r; cases e; rfl
  · cases r
    split at e
    · rename_i h
      cases e
      exact ⟨h, rfl⟩
    · cases e
  · obtain ⟨a, vs, rfl, h, q⟩ := r
    cases e
    refine .inr (.inl ⟨vs, by rw [hK]; exact h.sqt, ?_⟩)
    have ne : ∀ {α β : Type} {l : List α} {m : List β}, l.length = m.length → (!m.isEmpty) = !l.isEmpty := fun {α β l m} h => by cases l <;> cases m <;> simp_all
    exact ne q.length
  · cases r
    have ne : ∀ {α β : Type} {l : List α} {m : List β}, l.length = m.length → (!m.isEmpty) = !l.isEmpty := fun {α β l m} h => by cases l <;> cases m <;> simp_all
    split at e
    · rename_i g
      cases e
      obtain ⟨vs, h, q⟩ := ra _ _ g
      exact .inl ⟨vs, SqL.of h, ne q.length⟩
    · rename_i g
      cases e
      obtain ⟨vs, h, q⟩ := ra _ _ g
      exact .inr (.inr ⟨vs, h, ne (RelKv.length q)⟩)
    · cases e
  · obtain ⟨a, vs, rfl, h, q⟩ := r
    cases e
    have ne : ∀ {α β : Type} {l : List α} {m : List β}, l.length = m.length → (!m.isEmpty) = !l.isEmpty := fun {α β l m} h => by cases l <;> cases m <;> simp_all
    exact .inl ⟨vs, by rw [hK]; exact h.sql, ne q.length⟩
  · cases e
theorem s_not (hK : X.K = c.K) (ha : PE X a (lE c (ev G ea) W)) : PE X (.UnaryOp .Not a pos) (lE c (ev G (.not ea)) W) := by
  refine ⟨fun pins s σ H Q I h => ?_⟩
  obtain ⟨σd, A, Xd, Qd, rs, ra, t, f, fw⟩ := h
  refine UnaryOp_ (thn (ha.run pins s σ H (fun x H1 => ∃ k, TruV X.K x H1 k ∧ Q (.bl (!k)) H1) I (lE_go rs .refl ra fw t fun x A1 v H1 q1 m1 ra1 rx => ?_)) fun v s1 ⟨x, H1, I1, r1, k, q1, q2⟩ => ?_)
  · split at q1
    · rename_i b e
      exact ⟨b, tru_of hK ra1 rx e, (f.from m1).here q1 ra1 rfl⟩
    · exact q1.elim
  · exact not_of (thn (tru_ok pins s1 σ H1 x v (fun k' H' => Q (.bl (!k')) H') I1 r1 ⟨k, q1, q2⟩) fun k' s2 ⟨H2, I2, q3⟩ => ⟨.bl (!k'), H2, I2, rfl, q3⟩)
theorem t_val (hK : X.K = c.K) (ha : PE X a (lE c (ev G ea) W)) (he : ∀ whole, isTrue a X.env whole = (do let v ← whole; standAt a.pos; holding [v] (truthy v))) : PT X a (lT c (valT (ev G ea)) W) := by
  refine PT.imp (pt_truth ha he) fun σ H Q h => ?_
  obtain ⟨σd, A, Xd, Qd, rs, ra, t, f, fw⟩ := h
  refine lE_go rs .refl ra fw t fun x A1 v H1 q1 m1 ra1 rx => ?_
  split at q1
  · rename_i b e
    exact ⟨b, tru_of hK ra1 rx e, f _ _ _ q1 m1 ra1⟩
  · exact q1.elim
theorem t_ite {d : Expr} {ed : E} (hd : PT X d (lT c (evT G ed) W)) (ha : PT X a (lT c (evT G ea) W)) (hb : PT X b (lT c (evT G eb) W)) : PT X (.IfExp d a b pos) (lT c (evT G (.ite ed ea eb)) W) := by
  refine ⟨fun pins s σ H Q I h => ?_⟩
  obtain ⟨σd, A, Xd, Qd, rs, ra, t, f, fw⟩ := h
  rw [arm_isTrue_IfExp]
  refine wpAny_bind (thn (hd.run pins s σ H (fun k H1 => if k = true then lT c (evT G ea) W σ H1 Q else lT c (evT G eb) W σ H1 Q) I (lT_go rs .refl ra fw t fun k A1 H1 q1 m1 ra1 => ?_)) fun k s1 ⟨H1, I1, q1⟩ => ?_)
  · cases k with
    | true => exact lT_go rs m1 ra1 fw q1 (f.from m1)
    | false => exact lT_go rs m1 ra1 fw q1 (f.from m1)
  · cases k with
    | true => exact ha.run pins s1 σ H1 Q I1 q1
    | false => exact hb.run pins s1 σ H1 Q I1 q1
theorem t_not (ha : PT X a (lT c (evT G ea) W)) : PT X (.UnaryOp .Not a pos) (lT c (evT G (.not ea)) W) := by
  refine PT.imp (pt_not ha) fun σ H Q h => ?_
  obtain ⟨σd, A, Xd, Qd, rs, ra, t, f, fw⟩ := h
  exact lT_go rs .refl ra fw t fun b A1 H1 q1 m1 ra1 => f _ _ _ q1 m1 ra1
theorem s_ite {d : Expr} {ed : E} (hd : PT X d (lT c (evT G ed) W)) (ha : PE X a (lE c (ev G ea) W)) (hb : PE X b (lE c (ev G eb) W)) : PE X (.IfExp d a b pos) (lE c (ev G (.ite ed ea eb)) W) := by
  refine PE.imp (pe_ifExp hd ha hb) fun σ H Q h => ?_
  obtain ⟨σd, A, Xd, Qd, rs, ra, t, f, fw⟩ := h
  refine lT_go rs .refl ra fw t fun k A1 H1 q1 m1 ra1 => ?_
  cases k with
  | true => exact lE_go rs m1 ra1 fw q1 (f.from m1)
  | false => exact lE_go rs m1 ra1 fw q1 (f.from m1)
end
end Py

namespace Py
open PySem PySem.Spec PyProof.Rows L2
section
variable {c : RC} {X : Cx} {W : WX} {G : GEnv} {a b e : Expr} {ea eb : E} {es : List Expr} {ees : Es} {pos : Pos}
/-! ### and, or -/
theorem s_bop1 {op : BoolOp} {k : Bool} (ha : PE X a (lE c (ev G ea) W)) : PE X (.BoolOp op [a] pos) (lE c (evB2 G k (.cons ea .nil)).1 W) := pe_one ha
theorem s_and {r : Expr} {rs : List Expr} {eb : E} {ers : Es} (ha : PE X a (lE c (ev G ea) W)) (hb : PE X (.BoolOp .And (r :: rs) pos) (lE c (evB2 G true (.cons eb ers)).1 W)) : PE X (.BoolOp .And (a :: r :: rs) pos) (lE c (evB2 G true (.cons ea (.cons eb ers))).1 W) := by
  refine PE.imp (pe_and ha hb) fun σ H Q h => ?_
  obtain ⟨σd, A, Xd, Qd, rs, ra, t, f, fw⟩ := h
  refine lE_go rs .refl ra fw t fun x A1 v H1 q1 m1 ra1 rx => ?_
  cases x <;> try exact q1.elim
  rename_i k
  refine ⟨k, rx, ?_⟩
  cases k with
  | true => exact lE_go rs m1 ra1 fw q1 (f.from m1)
  | false => exact (f.from m1).here q1 ra1 rfl
theorem s_or {r : Expr} {rs : List Expr} {eb : E} {ers : Es} (ha : PE X a (lE c (ev G ea) W)) (hb : PE X (.BoolOp .Or (r :: rs) pos) (lE c (evB2 G false (.cons eb ers)).1 W)) : PE X (.BoolOp .Or (a :: r :: rs) pos) (lE c (evB2 G false (.cons ea (.cons eb ers))).1 W) := by
  refine PE.imp (pe_or ha hb) fun σ H Q h => ?_
  obtain ⟨σd, A, Xd, Qd, rs, ra, t, f, fw⟩ := h
  refine lE_go rs .refl ra fw t fun x A1 v H1 q1 m1 ra1 rx => ?_
  cases x <;> try exact q1.elim
  rename_i k
  refine ⟨k, rx, ?_⟩
  cases k with
  | false => exact lE_go rs m1 ra1 fw q1 (f.from m1)
  | true => exact (f.from m1).here q1 ra1 rfl
theorem t_and1 {k : Bool} (ha : PT X a (lT c (evT G ea) W)) : PW X (.BoolOp .And [a] pos) (lT c (evB2 G k (.cons ea .nil)).2 W) := pw_and1 ha
theorem t_or1 {k : Bool} (ha : PT X a (lT c (evT G ea) W)) : PW X (.BoolOp .Or [a] pos) (lT c (evB2 G k (.cons ea .nil)).2 W) := pw_or1 ha
theorem PW.imp {e : Expr} {t t' : TT} (h : PW X e t) (i : ∀ σ H Q, t' σ H Q → t σ H Q) : PW X e t' := ⟨fun wh pins s σ H Q I q => h.run wh pins s σ H Q I (i _ _ _ q)⟩
theorem t_and {r : Expr} {rs : List Expr} {eb : E} {ers : Es} (ha : PT X a (lT c (evT G ea) W)) (hb : PW X (.BoolOp .And (r :: rs) pos) (lT c (evB2 G true (.cons eb ers)).2 W)) : PW X (.BoolOp .And (a :: r :: rs) pos) (lT c (evB2 G true (.cons ea (.cons eb ers))).2 W) := by
  refine PW.imp (pw_and ha hb) fun σ H Q h => ?_
  obtain ⟨σd, A, Xd, Qd, rs, ra, t, f, fw⟩ := h
  refine lT_go rs .refl ra fw t fun k A1 H1 q1 m1 ra1 => ?_
  cases k with
  | true => exact lT_go rs m1 ra1 fw q1 (f.from m1)
  | false => exact f _ _ _ q1 m1 ra1
theorem t_or {r : Expr} {rs : List Expr} {eb : E} {ers : Es} (ha : PT X a (lT c (evT G ea) W)) (hb : PW X (.BoolOp .Or (r :: rs) pos) (lT c (evB2 G false (.cons eb ers)).2 W)) : PW X (.BoolOp .Or (a :: r :: rs) pos) (lT c (evB2 G false (.cons ea (.cons eb ers))).2 W) := by
  refine PW.imp (pw_or ha hb) fun σ H Q h => ?_
  obtain ⟨σd, A, Xd, Qd, rs, ra, t, f, fw⟩ := h
  refine lT_go rs .refl ra fw t fun k A1 H1 q1 m1 ra1 => ?_
  cases k with
  | false => exact lT_go rs m1 ra1 fw q1 (f.from m1)
  | true => exact f _ _ _ q1 m1 ra1

/-! ### lists of expressions, displays -/
def noStar : Expr → Bool
  | .Starred .. => false
  | _ => true
theorem starEach_cons {env : Env} (h : noStar e = true) : starEach (e :: es) env = (false, eval e env) :: starEach es env := by
  cases e <;> first | rfl | cases h
theorem starEach_plain {env : Env} {pos : Pos} : ∀ {es : List Expr}, es.all noStar = true → (backTo pos (starEach es env)).any (·.1) = false
  | [], _ => rfl
  | e :: es, h => by
    rw [List.all_cons, Bool.and_eq_true] at h
    rw [starEach_cons h.1]
    show (false || (backTo pos (starEach es env)).any (·.1)) = false
    rw [starEach_plain h.2]
    rfl
theorem a_nil : PA X [] (lA c (evs G .nil) W) := by
  refine PA.imp pa_nil fun σ H Q h => ?_
  obtain ⟨σd, A, Xd, Qd, rs, ra, t, f, fw⟩ := h
  exact f [] A [] H t .refl ra rfl
theorem a_cons (he : PE X e (lE c (ev G ea) W)) (hs : PA X es (lA c (evs G ees) W)) (hn : noStar e = true) : PA X (e :: es) (lA c (evs G (.cons ea ees)) W) := by
  refine PA.imp (pa_cons he hs (starEach_cons hn)) fun σ H Q h => ?_
  obtain ⟨σd, A, Xd, Qd, rs, ra, t, f, fw⟩ := h
  refine lE_go rs .refl ra fw t fun x A1 v H1 q1 m1 ra1 rx => ?_
  refine lA_go rs m1 ra1 fw q1 fun ds A2 vs H2 q2 m2 ra2 r2 => ?_
  exact f _ _ _ _ q2 (m1.trans m2) ra2 ⟨v, vs, rfl, RelD.mono m2 _ _ rx, r2⟩
def tTupN (t : TA) : TE := fun σ H Q => t σ H fun xs H1 => xs.length ≤ sizeLine ∧ newT xs H1 Q
theorem pe_tupN {t : TA} {x1} (h : PA X es t) : PE X (.Tuple es x1 pos) (tTupN t) := by
  refine ⟨fun pins s σ H Q I hq => ?_⟩
  refine wpAny_Tuple_spliced (thn (h.run pos pins s σ H _ I hq) fun us s1 ⟨xs, H1, I1, r, z, q⟩ => ⟨by rw [← r.length]; exact z, ?_⟩)
  exact laidT (h := s1.heap) (t := s1.toks) I1 r z q
theorem s_tup {k : Nat} (h : PA X es (lA c (evs G ees) W)) : PE X (.Tuple es k pos) (lE c (ev G (.tup ees)) W) := by
  refine PE.imp (pe_tupN h) fun σ H Q h => ?_
  obtain ⟨σd, A, Xd, Qd, rs, ra, t, f, fw⟩ := h
  refine lA_go rs .refl ra fw t fun ds A1 vs H1 q1 m1 ra1 r1 => ?_
  exact ⟨by rw [r1.length]; exact q1.1, (f.from m1).tup q1.2 ra1 r1⟩
theorem s_lst (h : PA X es (lA c (evs G ees) W)) : PE X (.List es pos) (lE c (ev G (.lst ees)) W) := by
  refine PE.imp (PE.fz (pe_lst h)) fun σ H Q h => ?_
  obtain ⟨σd, A, Xd, Qd, rs, ra, t, f, fw⟩ := h
  refine lA_go rs .refl ra fw t fun ds A1 vs H1 q1 m1 ra1 r1 => ?_
  exact ⟨by rw [r1.length]; exact q1.1, (f.from m1).lst q1.2 ra1 r1⟩

/-! ### subscripts -/
def notSlice : Expr → Bool
  | .Slice .. => false
  | _ => true
theorem plainIx (h : notSlice b = true) : PlainIx b := fun o i => by
  cases b <;> first | rfl | cases h
theorem s_idx (hK : X.K = c.K) (hu : X.A.units + 1 < cLine) (ha : PE X a (lE c (ev G ea) W)) (hb : PE X b (lE c (ev G eb) W)) (hn : notSlice b = true) : PE X (.Subscript a b pos) (lE c (ev G (.idx ea eb)) W) :=
  PE.imp (pe_ix (d_idx hK hu) ha hb (plainIx hn)) fun σ H Q h => two_lift (ta := ev G ea) (tb := ev G eb) (r := rIdx) h
abbrev TO := L2.St → Hp → (Option Int → Hp → Prop) → Prop
def FolO (c : RC) (H : Hp) (Q : Option Int → Hp → Prop) (Qd : Option Int → AH → Prop) : Prop := ∀ b A' H', Qd b A' → Mono H H' → RelA c A' H' → Q b H'
def lO (c : RC) (t : DE' (Option Int)) (W : WX) : TO := fun σ H Q => ∃ σd A Xd Qd, RelS c.K H σd σ ∧ RelA c A H ∧ t σd A Xd Qd ∧ FolO c H Q Qd ∧ FolW c H (fun cl d H' => W cl d σ H') Xd
theorem PO.imp {e : Option Expr} {t t' : TO} (h : PO X e t) (i : ∀ σ H Q, t' σ H Q → t σ H Q) : PO X e t' := ⟨fun pins s σ H Q I q => h.run pins s σ H Q I (i _ _ _ q)⟩
theorem o_no : PO X none (lO c (evo G .no) W) := by
  refine PO.imp po_none fun σ H Q h => ?_
  obtain ⟨σd, A, Xd, Qd, rs, ra, t, f, fw⟩ := h
  exact f none A H t .refl ra
theorem o_yes (he : PE X e (lE c (ev G ea) W)) : PO X (some e) (lO c (evo G (.yes ea)) W) := by
  refine PO.imp (po_some he) fun σ H Q h => ?_
  obtain ⟨σd, A, Xd, Qd, rs, ra, t, f, fw⟩ := h
  refine lE_go rs .refl ra fw t fun x A1 v H1 q1 m1 ra1 rx => ?_
  cases x <;> try exact q1.elim
  exact ⟨_, rx, f _ _ _ q1 m1 ra1⟩
theorem s_slc (hK : X.K = c.K) {lo hi : Option Expr} {el eh : Oe} {p2 : Pos} (ha : PE X a (lE c (ev G ea) W)) (hl : PO X lo (lO c (evo G el) W)) (hh : PO X hi (lO c (evo G eh) W)) : PE X (.Subscript a (.Slice lo hi none p2) pos) (lE c (ev G (.slc ea el eh)) W) := by
  refine PE.imp (pe_slice (d_slc hK) ha hl hh) fun σ H Q h => ?_
  obtain ⟨σd, A, Xd, Qd, rs, ra, t, f, fw⟩ := h
  refine lE_go rs .refl ra fw t fun x A1 v H1 q1 m1 ra1 rx => ?_
  refine ⟨σd, A1, Xd, _, rs.mono m1, ra1, q1, fun l A2 H2 q2 m2 ra2 => ?_, fw.from m1⟩
  refine ⟨σd, A2, Xd, _, rs.mono (m1.trans m2), ra2, q2, fun h A3 H3 q3 m3 ra3 => ?_, fw.from (m1.trans m2)⟩
  exact ⟨A3, x, Qd, ra3, RelD.mono (m2.trans m3) _ _ rx, q3, f.from ((m1.trans m2).trans m3)⟩

/-! ### calls -/
theorem glob_name {env : Env} {x : Str} (h : env.scope.names.lookup x = some .globalImplicit) : env.kindOf x = some .globalImplicit := h
theorem a_len {n : Nat} : ∀ {ees : Es} {ds : List D} {k : Nat}, True := fun {_ _ _} => trivial
theorem s_bifB (bf : BF) {id : String} {x : Str} {p : Pos} (hc : CallR X (.builtin id) (lRs c (rB bf))) (hg : Gl X x) (hm : X.mg x = none) (hv : bootBuiltins x = some (.builtin id)) (hn : x ≠ "__name__") (hdb : (x == ("__debug__" : Str)) = false)
    (ha : PA X (e :: es) (lA c (evs G ees) W)) (h1 : noStar e = true) (h2 : es.all noStar = true) : PE X (.Call (.Name x p) (e :: es) [] pos) (lE c (ev G (.bif bf ees)) W) := by
  refine PE.imp (pe_callB hc hg hm hv ha hn hdb (starEach_cons h1) (starEach_plain h2)) fun σ H Q h => ?_
  obtain ⟨σd, A, Xd, Qd, rs, ra, t, f, fw⟩ := h
  refine lA_go rs .refl ra fw t fun ds A1 vs H1 q1 m1 ra1 r1 => ?_
  exact ⟨A1, ds, Qd, ra1, r1, q1, f.from m1⟩
theorem s_bifT (bf : BF) {T : String} {x : Str} {p : Pos} (hc : CallR X (.type T) (lRs c (rB bf))) (hg : Gl X x) (hm : X.mg x = none) (hv : bootBuiltins x = some (.type T)) (hn : x ≠ "__name__") (hdb : (x == ("__debug__" : Str)) = false)
    (ha : PA X (e :: es) (lA c (evs G ees) W)) (h1 : noStar e = true) (h2 : es.all noStar = true) : PE X (.Call (.Name x p) (e :: es) [] pos) (lE c (ev G (.bif bf ees)) W) := by
  refine PE.imp (pe_callTy hc hg hm hv ha hn hdb (starEach_cons h1) (starEach_plain h2)) fun σ H Q h => ?_
  obtain ⟨σd, A, Xd, Qd, rs, ra, t, f, fw⟩ := h
  refine lA_go rs .refl ra fw t fun ds A1 vs H1 q1 m1 ra1 r1 => ?_
  exact ⟨A1, ds, Qd, ra1, r1, q1, f.from m1⟩
/-- a def of the text stands and keeps the plain promise -/
structure DefOk (c : RC) (P : Program) (w : World) (K : PySem.W.Frag) (mg : Str → Option Value) (base : Heap) (k : Nat) (cal : Cal) (f : Str) : Prop where
  ex : ∃ (fa : Addr) (fd : FuncData) (ps : List Str), mg f = some (.ref fa) ∧ PySem.W.keepIn K (.ref fa) = true ∧ Binds K fd ps [] ∧ FnG P w K mg base (L2.CX P w) k fa fd ps (lSp c (cal f))
theorem s_call (tk : Takes X W) {k : Nat} {x : Str} {p : Pos} (D : DefOk c X.prog X.w X.K X.mg X.base k G.cal x) (hr : Room k X.A) (hgd : X.A.guards = some []) (hg : Gl X x) (hdb : (x == ("__debug__" : Str)) = false)
    (ha : PA X (e :: es) (lA c (evs G ees) W)) (h1 : noStar e = true) (h2 : es.all noStar = true) : PE X (.Call (.Name x p) (e :: es) [] pos) (lE c (ev G (.call x ees)) W) := by
  obtain ⟨fa, fd, ps, hm, hk, hb, F⟩ := D.ex
  refine PE.imp (pe_G F hr hgd hg hm hk hb (fun σ => passAt tk σ) ha hdb (starEach_cons h1) (starEach_plain h2)) fun σ H Q h => ?_
  obtain ⟨σd, A, Xd, Qd, rs, ra, t, f, fw⟩ := h
  refine lA_go rs .refl ra fw t fun ds A1 vs H1 q1 m1 ra1 r1 => ?_
  exact ⟨A1, ds, Xd, Qd, ra1, r1, q1, f.from m1, fw.from m1⟩
theorem s_call0 (tk : Takes X W) {k : Nat} {x : Str} {p : Pos} (D : DefOk c X.prog X.w X.K X.mg X.base k G.cal x) (hr : Room k X.A) (hgd : X.A.guards = some []) (hg : Gl X x) (hdb : (x == ("__debug__" : Str)) = false) :
    PE X (.Call (.Name x p) [] [] pos) (lE c (ev G (.call x .nil)) W) := by
  obtain ⟨fa, fd, ps, hm, hk, hb, F⟩ := D.ex
  refine PE.imp (pe_G0 F hr hgd hg hm hk hb (fun σ => passAt tk σ) hdb) fun σ H Q h => ?_
  obtain ⟨σd, A, Xd, Qd, rs, ra, t, f, fw⟩ := h
  exact ⟨A, [], Xd, Qd, ra, rfl, t, f, fw⟩

/-! ### isinstance of a built-in type -/
def clT : Cl → Option String | .int => some "int" | .bool => some "bool" | .str => some "str" | .tuple => some "tuple" | .list => some "list" | .dict => some "dict" | .own _ => none
theorem kit_all {K : PySem.W.Frag} : ∀ (a : String) (cl : Cl) (T : String), a ∈ ["NoneType", "bool", "int", "str", "tuple", "list", "dict"] → clT cl = some T →
    PySem.W.kitOne K (.type a) (.type T) = some ((a == T) || (a == "bool" && T == "int")) := by
  intro a cl T ha hT
  simp only [List.mem_cons, List.not_mem_nil, or_false] at ha
  rcases ha with rfl | rfl | rfl | rfl | rfl | rfl | rfl <;> cases cl <;> first | (cases hT; done) | (cases hT; exact kit_ty (by decide +kernel))
theorem tyx_of {A : AH} {H : Hp} {d : D} {x : V} {cl : Cl} {T : String} {b : Bool} {sub : Str → Str → Bool} (hK : X.K = c.K) (ra : RelA c A H) (r : RelD c.K H d x) (hT : clT cl = some T) (e : isiD sub A d cl = some b) :
    ∃ t, TyX X.K H x t ∧ PySem.W.kitOne X.K t (.type T) = some b := by
  have fin : ∀ a, a ∈ ["NoneType", "bool", "int", "str", "tuple", "list", "dict"] → TyX X.K H x (.type a) → ((a == T) || (a == "bool" && T == "int")) = b → ∃ t, TyX X.K H x t ∧ PySem.W.kitOne X.K t (.type T) = some b := fun a ha ht hb => ⟨_, ht, by rw [kit_all a cl T ha hT, hb]⟩
  cases d <;> simp only [isiD] at e
  · cases r; cases e; exact fin "NoneType" (by decide) (.base .non) (by cases cl <;> cases hT <;> decide +kernel)
  · cases r; cases e; exact fin "bool" (by decide) (.base (.bl _)) (by cases cl <;> cases hT <;> decide +kernel)
  · cases r; cases e; exact fin "int" (by decide) (.base (.int _)) (by cases cl <;> cases hT <;> decide +kernel)
  · cases r; cases e; exact fin "str" (by decide) (.base (.str _)) (by cases cl <;> cases hT <;> decide +kernel)
  · obtain ⟨a, vs, rfl, h, q⟩ := r
    cases e
    refine fin "tuple" (by decide) ?_ (by cases cl <;> cases hT <;> decide +kernel)
    rcases h with ⟨o, h, _⟩ | ⟨o, its, n, h1, h2, _⟩
    · exact .fTuple h
    · rw [← hK] at h1
      exact .kTuple h1 h2
  · cases r
    split at e
    · rename_i g
      cases e
      obtain ⟨vs, h, q⟩ := ra _ _ g
      exact fin "list" (by decide) (.base (.lst h)) (by cases cl <;> cases hT <;> decide +kernel)
    · rename_i g
      cases e
      obtain ⟨vs, h, q⟩ := ra _ _ g
      exact fin "dict" (by decide) (.base (.dK h)) (by cases cl <;> cases hT <;> decide +kernel)
    · cases e
  · obtain ⟨a, vs, rfl, h, q⟩ := r
    cases e
    refine fin "list" (by decide) ?_ (by cases cl <;> cases hT <;> decide +kernel)
    rcases h with ⟨o, h⟩ | ⟨o, its, n, h1, h2, _⟩
    · exact .base (.frz h)
    · rw [← hK] at h1
      exact .kList h1 h2
  · obtain ⟨a, ws, rfl, ⟨o, h⟩, ek, q⟩ := r
    cases e
    exact fin "dict" (by decide) (.fDict h) (by cases cl <;> cases hT <;> decide +kernel)
/-- several classes -/
theorem tyx_at {A : AH} {H : Hp} {d : D} {x : V} {sub : Str → Str → Bool} (hK : X.K = c.K) (ra : RelA c A H) (r : RelD c.K H d x) (h0 : ∃ cl b, isiD sub A d cl = some b) :
    ∃ a, a ∈ ["NoneType", "bool", "int", "str", "tuple", "list", "dict"] ∧ TyX X.K H x (.type a) ∧ ∀ cl T b, clT cl = some T → isiD sub A d cl = some b → ((a == T) || (a == "bool" && T == "int")) = b := by
  obtain ⟨cl0, b0, e0⟩ := h0
  cases d <;> simp only [isiD] at e0
  · cases r; refine ⟨"NoneType", by decide, .base .non, fun cl T b hT e => ?_⟩; simp only [isiD] at e; cases e; cases cl <;> cases hT <;> decide +kernel
  · cases r; refine ⟨"bool", by decide, .base (.bl _), fun cl T b hT e => ?_⟩; simp only [isiD] at e; cases e; cases cl <;> cases hT <;> decide +kernel
  · cases r; refine ⟨"int", by decide, .base (.int _), fun cl T b hT e => ?_⟩; simp only [isiD] at e; cases e; cases cl <;> cases hT <;> decide +kernel
  · cases r; refine ⟨"str", by decide, .base (.str _), fun cl T b hT e => ?_⟩; simp only [isiD] at e; cases e; cases cl <;> cases hT <;> decide +kernel
  · obtain ⟨a, vs, rfl, h, q⟩ := r
    refine ⟨"tuple", by decide, ?_, fun cl T b hT e => by simp only [isiD] at e; cases e; cases cl <;> cases hT <;> decide +kernel⟩
    rcases h with ⟨o, h, _⟩ | ⟨o, its, n, h1, h2, _⟩
    · exact .fTuple h
    · rw [← hK] at h1
      exact .kTuple h1 h2
  · cases r
    split at e0
    · rename_i g
      obtain ⟨vs, h, q⟩ := ra _ _ g
      exact ⟨"list", by decide, .base (.lst h), fun cl T b hT e => by simp only [isiD, g] at e; cases e; cases cl <;> cases hT <;> decide +kernel⟩
    · rename_i g
      obtain ⟨vs, h, q⟩ := ra _ _ g
      exact ⟨"dict", by decide, .base (.dK h), fun cl T b hT e => by simp only [isiD, g] at e; cases e; cases cl <;> cases hT <;> decide +kernel⟩
    · cases e0
  · obtain ⟨a, vs, rfl, h, q⟩ := r
    refine ⟨"list", by decide, ?_, fun cl T b hT e => by simp only [isiD] at e; cases e; cases cl <;> cases hT <;> decide +kernel⟩
    rcases h with ⟨o, h⟩ | ⟨o, its, n, h1, h2, _⟩
    · exact .base (.frz h)
    · rw [← hK] at h1
      exact .kList h1 h2
  · obtain ⟨a, ws, rfl, ⟨o, h⟩, ek, q⟩ := r
    exact ⟨"dict", by decide, .fDict h, fun cl T b hT e => by simp only [isiD] at e; cases e; cases cl <;> cases hT <;> decide +kernel⟩
theorem isis_any {K : PySem.W.Frag} {a : String} {A : AH} {d : D} {sub : Str → Str → Bool} (ha : a ∈ ["NoneType", "bool", "int", "str", "tuple", "list", "dict"]) (hi : ∀ cl T b, clT cl = some T → isiD sub A d cl = some b → ((a == T) || (a == "bool" && T == "int")) = b) :
    ∀ (cs : List Cl) (Ts : List String) (b : Bool), cs.map clT = Ts.map some → isisD sub A d cs = some b → PySem.W.kitAny K (.type a) (Ts.map Value.type) = some b
  | [], [], b, _, e => by cases e; rfl
  | cl :: cs, T :: Ts, b, h, e => by
    simp only [List.map_cons, List.cons.injEq] at h
    unfold isisD at e
    split at e
    · rename_i x y e1 e2
      cases e
      have k1 := kit_all (K := K) a cl T ha h.1
      rw [hi cl T x h.1 e1] at k1
      exact kitAny_cons k1 (fun hx => by rw [hx, Bool.false_or]; exact isis_any ha hi cs Ts y h.2 e2) (fun hx => by rw [hx]; rfl)
    · cases e
  | [], _ :: _, _, h, _ => by simp at h
  | _ :: _, [], _, h, _ => by simp at h
theorem paired_ty : ∀ Ts : List String, Paired ClsV (Ts.map V.ty) (Ts.map Value.type)
  | [] => .nil
  | T :: Ts => .cons (.ty T) (paired_ty Ts)
def clsT : List V → TA := fun vs _ H Q => Q vs H
/-- the written classes -/
structure ClsAre (X : Cx) (es : List Expr) (cs : List Cl) (Ts : List String) : Prop where
  eT : cs.map clT = Ts.map some
  pa : PA X es (clsT (Ts.map V.ty))
  ns : ∀ e ∈ es, noStar e = true
theorem s_isis (hK : X.K = c.K) {cs : List Cl} {Ts : List String} {es : List Expr} {pt : Pos} {kt : Nat} (hC : ClsAre X es cs Ts) (h0 : 0 < cs.length) (h30 : cs.length < 30) (ha : PE X e (lE c (ev G ea) W)) (hn : noStar e = true) (hg : Gl X "isinstance") (hm : X.mg "isinstance" = none) :
    PE X (.Call (.Name "isinstance" p) [e, .Tuple es kt pt] [] pos) (lE c (ev G (.isis ea cs)) W) := by
  refine PE.imp (pe_callB call_isiT hg hm (by decide +kernel) (pa_cons ha (pa_cons (pe_tup hC.pa) pa_nil (by rfl)) (starEach_cons hn)) (by decide) (by decide) (starEach_cons hn) (starEach_plain (by rfl))) fun σ H Q h => ?_
  obtain ⟨σd, A, Xd, Qd, rs, ra, t, f, fw⟩ := h
  refine lE_go rs .refl ra fw t fun d A1 v H1 q1 m1 ra1 rx => ?_
  have hl : (Ts.map V.ty).length = cs.length := by
    have := congrArg List.length hC.eT
    simpa using this.symm
  refine ⟨by rw [hl, sizeLine_eq]; omega, fun q hq => ?_⟩
  split at q1
  · rename_i b eb
    have i1 : ∃ cl b, isiD G.sub A1 d cl = some b := by
      cases cs with
      | nil => cases h0
      | cons cl cs =>
        unfold isisD at eb
        split at eb
        · rename_i x y e1 e2
          exact ⟨cl, x, e1⟩
        · cases eb
    have m2 : Mono H1 (L2.upd H1 q (.tup (Ts.map V.ty))) := Mono.fresh hq
    obtain ⟨a, ha, hty, hi⟩ := tyx_at hK (ra1.aside (u := .tup (Ts.map V.ty)) hq) (RelD.mono m2 _ _ rx) i1
    refine ⟨v, q, Ts.map V.ty, .type a, Ts.map Value.type, b, rfl, upd_same, ?_, hty, isis_any ha hi cs Ts b hC.eT eb, (f.from (m1.trans m2)).here q1 (ra1.aside hq) rfl⟩
    exact paired_ty Ts
  · exact q1.elim
theorem s_isi (hK : X.K = c.K) {cl : Cl} {T : String} {x : Str} {px p : Pos} (hT : clT cl = some T) (ha : PE X e (lE c (ev G ea) W)) (hn : noStar e = true) (hg : Gl X "isinstance") (hm : X.mg "isinstance" = none) (hgT : Gl X x) (hmT : X.mg x = none) (hv : bootBuiltins x = some (.type T)) (hnn : x ≠ "__name__") (hdb : (x == ("__debug__" : Str)) = false) :
    PE X (.Call (.Name "isinstance" p) [e, .Name x px] [] pos) (lE c (ev G (.isi ea cl)) W) := by
  refine PE.imp (pe_callB call_isi hg hm (by decide +kernel) (pa_cons ha (pa_cons (pe_bltn (v := .ty T) hgT hmT hv rfl hnn hdb) pa_nil) (starEach_cons hn)) (by decide) (by decide) (starEach_cons hn) (starEach_plain (by rfl))) fun σ H Q h => ?_
  obtain ⟨σd, A, Xd, Qd, rs, ra, t, f, fw⟩ := h
  refine lE_go rs .refl ra fw t fun d A1 v H1 q1 m1 ra1 rx => ?_
  split at q1
  · rename_i b eb
    obtain ⟨ty, h1, h2⟩ := tyx_of hK ra1 rx hT eb
    exact ⟨v, .ty T, ty, .type T, b, rfl, .ty T, h1, h2, (f.from m1).here q1 ra1 rfl⟩
  · exact q1.elim
end
end Py

namespace Py
open PySem PySem.Spec PyProof.Rows L2
section
variable {c : RC} {X : Cx} {W : WX} {G : GEnv} {a b e : Expr} {ea eb : E} {es : List Expr} {ees : Es} {pos : Pos}
/-! ### methods of built-in types -/
def mName : MT → Str
  | .append => "append" | .pop => "pop" | .index => "index" | .extend => "extend" | .insert => "insert" | .remove => "remove" | .get => "get" | .items => "items" | .values => "values" | .join => "join" | .split => "split"
  | .partition => "partition" | .count => "count" | .upper => "upper" | .clear => "clear" | .strip => "strip" | .replace => "replace" | .setdefault => "setdefault"
/-- the value is of that built-in type and has no dict of its own -/
def tyW (K : PySem.W.Frag) (T : String) (x : V) (H : Hp) : Prop := tyV K T x H ∨ (T = "tuple" ∧ ∃ p vs, x = .ref p ∧ TupAt K H p vs) ∨ (T = "dict" ∧ ∃ p kvs, x = .ref p ∧ Rd H p (.dK kvs))
theorem tyW_is {pins : List (Addr × Obj)} {σ : L2.St} {H : Hp} {s : Shared} {T : String} {x : V} {v : Value} (I : Inv X pins σ H s) (r : RelV x v) (ty : tyW X.K T x H) :
    s.TypeIs v T ∧ ∀ a, v = .ref a → ∃ ob, s.heap.get? a = some ob ∧ ob.dict = none := by
  rcases ty with ty | ⟨rfl, p, vs, rfl, h⟩ | ⟨rfl, p, kvs, rfl, h⟩
  · exact tyV_is I r ty
  · cases r
    rcases h with ⟨o, h, d, _⟩ | ⟨o, its, n, h1, h2, ⟨d, _⟩, _⟩
    · obtain ⟨g1, g2, its2, r2, o', g3, g4, n2, g5⟩ := I.hok p _ h
      rw [g1] at g3
      cases g3
      exact ⟨⟨_, g1, g4⟩, fun a e => by cases e; exact ⟨_, g1, d⟩⟩
    · exact ⟨⟨_, I.kIn p o h1, h2⟩, fun a e => by cases e; exact ⟨_, I.kIn p o h1, d⟩⟩
  · cases r
    obtain ⟨_, _, vs, _, dd⟩ := dk_rd I.hok h
    refine ⟨dd.typeIs, fun b q => ?_⟩
    cases q
    obtain ⟨ob, _, _, h1, h2, _⟩ := dd
    exact ⟨ob, h1, h2.2.1⟩
/-- a method: its type's, its rule -/
def MInfo (X : Cx) (T : String) (name : Str) (r : V → List V → Hp → VK → Prop) : Prop :=
  PlainAttrs T ∧ ∃ id, Slot T name id ∧ typeOf (.builtin id) = pure (.type "method_descriptor") ∧ MtR X id r
def tBX (X : Cx) (name : Str) (to : TE) (t : TA) : TE := fun σ H Q => to σ H fun x H1 => ∃ T r, MInfo X T name r ∧ tyW X.K T x H1 ∧ t σ H1 fun xs H2 => r x xs H2 Q
theorem backTo_few {env : Env} {pos : Pos} : ∀ {es : List Expr}, es.all noStar = true → (backTo pos (starEach es env)).all (fun x => !x.1) = true
  | [], _ => rfl
  | e :: es, h => by
    rw [List.all_cons, Bool.and_eq_true] at h
    rw [starEach_cons h.1]
    show (true && (backTo pos (starEach es env)).all (fun x => !x.1)) = true
    rw [backTo_few h.2]
    rfl
def tBX0 (X : Cx) (name : Str) (to : TE) : TE := fun σ H Q => to σ H fun x H1 => ∃ T r, MInfo X T name r ∧ tyW X.K T x H1 ∧ r x [] H1 Q
theorem pe_bmX0 {o : Expr} {to : TE} {name : Str} {apos cpos : Pos} (ho : PE X o to) (hbase : attributeBase o name X.env (eval o X.env) = eval o X.env)
    (hline : (apos.endLine == cpos.line) = true) : PE X (.Call (.Attribute o name apos) [] [] cpos) (tBX0 X name to) := by
  refine ⟨fun pins s σ H Q I h => ?_⟩
  refine wpAny_Call_method0_late hbase hline (thn (ho.run pins s σ H _ I h) fun v s1 ⟨x, H1, I1, r1, T, r, ⟨pa, id, slot, hty, hm⟩, ty, q1⟩ => ?_)
  obtain ⟨h1, h2⟩ := tyW_is I1 r1 ty
  exact ⟨T, id, pa, slot, hty, h1, h2, Calls.callWith_builtin rfl (PySem.evalArgs_none (hm pins s1 σ H1 x [] v [] Q I1 r1 .nil q1))⟩
theorem pe_bmX {o : Expr} {to : TE} {t : TA} {name : Str} {apos cpos : Pos} (ho : PE X o to) (ha : PA X (e :: es) t) (hbase : attributeBase o name X.env (eval o X.env) = eval o X.env) (h2 : (e :: es).all noStar = true) (hl : (e :: es).length < 30)
    (hline : (apos.endLine == cpos.line) = true) : PE X (.Call (.Attribute o name apos) (e :: es) [] cpos) (tBX X name to t) := by
  have hfew : ((backTo cpos (starEach (e :: es) X.env)).all (fun x => !x.1) && (backToKw cpos (keywordEach [] X.env)).all (fun x => x.1.isSome)
      && decide ((e :: es).length + ([] : List Keyword).length + (if ([] : List Keyword).isEmpty then 0 else 1) < 30)) = true := by
    rw [backTo_few h2]
    simpa [keywordEach, backToKw] using hl
  refine ⟨fun pins s σ H Q I h => ?_⟩
  refine wpAny_Call_method_late hbase hfew hline rfl (thn (ho.run pins s σ H _ I h) fun v s1 ⟨x, H1, I1, r1, T, r, ⟨pa, id, slot, hty, hm⟩, ty, q1⟩ => ?_)
  obtain ⟨k1, k2⟩ := tyW_is I1 r1 ty
  refine ⟨T, id, pa, slot, hty, k1, k2, ?_⟩
  have hA := ha.run cpos pins s1 σ H1 _ I1 q1
  have h3 : noStar e = true ∧ es.all noStar = true := by rw [List.all_cons, Bool.and_eq_true] at h2; exact h2
  rw [starEach_cons h3.1] at hA ⊢
  refine Calls.callWith_builtin (by have := starEach_plain (env := X.env) (pos := cpos) h2; rw [starEach_cons h3.1] at this; exact this) (Calls.evalArgs_plain ?_)
  exact thn hA fun us s2 ⟨vs, H2, I2, r2, q2⟩ => hm pins s2 σ H2 x vs v us Q I2 r1 r2 q2
theorem minfo_list (hK : X.K = c.K) (hu : X.A.units + 8 < cLine) : ∀ m, listM m = true → MInfo X "list" (mName m) (lRl c (rML m))
  | .append, _ => ⟨PySem.F.plainAttrs_list, _, PySem.F.slot_list_append, PySem.F.type_list_append, m_append⟩
  | .pop, _ => ⟨PySem.F.plainAttrs_list, _, PySem.F.slot_list_pop, PySem.F.type_list_pop, m_pop⟩
  | .extend, _ => ⟨PySem.F.plainAttrs_list, _, PySem.F.slot_list_extend, PySem.F.type_list_extend, m_extend hK⟩
  | .insert, _ => ⟨PySem.F.plainAttrs_list, _, PySem.F.slot_list_insert, PySem.F.type_list_insert, m_insert⟩
  | .index, _ => ⟨PySem.F.plainAttrs_list, _, PySem.F.slot_list_index, PySem.F.type_list_index, m_index hK (by omega)⟩
  | .remove, _ => ⟨PySem.F.plainAttrs_list, _, PySem.F.slot_list_remove, PySem.F.type_list_remove, m_remove⟩
  | .count, _ => ⟨PySem.F.plainAttrs_list, _, PySem.F.slot_list_count, PySem.F.type_list_count, m_count hK⟩
theorem minfo_fl (hK : X.K = c.K) : ∀ m, m = .index ∨ m = .count → MInfo X "list" (mName m) (lRf c (rMF m))
  | _, .inl rfl => ⟨PySem.F.plainAttrs_list, _, PySem.F.slot_list_index, PySem.F.type_list_index, m_findex hK⟩
  | _, .inr rfl => ⟨PySem.F.plainAttrs_list, _, PySem.F.slot_list_count, PySem.F.type_list_count, m_fcount hK⟩
theorem minfo_get (hu : X.A.units + 8 < cLine) : MInfo X "dict" (mName .get) (lRg c) := ⟨PySem.F.plainAttrs_dict, _, PySem.F.slot_dict_get, PySem.F.type_dict_get, m_get (by omega)⟩
theorem minfo_setd : MInfo X "dict" (mName .setdefault) (lRdx c (rMDx .setdefault)) := ⟨PySem.F.plainAttrs_dict, _, PySem.F.slot_dict_setdefault, PySem.F.type_dict_setdefault, m_setd⟩
theorem minfo_tup (hK : X.K = c.K) : MInfo X "tuple" (mName .index) (lRt c (rMT .index)) := ⟨PySem.F.plainAttrs_tuple, _, PySem.F.slot_tuple_index, PySem.F.type_tuple_index, m_tindex hK⟩
/-- what the receiver's kind gives -/
theorem meth_kind (hK : X.K = c.K) (hu : X.A.units + 8 < cLine) {m : MT} {A1 : AH} {H1 : Hp} {x : D} {v : V} {k : RK} (ra : RelA c A1 H1) (rx : RelD c.K H1 x v) (e : recv A1 x = some k)
    (hk : okRK k m = true) : ∃ T r, MInfo X T (mName m) r ∧ tyW X.K T v H1 ∧ ∀ H2 A2 xs ds Q Qd, Mono H1 H2 → RelA c A2 H2 → RelDs c.K H2 ds xs → rM k m x ds A2 Qd → Fol c H2 Q Qd → r v xs H2 Q := by
  cases x <;> simp only [recv] at e <;> try (cases e; done)
  · cases e; cases m <;> cases hk
  · cases e
    obtain ⟨a, vs, rfl, h, q⟩ := rx
    have em : m = .index := by
      cases m <;> first | rfl | cases hk
    subst em
    exact ⟨"tuple", _, minfo_tup hK, .inr (.inl ⟨rfl, a, vs, rfl, by rw [hK]; exact h⟩), fun H2 A2 xs ds Q Qd m2 ra2 rd r f => ⟨A2, _, ds, Qd, ra2, ⟨a, vs, rfl, m2.tup h, RelDs.mono m2 _ _ q⟩, rd, r, f⟩⟩
  · cases rx
    split at e <;> cases e
    · rename_i e1
      obtain ⟨vs, h, q⟩ := ra _ _ e1
      refine ⟨"list", _, minfo_list hK hu m hk, .inl (.inl ⟨rfl, vs, SqL.of h⟩), fun H2 A2 xs ds Q Qd m2 ra2 rd r f => ?_⟩
      simp only [rM] at r
      split at r
      · rename_i e2
        exact ⟨A2, _, _, ds, Qd, ra2, rfl, e2, rd, r, f⟩
      · exact r.elim
    · rename_i e1
      obtain ⟨ws, h, q⟩ := ra _ _ e1
      have em : m = .get ∨ m = .setdefault := by cases m <;> first | exact .inl rfl | exact .inr rfl | cases hk
      rcases em with rfl | rfl
      · refine ⟨"dict", lRg c, minfo_get hu, .inr (.inr ⟨rfl, _, ws, rfl, .inl h⟩), fun H2 A2 xs ds Q Qd m2 ra2 rd r f => ?_⟩
        simp only [rM, dictX] at r
        split at r
        · rename_i e2
          exact ⟨A2, .ref _, _, ds, Qd, ra2, rfl, e2, rd, r, f⟩
        · exact r.elim
      · refine ⟨"dict", lRdx c (rMDx .setdefault), minfo_setd, .inr (.inr ⟨rfl, _, ws, rfl, .inl h⟩), fun H2 A2 xs ds Q Qd m2 ra2 rd r f => ?_⟩
        simp only [rM, dictX] at r
        split at r
        · rename_i e2
          exact ⟨A2, _, _, ds, Qd, ra2, rfl, e2, rd, r, f⟩
        · exact r.elim
  · cases e
    obtain ⟨a, vs, rfl, h, q⟩ := rx
    have em : m = .index ∨ m = .count ∨ ∀ ds xs A Q, rMF m ds xs A Q → False := by
      cases m <;> first | exact .inl rfl | exact .inr (.inl rfl) | exact .inr (.inr fun _ _ _ _ z => z)
    rcases em with em | em | em
    · refine ⟨"list", _, minfo_fl hK m (.inl em), .inl (.inl ⟨rfl, vs, by rw [hK]; exact h.sql⟩), fun H2 A2 xs ds Q Qd m2 ra2 rd r f => ⟨A2, _, ds, Qd, ra2, ⟨a, vs, rfl, m2.fl h, RelDs.mono m2 _ _ q⟩, rd, r, f⟩⟩
    · refine ⟨"list", _, minfo_fl hK m (.inr em), .inl (.inl ⟨rfl, vs, by rw [hK]; exact h.sql⟩), fun H2 A2 xs ds Q Qd m2 ra2 rd r f => ⟨A2, _, ds, Qd, ra2, ⟨a, vs, rfl, m2.fl h, RelDs.mono m2 _ _ q⟩, rd, r, f⟩⟩
    · exact ⟨"list", _, minfo_list hK hu m hk, .inl (.inl ⟨rfl, vs, by rw [hK]; exact h.sql⟩), fun H2 A2 xs ds Q Qd m2 ra2 rd r f => (em _ _ _ _ r).elim⟩
  · cases e
    have em : m = .get ∨ m = .setdefault := by cases m <;> first | exact .inl rfl | exact .inr rfl | cases hk
    obtain ⟨a, ws, rfl, ⟨o, h⟩, ek, q⟩ := rx
    rcases em with rfl | rfl
    rotate_left
    · exact ⟨"dict", lRdx c (rMDx .setdefault), minfo_setd, .inr (.inr ⟨rfl, a, ws, rfl, .inr ⟨o, h⟩⟩), fun H2 A2 xs ds Q Qd m2 ra2 rd r f => r.elim⟩
    refine ⟨"dict", lRg c, minfo_get hu, .inr (.inr ⟨rfl, a, ws, rfl, .inr ⟨o, h⟩⟩), fun H2 A2 xs ds Q Qd m2 ra2 rd r f => ?_⟩
    exact ⟨A2, .fd _ _, _, ds, Qd, ra2, ⟨a, ws, rfl, ⟨o, m2 a o _ trivial h⟩, ek, RelDs.mono m2 _ _ q⟩, rfl, rd, r, f⟩
theorem s_mth (hK : X.K = c.K) (hu : X.A.units + 8 < cLine) {m : MT} {o : Expr} {eo : E} {apos cpos : Pos} (ho : PE X o (lE c (ev G eo) W)) (ha : PA X (e :: es) (lA c (evs G ees) W)) (hbase : attributeBase o (mName m) X.env (eval o X.env) = eval o X.env) (h2 : (e :: es).all noStar = true) (hl : (e :: es).length < 30)
    (hline : (apos.endLine == cpos.line) = true) : PE X (.Call (.Attribute o (mName m) apos) (e :: es) [] cpos) (lE c (ev G (.mth m eo ees)) W) := by
  refine PE.imp (pe_bmX ho ha hbase h2 hl hline) fun σ H Q h => ?_
  obtain ⟨σd, A, Xd, Qd, rs, ra, t, f, fw⟩ := h
  refine lE_go rs .refl ra fw t fun x A1 v H1 q1 m1 ra1 rx => ?_
  split at q1
  · rename_i k ek
    obtain ⟨T, r, mi, ty, go⟩ := meth_kind (X := X) hK hu ra1 rx ek q1.1
    exact ⟨T, r, mi, ty, lA_go rs m1 ra1 fw q1.2 fun ds A2 vs H2 q2 m2 ra2 r2 => go H2 A2 vs ds Q Qd m2 ra2 r2 q2 (f.from (m1.trans m2))⟩
  · exact q1.elim
theorem s_mth0 (hK : X.K = c.K) (hu : X.A.units + 8 < cLine) {m : MT} {o : Expr} {eo : E} {apos cpos : Pos} (ho : PE X o (lE c (ev G eo) W)) (hbase : attributeBase o (mName m) X.env (eval o X.env) = eval o X.env)
    (hline : (apos.endLine == cpos.line) = true) : PE X (.Call (.Attribute o (mName m) apos) [] [] cpos) (lE c (ev G (.mth m eo .nil)) W) := by
  refine PE.imp (pe_bmX0 ho hbase hline) fun σ H Q h => ?_
  obtain ⟨σd, A, Xd, Qd, rs, ra, t, f, fw⟩ := h
  refine lE_go rs .refl ra fw t fun x A1 v H1 q1 m1 ra1 rx => ?_
  split at q1
  · rename_i k ek
    obtain ⟨T, r, mi, ty, go⟩ := meth_kind (X := X) hK hu ra1 rx ek q1.1
    exact ⟨T, r, mi, ty, go H1 A1 [] [] Q Qd .refl ra1 rfl q1.2 (f.from m1)⟩
  · exact q1.elim

/-! ### what is walked -/
/-- the items that come, the objects that must stand meanwhile -/
def lIx (c : RC) (tup : Bool) (H0 : Hp) (J : It) (ds : List D) (Gd : Gd) : Prop := ∀ (i : Nat) H A, Mono H0 H → RelA c A H → holds Gd A →
  (∀ d, ds[i]? = some d → J.go i H ∧ ∀ x H', J.yld i H x H' → Mono H H' ∧ RelA c A H' ∧ ((tup = false ∧ RelD c.K H' d x) ∨ (tup = true ∧ ∃ es a vs, d = .tup es ∧ x = .ref a ∧ SqT c.K H' a vs ∧ RelDs c.K H' es vs))) ∧
  (ds.length = i → J.stop i H)
def FolI (c : RC) (tup : Bool) (H : Hp) (R : It → Hp → Prop) (Rd : List D → Gd → AH → Prop) : Prop := ∀ ds Gd A' J H', Rd ds Gd A' → Mono H H' → RelA c A' H' → lIx c tup H' J ds Gd → R J H'
def lI (c : RC) (tup : Bool) (t : DSt → AH → Dx → (List D → Gd → AH → Prop) → Prop) (W : WX) : TI := fun σ H R => ∃ σd A Xd Rd, RelS c.K H σd σ ∧ RelA c A H ∧ t σd A Xd Rd ∧ FolI c tup H R Rd ∧ FolW c H (fun cl d H' => W cl d σ H') Xd
/-- a list or a tuple, as it comes -/
theorem pi_seq {tg l : Expr} {tl : TE} (hl : PE X l tl) : PI X tg l (fun σ H R => tl σ H fun x H1 => (∃ a, x = .ref a ∧ (∃ xs, SqL X.K H1 a xs) ∧ R (Itl X.K a) H1) ∨ (∃ a, x = .ref a ∧ (∃ xs, SqT X.K H1 a xs) ∧ R (Itt X.K a) H1)) := by
  refine ⟨fun pins s σ H R I h => ?_⟩
  refine thn (hl.run pins s σ H _ I h) fun v s1 ⟨x, H1, I1, r1, q1⟩ => ?_
  rcases q1 with ⟨a, e, ⟨xs, hq⟩, q⟩ | ⟨a, e, ⟨xs, hq⟩, q⟩
  · subst e
    cases r1
    obtain ⟨its, rv, p, hz⟩ := I1.list hq
    refine wpAny_pyIter_list p.isList ?_
    refine ⟨s1.heap.objs.size, [s1.heap.objs.size], _, _, H1, rfl, I1.kept (t' := s1.toks) fun b o e => Heap.get?_push_of_some _ e, turn_list a _, ⟨_, Heap.get?_push_size _ rfl, rfl, rfl⟩, fun b hb => ?_, q⟩
    have e : b = s1.heap.objs.size := by simpa using hb
    subst e
    exact I1.fpOk (Nat.le_refl _) (I1.hok.fresh (Nat.le_refl _))
  · subst e
    cases r1
    obtain ⟨its, rv, p, hz⟩ := I1.tuple hq
    refine wpAny_pyIter_tuple (show s1.heap.IsTuple a its.toArray from p) ?_
    refine ⟨s1.heap.objs.size, [s1.heap.objs.size], _, _, H1, rfl, I1.kept (t' := s1.toks) fun b o e => Heap.get?_push_of_some _ e, turn_tuple a _, ⟨_, Heap.get?_push_size _ rfl, rfl, rfl⟩, fun b hb => ?_, q⟩
    have e : b = s1.heap.objs.size := by simpa using hb
    subst e
    exact I1.fpOk (Nat.le_refl _) (I1.hok.fresh (Nat.le_refl _))
theorem ix_tup_ok {H : Hp} {a : Addr} {vs : List V} {ds : List D} (h : TupAt c.K H a vs) (r : RelDs c.K H ds vs) : lIx c false H (Itt c.K a) ds [] := fun i H1 A m ra _ => by
  have h1 : SqT c.K H1 a vs := (m.tup h).sqt
  refine ⟨fun d e => ?_, fun hi => ⟨vs, h1, by rw [r.length]; exact Nat.le_of_eq hi⟩⟩
  obtain ⟨v, hv, rv⟩ := r.get e
  refine ⟨⟨vs, v, h1, hv⟩, fun x H' ⟨e1, e2⟩ => ?_⟩
  subst e1
  have e3 := e2 vs h1
  rw [hv] at e3
  cases e3
  exact ⟨.refl, ra, .inl ⟨rfl, RelD.mono m _ _ rv⟩⟩
theorem ix_fl_ok {H : Hp} {a : Addr} {vs : List V} {ds : List D} (h : FlAt c.K H a vs) (r : RelDs c.K H ds vs) : lIx c false H (Itl c.K a) ds [] := fun i H1 A m ra _ => by
  have h1 : SqL c.K H1 a vs := (m.fl h).sql
  refine ⟨fun d e => ?_, fun hi => ⟨vs, h1, by rw [r.length]; exact Nat.le_of_eq hi⟩⟩
  obtain ⟨v, hv, rv⟩ := r.get e
  refine ⟨⟨vs, v, h1, hv⟩, fun x H' ⟨e1, e2⟩ => ?_⟩
  subst e1
  have e3 := e2 vs h1
  rw [hv] at e3
  cases e3
  exact ⟨.refl, ra, .inl ⟨rfl, RelD.mono m _ _ rv⟩⟩
theorem ix_lst_ok {H : Hp} {a : Addr} {ds : List D} : lIx c false H (Itl c.K a) ds [(a, .lst ds)] := fun i H1 A m ra hg => by
  have e := hg (a, .lst ds) (by simp)
  obtain ⟨vs, h1, r⟩ := ra _ _ e
  have h1 : Rd H1 a (.lst vs) := .inl h1
  refine ⟨fun d e => ?_, fun hi => ⟨vs, .inl h1, by rw [r.length]; exact Nat.le_of_eq hi⟩⟩
  obtain ⟨v, hv, rv⟩ := r.get e
  refine ⟨⟨vs, v, .inl h1, hv⟩, fun x H' ⟨e1, e2⟩ => ?_⟩
  subst e1
  have e3 := e2 vs (.inl h1)
  rw [hv] at e3
  cases e3
  exact ⟨.refl, ra, .inl ⟨rfl, rv⟩⟩
theorem ix_keys_ok {H : Hp} {a : Addr} {o : Obj} {ws : List (Key × V)} (h : H a = some (.frz o (.dK ws))) : lIx c false H (Itk a o ws) ((ws.map (·.1)).map keyD) [] := fun i H1 A m ra _ => by
  have h1 : H1 a = some (.frz o (.dK ws)) := m a o _ trivial h
  refine ⟨fun d e => ?_, fun hi => ⟨h1, by simpa using Nat.le_of_eq hi⟩⟩
  rw [List.map_map, List.getElem?_map] at e
  cases ew : ws[i]? with
  | none => rw [ew] at e; cases e
  | some p =>
    rw [ew] at e
    cases e
    refine ⟨⟨h1, (List.getElem?_eq_some_iff.mp ew).1⟩, fun x H' z => ?_⟩
    obtain ⟨e1, k, v, e2, e3⟩ := z
    rw [ew] at e2
    cases e2
    subst e1 e3
    exact ⟨.refl, ra, .inl ⟨rfl, keyD_rel _⟩⟩
theorem ix_vals_ok {H : Hp} {a : Addr} {o : Obj} {ws : List (Key × V)} {ds : List D} (h : H a = some (.frz o (.dK ws))) (r : RelDs c.K H ds (ws.map (·.2))) : lIx c false H (Itd a o ws) ds [] := fun i H1 A m ra _ => by
  have h1 : H1 a = some (.frz o (.dK ws)) := m a o _ trivial h
  have hl := r.length
  rw [List.length_map] at hl
  refine ⟨fun d e => ?_, fun hi => ⟨h1, by omega⟩⟩
  obtain ⟨v, hv, rv⟩ := r.get e
  rw [List.getElem?_map] at hv
  cases ew : ws[i]? with
  | none => rw [ew] at hv; cases hv
  | some p =>
    rw [ew] at hv
    cases hv
    refine ⟨⟨h1, (List.getElem?_eq_some_iff.mp ew).1⟩, fun x H' z => ?_⟩
    obtain ⟨e1, k, e2⟩ := z
    rw [ew] at e2
    cases e2
    subst e1
    exact ⟨.refl, ra, .inl ⟨rfl, RelD.mono m _ _ rv⟩⟩
theorem itemsD_get {ks : List Key} {ds : List D} {i : Nat} {d : D} (h : (itemsD ks ds)[i]? = some d) : ∃ k e, ks[i]? = some k ∧ ds[i]? = some e ∧ d = .tup [keyD k, e] := by
  unfold itemsD at h
  rw [List.getElem?_zipWith] at h
  cases q : ks[i]? with
  | none => rw [q] at h; cases h
  | some x =>
    rw [q] at h
    cases q2 : ds[i]? with
    | none => rw [q2] at h; cases h
    | some y => rw [q2] at h; cases h; exact ⟨x, y, rfl, rfl, rfl⟩
theorem ix_items_ok {H : Hp} {a : Addr} {o : Obj} {ws : List (Key × V)} {ds : List D} (h : H a = some (.frz o (.dK ws))) (r : RelDs c.K H ds (ws.map (·.2))) : lIx c true H (Iti a o ws) (itemsD (ws.map (·.1)) ds) [] := fun i H1 A m ra _ => by
  have h1 : H1 a = some (.frz o (.dK ws)) := m a o _ trivial h
  have hl := r.length
  rw [List.length_map] at hl
  refine ⟨fun d e => ?_, fun hi => ⟨h1, by unfold itemsD at hi; rw [List.length_zipWith, List.length_map] at hi; omega⟩⟩
  obtain ⟨k, y, ek, ey, rfl⟩ := itemsD_get e
  obtain ⟨v, hv, rv⟩ := r.get ey
  rw [List.getElem?_map] at hv ek
  cases ew : ws[i]? with
  | none => rw [ew] at hv; cases hv
  | some p =>
    rw [ew] at hv ek
    cases hv
    cases ek
    refine ⟨⟨h1, (List.getElem?_eq_some_iff.mp ew).1⟩, ?_⟩
    rintro x H' ⟨T, k, v, e2, rfl, hT, rfl⟩
    rw [ew] at e2
    cases e2
    exact ⟨Mono.fresh hT, ra.aside hT, .inr ⟨rfl, _, T, _, rfl, rfl, .inl (.inl upd_same), _, _, rfl, keyD_rel _, _, _, rfl, RelD.mono (Mono.fresh hT) _ _ (RelD.mono m _ _ rv), rfl⟩⟩
theorem i_items {elts : List Expr} {kk : Nat} {tpos apos cpos : Pos} (he : PE X e (lE c (ev G ea) W)) (hbase : attributeBase e "items" X.env (eval e X.env) = eval e X.env) (hline : (apos.endLine == cpos.line) = true) :
    PI X (.Tuple elts kk tpos) (.Call (.Attribute e "items" apos) [] [] cpos) (lI c true (evI G (.items ea)) W) := by
  refine PI.imp (pi_items he hbase hline) fun σ H R h => ?_
  obtain ⟨σd, A, Xd, Rd, rs, ra, t, f, fw⟩ := h
  refine lE_go rs .refl ra fw t fun x A1 v H1 q1 m1 ra1 rx => ?_
  cases x <;> try exact q1.elim
  obtain ⟨a, ws, rfl, ⟨o, h⟩, ek, q⟩ := rx
  subst ek
  exact ⟨a, o, ws, rfl, h, f _ _ _ _ _ q1 m1 ra1 (ix_items_ok h q)⟩
theorem i_values {tg : Expr} {apos cpos : Pos} (he : PE X e (lE c (ev G ea) W)) (hbase : attributeBase e "values" X.env (eval e X.env) = eval e X.env) (hline : (apos.endLine == cpos.line) = true) :
    PI X tg (.Call (.Attribute e "values" apos) [] [] cpos) (lI c false (evI G (.values ea)) W) := by
  refine PI.imp (pi_values he hbase hline) fun σ H R h => ?_
  obtain ⟨σd, A, Xd, Rd, rs, ra, t, f, fw⟩ := h
  refine lE_go rs .refl ra fw t fun x A1 v H1 q1 m1 ra1 rx => ?_
  cases x <;> try exact q1.elim
  obtain ⟨a, ws, rfl, ⟨o, h⟩, ek, q⟩ := rx
  exact ⟨a, o, ws, rfl, h, f _ _ _ _ _ q1 m1 ra1 (ix_vals_ok h q)⟩
/-- what is walked as it comes: a list, a tuple, a dict that stands still, a text -/
theorem pi_seqD {tg l : Expr} {tl : TE} (hl : PE X l tl) : PI X tg l (fun σ H R => tl σ H fun x H1 => ((∃ a, x = .ref a ∧ (∃ xs, SqL X.K H1 a xs) ∧ R (Itl X.K a) H1) ∨ (∃ a, x = .ref a ∧ (∃ xs, SqT X.K H1 a xs) ∧ R (Itt X.K a) H1)) ∨ ∃ d o kvs, x = .ref d ∧ H1 d = some (.frz o (.dK kvs)) ∧ R (Itk d o kvs) H1) := by
  refine ⟨fun pins s σ H R I h => ?_⟩
  have hE : PE X l (fun σ H Q => tl σ H Q) := hl
  refine thn (hl.run pins s σ H _ I h) fun v s1 ⟨x, H1, I1, r1, q1⟩ => ?_
  rcases q1 with q1 | ⟨d, o, kvs, rfl, hd, q⟩
  · rcases q1 with ⟨a, e, ⟨xs, hq⟩, q⟩ | ⟨a, e, ⟨xs, hq⟩, q⟩
    · subst e
      cases r1
      obtain ⟨its, rv, p, hz⟩ := I1.list hq
      refine wpAny_pyIter_list p.isList ?_
      refine ⟨s1.heap.objs.size, [s1.heap.objs.size], _, _, H1, rfl, I1.kept (t' := s1.toks) fun b o e => Heap.get?_push_of_some _ e, turn_list a _, ⟨_, Heap.get?_push_size _ rfl, rfl, rfl⟩, fun b hb => ?_, q⟩
      have e : b = s1.heap.objs.size := by simpa using hb
      subst e
      exact I1.fpOk (Nat.le_refl _) (I1.hok.fresh (Nat.le_refl _))
    · subst e
      cases r1
      obtain ⟨its, rv, p, hz⟩ := I1.tuple hq
      refine wpAny_pyIter_tuple (show s1.heap.IsTuple a its.toArray from p) ?_
      refine ⟨s1.heap.objs.size, [s1.heap.objs.size], _, _, H1, rfl, I1.kept (t' := s1.toks) fun b o e => Heap.get?_push_of_some _ e, turn_tuple a _, ⟨_, Heap.get?_push_size _ rfl, rfl, rfl⟩, fun b hb => ?_, q⟩
      have e : b = s1.heap.objs.size := by simpa using hb
      subst e
      exact I1.fpOk (Nat.le_refl _) (I1.hok.fresh (Nat.le_refl _))
  · obtain rfl : v = Value.ref d := r1
    obtain ⟨hs, hgd, hx, es, ep, vs, hdt, hsz, kv, hm⟩ := I1.frzK hd
    refine iter_keys hs hgd hx hdt (pi_one (tk := s1.toks) I1 _ (turn_keys _ hdt) ⟨_, Heap.get?_push_size _ rfl, rfl, ?_⟩ q)
    rw [hsz] <;> rfl
theorem i_seq (hK : X.K = c.K) {tg : Expr} (he : PE X e (lE c (ev G ea) W)) : PI X tg e (lI c false (evI G (.seq ea)) W) := by
  refine PI.imp (pi_seqD he) fun σ H R h => ?_
  obtain ⟨σd, A, Xd, Rd, rs, ra, t, f, fw⟩ := h
  refine lE_go rs .refl ra fw t fun x A1 v H1 q1 m1 ra1 rx => ?_
  cases x <;> try exact q1.elim
  · obtain ⟨a, vs, rfl, h, q⟩ := rx
    exact .inl (.inr ⟨a, rfl, ⟨vs, by rw [hK]; exact h.sqt⟩, by rw [hK]; exact f _ _ _ _ _ q1 m1 ra1 (ix_tup_ok h q)⟩)
  · cases rx
    dsimp only at q1
    split at q1
    · rename_i e1
      obtain ⟨vs, h, q⟩ := ra1 _ _ e1
      exact .inl (.inl ⟨_, rfl, ⟨vs, SqL.of h⟩, by rw [hK]; exact f _ _ _ _ _ q1 m1 ra1 ix_lst_ok⟩)
    · exact q1.elim
  · obtain ⟨a, vs, rfl, h, q⟩ := rx
    exact .inl (.inl ⟨a, rfl, ⟨vs, by rw [hK]; exact h.sql⟩, by rw [hK]; exact f _ _ _ _ _ q1 m1 ra1 (ix_fl_ok h q)⟩)
  · obtain ⟨a, ws, rfl, ⟨o, h⟩, ek, q⟩ := rx
    subst ek
    exact .inr ⟨a, o, ws, rfl, h, f _ _ _ _ _ q1 m1 ra1 (ix_keys_ok h)⟩
theorem rng_get {lo : Int} {n i : Nat} {d : D} (h : (rngD lo n)[i]? = some d) : i < n ∧ d = .int (lo + (i : Nat)) := by
  unfold rngD at h
  rw [List.getElem?_map] at h
  by_cases hi : i < n
  · rw [List.getElem?_range hi] at h
    cases h
    exact ⟨hi, rfl⟩
  · rw [List.getElem?_eq_none (by simpa using hi)] at h
    cases h
theorem ix_rng_ok {H : Hp} {lo : Int} {n : Nat} : lIx c false H (Itr lo n) (rngD lo n) [] := fun i H1 A m ra _ => by
  refine ⟨fun d e => ?_, fun hi => ?_⟩
  · obtain ⟨hi, rfl⟩ := rng_get e
    exact ⟨hi, fun x H' ⟨e1, e2⟩ => by subst e1 e2; exact ⟨.refl, ra, .inl ⟨rfl, rfl⟩⟩⟩
  · have : (rngD lo n).length = n := by simp [rngD]
    rw [this] at hi
    exact Nat.le_of_eq hi
theorem i_rng1 {tg : Expr} {p : Pos} (hg : Gl X "range") (hm : X.mg "range" = none) (ha : PE X a (lE c (ev G ea) W)) (hn : noStar a = true) : PI X tg (.Call (.Name "range" p) [a] [] pos) (lI c false (evI G (.rng1 ea)) W) := by
  refine PI.imp (pi_range1 hg hm (pa_cons ha pa_nil (starEach_cons hn)) (starEach_cons hn)) fun σ H R h => ?_
  obtain ⟨σd, A, Xd, Rd, rs, ra, t, f, fw⟩ := h
  refine lE_go rs .refl ra fw t fun x A1 v H1 q1 m1 ra1 rx => ?_
  cases x <;> try exact q1.elim
  cases rx
  exact ⟨_, rfl, q1.1, q1.2.1, f _ _ _ _ _ q1.2.2 m1 ra1 ix_rng_ok⟩
theorem i_rng2 {tg : Expr} {p : Pos} (hg : Gl X "range") (hm : X.mg "range" = none) (ha : PE X a (lE c (ev G ea) W)) (hb : PE X b (lE c (ev G eb) W)) (hn : noStar a = true) (hn2 : noStar b = true) : PI X tg (.Call (.Name "range" p) [a, b] [] pos) (lI c false (evI G (.rng2 ea eb)) W) := by
  refine PI.imp (pi_range2 hg hm (pa_cons ha (pa_cons hb pa_nil (starEach_cons hn2)) (starEach_cons hn)) (by rw [starEach_cons hn, starEach_cons hn2]; rfl) (starEach_cons hn2)) fun σ H R h => ?_
  obtain ⟨σd, A, Xd, Rd, rs, ra, t, f, fw⟩ := h
  refine lE_go rs .refl ra fw t fun x A1 v H1 q1 m1 ra1 rx => ?_
  refine lE_go rs m1 ra1 fw q1 fun y A2 w H2 q2 m2 ra2 ry => ?_
  cases x <;> cases y <;> try exact q2.elim
  cases rx
  cases ry
  exact ⟨_, _, rfl, q2.1, f _ _ _ _ _ q2.2 (m1.trans m2) ra2 ix_rng_ok⟩
end
end Py

namespace Py
open PySem PySem.Spec PyProof.Rows L2
section
variable {c : RC} {X : Cx} {W : WX} {G : GEnv} {a b e : Expr} {ea eb : E} {es : List Expr} {ees : Es} {pos : Pos}
/-! ### targets -/
def gNs : List (Nat × Str) → TGs
  | [] => gNil
  | p :: r => gCons (gName p.1) (gNs r)
def gOf (K : PySem.W.Frag) : Tg → TG
  | .name i _ => gName i
  | .tup xs => gTup K xs.length (gNs xs)
def Tg.ixs : Tg → List Nat
  | .name i _ => [i]
  | .tup xs => xs.map (·.1)
theorem wipe_set {σ : L2.St} {i : Nat} {v : Option V} : ∀ {vs : List Nat}, i ∈ vs → wipe (σ.set i v) vs = wipe σ vs
  | j :: vs, h => by
    show (wipe (σ.set i v) vs).set j none = (wipe σ vs).set j none
    by_cases hi : i ∈ vs
    · rw [wipe_set hi]
    · have e : i = j := by
        rcases List.mem_cons.mp h with e | e
        · exact e
        · exact absurd e hi
      subst e
      have gen : ∀ (ws : List Nat) (τ : L2.St), i ∉ ws → (wipe (τ.set i v) ws).set i none = (wipe τ ws).set i none := fun ws => by
        induction ws with
        | nil => intro τ _; show (τ.set i v).set i none = τ.set i none; rw [List.set_set]
        | cons w ws ih =>
          intro τ hw
          have h1 : i ≠ w := fun e => hw (by simp [e])
          have h2 : i ∉ ws := fun e => hw (by simp [e])
          show ((wipe (τ.set i v) ws).set w none).set i none = ((wipe τ ws).set w none).set i none
          rw [List.set_comm _ _ h1.symm, ih τ h2, List.set_comm _ _ h1]
      exact gen vs σ hi
theorem wipe_wipe {σ : L2.St} : ∀ vs : List Nat, wipe (wipe σ vs) vs = wipe σ vs := fun vs => by
  have gen : ∀ (ws : List Nat), (∀ w ∈ ws, w ∈ vs) → wipe (wipe σ ws) vs = wipe σ vs := fun ws => by
    induction ws with
    | nil => intro _; rfl
    | cons w ws ih =>
      intro h
      show wipe ((wipe σ ws).set w none) vs = wipe σ vs
      rw [wipe_set (h w (by simp)), ih fun u hu => h u (by simp [hu])]
  exact gen vs fun _ h => h
theorem gNs_go {H : Hp} : ∀ {xs : List (Nat × Str)} {ds : List D} {vs : List V} {σd : DSt} {σ : L2.St} {Q : L2.St → Hp → Prop}, ds.length = xs.length → RelDs c.K H ds vs → RelS c.K H σd σ →
    (∀ σ', RelS c.K H ((xs.zip ds).foldl (fun σ p => σ.set p.1.1 (some p.2)) σd) σ' → (∀ ws : List Nat, (∀ p ∈ xs, p.1 ∈ ws) → wipe σ' ws = wipe σ ws) → Q σ' H) → gNs xs vs σ H Q
  | [], [], _, σd, σ, Q, _, r, rs, k => by
    cases r.nil_of
    exact ⟨rfl, k σ rs fun _ _ => rfl⟩
  | p :: xs, d :: ds, _, σd, σ, Q, hl, ⟨v, w, e, h, r⟩, rs, k => by
    subst e
    refine ⟨v, w, rfl, ?_⟩
    refine gNs_go (xs := xs) (ds := ds) (by simpa using hl) r (rs.set h) fun σ' r' hw => k σ' r' fun ws hm => ?_
    rw [hw ws fun q hq => hm q (by simp [hq]), wipe_set (hm p (by simp))]
  | [], _ :: _, _, _, _, _, hl, _, _, _ => by simp at hl
  | _ :: _, [], _, _, _, _, hl, _, _, _ => by simp at hl
/-- a value comes to a target -/
theorem gOf_go {tg : Tg} {d : D} {v : V} {H : Hp} {σd : DSt} {σ : L2.St} {k : DSt → Prop} {Q : L2.St → Hp → Prop} {tup : Bool}
    (rd : (tup = false ∧ RelD c.K H d v) ∨ (tup = true ∧ ∃ es a vs, d = .tup es ∧ v = .ref a ∧ SqT c.K H a vs ∧ RelDs c.K H es vs)) (ht : tup = true → ∃ xs, tg = .tup xs) (rs : RelS c.K H σd σ) (b : bindT tg d σd k)
    (q : ∀ σd' σ', k σd' → RelS c.K H σd' σ' → (∀ ws : List Nat, (∀ i ∈ tg.ixs, i ∈ ws) → wipe σ' ws = wipe σ ws) → Q σ' H) : gOf c.K tg v σ H Q := by
  cases tg with
  | name i x =>
    rcases rd with ⟨_, rd⟩ | ⟨e, _⟩
    · exact q _ _ b (rs.set rd) fun ws hm => wipe_set (hm i (by simp [Tg.ixs]))
    · obtain ⟨xs, z⟩ := ht e
      cases z
  | tup xs =>
    obtain ⟨es, a, vs, rfl, rfl, h, r⟩ : ∃ es a vs, d = .tup es ∧ v = .ref a ∧ SqT c.K H a vs ∧ RelDs c.K H es vs := by
      rcases rd with ⟨_, rd⟩ | ⟨_, h⟩
      · cases d <;> try exact b.elim
        obtain ⟨a, vs, e, h, r⟩ := rd
        exact ⟨_, a, vs, rfl, e, h.sqt, r⟩
      · exact h
    obtain ⟨hl, b⟩ := b
    refine ⟨a, vs, rfl, h, by rw [r.length]; exact hl, ?_⟩
    exact gNs_go hl r rs fun σ' r' hw => q _ _ b r' fun ws hm => hw ws fun p hp => hm p.1 (List.mem_map.mpr ⟨p, hp, rfl⟩)
theorem names_each {env : Env} : ∀ {es : List Expr}, (∀ e ∈ es, ∃ x p, e = .Name x p) → (assignEach es env).length = es.length ∧ (assignEach es env).findIdx? (·.1) = none
  | [], _ => ⟨rfl, rfl⟩
  | e :: es, h => by
    obtain ⟨x, p, rfl⟩ := h e (by simp)
    obtain ⟨h1, h2⟩ := names_each (env := env) (es := es) fun e he => h e (by simp [he])
    have e1 : assignEach (.Name x p :: es) env = (false, assign (.Name x p) env) :: assignEach es env := rfl
    rw [e1]
    refine ⟨by simp [h1], ?_⟩
    rw [List.findIdx?_cons]
    simp [h2]
/-- where names may be stored -/
def StoreOk (X : Cx) (i : Nat) (x : Str) : Prop := X.N[i]? = some x ∧ Loc X.env.scope x ∧ (X.fn x = true ∨ X.env.scope.names.lookup x = some .local)
inductive NamesAre (X : Cx) : List (Nat × Str) → List Expr → Prop where
  | nil : NamesAre X [] []
  | cons {i : Nat} {x : Str} {p : Pos} {xs : List (Nat × Str)} {es : List Expr} (h : StoreOk X i x) (r : NamesAre X xs es) : NamesAre X ((i, x) :: xs) (.Name x p :: es)
theorem NamesAre.pgs (hN : X.N.Nodup) : ∀ {xs : List (Nat × Str)} {es : List Expr}, NamesAre X xs es → PGs X es (gNs xs)
  | _, _, .nil => pgs_nil
  | _, _, .cons h r => pgs_cons (pg_name hN h.1 h.2.1 h.2.2) (NamesAre.pgs hN r) rfl
theorem NamesAre.names : ∀ {xs : List (Nat × Str)} {es : List Expr}, NamesAre X xs es → (∀ e ∈ es, ∃ x p, e = .Name x p) ∧ es.length = xs.length
  | _, _, .nil => ⟨by simp, rfl⟩
  | _, _, .cons h r => by
    obtain ⟨h1, h2⟩ := NamesAre.names r
    exact ⟨fun e he => (List.mem_cons.mp he).elim (fun z => ⟨_, _, z⟩) (h1 e), by simp [h2]⟩
inductive TgIs (X : Cx) : Tg → Expr → Prop where
  | name {i : Nat} {x : Str} {p : Pos} (h : StoreOk X i x) : TgIs X (.name i x) (.Name x p)
  | tup {xs : List (Nat × Str)} {es : List Expr} {k : Nat} {p : Pos} (h : NamesAre X xs es) : TgIs X (.tup xs) (.Tuple es k p)
theorem TgIs.pg (hc : X.calm = true) (hN : X.N.Nodup) {tg : Tg} {e : Expr} (h : TgIs X tg e) : PG X e (gOf X.K tg) := by
  cases h with
  | name h => exact pg_name hN h.1 h.2.1 h.2.2
  | tup h =>
    obtain ⟨h1, h2⟩ := h.names
    obtain ⟨h3, h4⟩ := names_each (env := X.env) h1
    exact pg_tup hc (h.pgs hN) (by rw [h3, h2]) h4

theorem RelA.lst {A : AH} {H : Hp} {a : Addr} {ds : List D} {vs : List V} (r : RelA c A H) (m : Mono H (L2.upd H a (.lst vs))) (h : RelDs c.K (L2.upd H a (.lst vs)) ds vs) : RelA c (Py.put A a (.lst ds)) (L2.upd H a (.lst vs)) := r.put m ⟨vs, upd_same, h⟩
/-! ### list comprehensions -/
def notSet : Expr → Bool
  | .Set .. => false
  | _ => true
theorem noFold {env : Env} (h : notSet e = true) (x : Value) : foldedSetIterable e env x = pure x := by
  cases e <;> first | rfl | cases h
theorem pts_of {X : Cx} {cs : List Expr} {ecs : Es} (h : (cs = [] ∧ ecs = .nil) ∨ ∃ e ec, cs = [e] ∧ ecs = .cons ec .nil ∧ PT X e (lT c (evT G ec) W)) : PTs X cs (lT c (evC G ecs) W) := by
  rcases h with ⟨rfl, rfl⟩ | ⟨e, ec, rfl, rfl, h⟩
  · refine ⟨fun pins s σ H Q I q => pts_nil.run pins s σ H Q I ?_⟩
    obtain ⟨σd, A, Xd, Qd, rs, ra, t, f, fw⟩ := q
    exact f true A H t .refl ra
  · exact ⟨fun pins s σ H Q I q => (pts_one h).run pins s σ H Q I q⟩
def noW : WX := fun _ _ _ _ => False
theorem noW_fol {H : Hp} {σ : L2.St} : FolW c H (fun cl d H' => noW cl d σ H') noX := fun n A' C H' h _ _ _ => h.elim
inductive FzN (Q : L2.St → Hp → Prop) : L2.St → Hp → Prop
  | here {σ : L2.St} {H : Hp} : Q σ H → FzN Q σ H
  | step {σ : L2.St} {H : Hp} {p : Addr} {u : HO} : Mut (some u) → H p = some u → (∀ o, FzN Q σ (L2.upd H p (.frz o u))) → FzN Q σ H
theorem FzN.of {Q : L2.St → Hp → Prop} {σ : L2.St} {i : Nat} {v : V} {H : Hp} (h : FzS (fun x H1 => Q (σ.set i (some x)) H1) v H) : FzN Q (σ.set i (some v)) H := by
  induction h with
  | here q => exact .here q
  | step mu e _ ih => exact .step mu e ih
theorem PS.fzN {X : Cx} {st : Stmt} {t : TS} (h : PS X st t) : PS X st (fun D σ H => t { D with nx := FzN D.nx } σ H) := ⟨fun pins s σ H D I q => thn (h.run pins s σ H _ I q) fun f s' z => by
  cases f with
  | next =>
    obtain ⟨σ', H', I', q⟩ := z
    show ∃ σ' H', _
    induction q with
    | here q => exact ⟨_, _, I', q⟩
    | step mu e _ ih =>
      obtain ⟨o, I2⟩ := I'.lock e mu
      exact ih o I2
  | _ => exact z⟩
theorem rem_same {A : AH} {a : Addr} : rem A a a = none := by unfold rem; simp
theorem rem_sub {A : AH} {a : Addr} : Sub (rem A a) A := fun b o e => by
  unfold rem at e
  split at e
  · cases e
  · exact e
theorem Fol.outL {H : Hp} {Q : VK} {Qd : Dk} {A : AH} {L : Addr} (f : Fol c H Q Qd) (q : outL L A Qd) (ra : RelA c A H) : FzS Q (.ref L) H := by
  rw [outL_eq] at q
  rcases q with q | ⟨ds, e, q⟩
  · exact .here (f.here q ra rfl)
  · obtain ⟨vs, h, r⟩ := ra _ _ e
    refine .step (u := .lst vs) trivial h fun o => .here ?_
    have m : Mono H (L2.upd H L (.frz o (.lst vs))) := Mono.frz h trivial
    exact f (.fl ds) (rem A L) _ _ q m (frz_rel (rem_sub.rel ra) rem_same m) ⟨L, vs, rfl, .inl ⟨o, upd_same⟩, r.mono m⟩
theorem Fol.outD {H : Hp} {Q : VK} {Qd : Dk} {A : AH} {L : Addr} (f : Fol c H Q Qd) (q : outD L A Qd) (ra : RelA c A H) : FzS Q (.ref L) H := by
  rw [outD_eq] at q
  rcases q with q | ⟨kvs, e, q⟩
  · exact .here (f.here q ra rfl)
  · obtain ⟨ws, h, r⟩ := ra _ _ e
    refine .step (u := .dK ws) trivial h fun o => .here ?_
    have m : Mono H (L2.upd H L (.frz o (.dK ws))) := Mono.frz h trivial
    exact f (.fd _ _) (rem A L) _ _ q m (frz_rel (rem_sub.rel ra) rem_same m) ⟨L, ws, rfl, ⟨o, upd_same⟩, r.keys, (r.mono m).vals⟩
theorem lc_lift (hK : X.K = c.K) {tg : Tg} {it : I} {elt : E} {cs : Es} {own : List (Str × Nat)} {tup : Bool} (ht : tup = true → ∃ xs, tg = .tup xs) (hown : ∀ i ∈ tg.ixs, i ∈ own.map (·.2)) {σ : L2.St} {H : Hp} {Q Q' : VK} (hQ : ∀ v H, FzS Q v H → Q' v H) (h : lE c (ev G (.lc elt tg it cs own)) W σ H Q) :
    tLc (lI c tup (evI G it) W) (gOf X.K tg) (lT c (evC G cs) noW) (lE c (ev G elt) noW) (own.map (·.2)) σ H Q' := by
  obtain ⟨σd, A, Xd, Qd, rs, ra, t, f, fw⟩ := h
  refine ⟨σd, A, Xd, _, rs, ra, t, fun ds Gd A1 J H1 q1 m1 ra1 ix L hL => ?_, fw⟩
  have q2 := q1 L (RelA_none ra1 hL)
  have mL := Mono.fresh (o := .lst []) hL
  refine ⟨fun i m H2 => m = ds.length - i ∧ i ≤ ds.length ∧ ∃ A2, Mono H1 H2 ∧ RelA c A2 H2 ∧ lcR Gd tg (fun σ' A' R => evC G cs σ' A' noX R) (fun σ' A' R => (ev2 G elt).1 σ' A' noX R) (wipeD σd own) L (fun A2 => outL L A2 Qd) (ds.drop i) A2,
    ⟨ds.length, by simp, Nat.zero_le _, _, mL, RelA.lst (ds := []) ra1 mL rfl, q2⟩, ?_⟩
  rintro i m H2 ⟨rfl, hi, A2, m2, ra2, q⟩
  by_cases hlt : i < ds.length
  · obtain ⟨d, ed⟩ : ∃ d, ds[i]? = some d := ⟨_, List.getElem?_eq_getElem hlt⟩
    have e1 : ds.drop i = d :: ds.drop (i + 1) := by
      rw [List.drop_eq_getElem_cons hlt]
      rw [List.getElem?_eq_getElem hlt] at ed
      cases ed
      rfl
    rw [e1, lcR_cons] at q
    obtain ⟨hg, q⟩ := q
    obtain ⟨go, yl⟩ := (ix i H2 A2 m2 ra2 hg).1 d ed
    refine .inr ⟨go, fun H' => ∃ A2, Mono H1 H' ∧ RelA c A2 H' ∧ lcR Gd tg (fun σ' A' R => evC G cs σ' A' noX R) (fun σ' A' R => (ev2 G elt).1 σ' A' noX R) (wipeD σd own) L (fun A2 => outL L A2 Qd) (ds.drop (i + 1)) A2,
      fun H' p => ⟨ds.length - (i + 1), by omega, rfl, hlt, p⟩, fun x H3 y => ?_⟩
    obtain ⟨m3, ra3, rd⟩ := yl x H3 y
    have m13 := m1.trans (m2.trans m3)
    rw [hK]
    refine gOf_go rd ht ((rs.mono m13).wipe own) q fun σd' σ' k r' hw => ⟨?_, ?_⟩
    · rw [hw _ hown, wipe_wipe]
    · refine ⟨σd', A2, noX, _, r', ra3, k, fun bb A4 H4 q4 m4 ra4 => ?_, noW_fol⟩
      cases bb with
      | true =>
        rw [if_pos rfl]
        refine ⟨σd', A4, noX, _, r'.mono m4, ra4, q4, fun y A5 w H5 q5 m5 ra5 rw' => ?_, noW_fol⟩
        dsimp only at q5
        split at q5
        · rename_i acc e5
          obtain ⟨ws, h5, r5⟩ := ra5 _ _ e5
          have m6 := Mono.lst (o := .lst (ws ++ [w])) h5
          refine ⟨ws, h5, by rw [r5.length]; exact q5.1, _, ((((m2.trans m3).trans m4).trans m5).trans m6), RelA.lst ra5 m6 ((r5.app (.one rw')).mono m6), q5.2⟩
        · exact q5.elim
      | false =>
        rw [if_neg Bool.false_ne_true]
        exact ⟨A4, (m2.trans m3).trans m4, ra4, q4⟩
  · have e1 : i = ds.length := by omega
    subst e1
    rw [List.drop_length, lcR_nil] at q
    exact .inl ⟨(ix _ H2 A2 m2 ra2 q.1).2 rfl, hQ _ _ ((f.from (m1.trans m2)).outL q.2 ra2)⟩
theorem s_lc (hK : X.K = c.K) (hc : X.calm = true) (hN : X.N.Nodup) {tg iter elt : Expr} {cs : List Expr} {scope : Scope} {etg : Tg} {eit : I} {eelt : E} {ecs : Es} {own : List (Str × Nat)} {tup : Bool} (ht : tup = true → ∃ xs, etg = .tup xs) (hown : ∀ i ∈ etg.ixs, i ∈ own.map (·.2))
    (hi : PI X tg iter (lI c tup (evI G eit) W)) (ok : BlkOk X.N X.env.scope scope own)
    (hg : ∀ (s : Shared) (H : Hp) (C : Addr) (cl : List (Str × Addr)) (fp : List Addr), TgIs (X.blk s H scope (compEnvC scope cl C X.env) fp) etg tg)
    (hcs : ∀ (s : Shared) (H : Hp) (C : Addr) (cl : List (Str × Addr)) (fp : List Addr), PTs (X.blk s H scope (compEnvC scope cl C X.env) fp) cs (lT c (evC G ecs) noW))
    (he : ∀ (s : Shared) (H : Hp) (C : Addr) (cl : List (Str × Addr)) (fp : List Addr), PE (X.blk s H scope (compEnvC scope cl C X.env) fp) elt (lE c (ev G eelt) noW)) (hs : notSet iter = true) :
    PE X (.ListComp elt [⟨tg, iter, cs, 0⟩] scope pos) (lE c (ev G (.lc eelt etg eit ecs own)) W) :=
  PE.imp (PE.fz (pe_lc hc hN hi ok (fun s H C cl fp => TgIs.pg (X := X.blk s H scope (compEnvC scope cl C X.env) fp) hc hN (hg s H C cl fp)) hcs he (noFold hs))) fun _ _ _ h => lc_lift hK ht hown (fun _ _ q => q) h
/-- name = [..] on one line -/
theorem s_setLc (hK : X.K = c.K) (hc : X.calm = true) (hN : X.N.Nodup) {i : Nat} {y : Str} {py spos : Pos} (hy : X.N[i]? = some y) (hyl : X.env.scope.names.lookup y = some .local) {tg iter elt : Expr} {cs : List Expr} {scope : Scope} {etg : Tg} {eit : I} {eelt : E} {ecs : Es} {own : List (Str × Nat)} {tup : Bool}
    (hsw : swapsWith (.ListComp elt [⟨tg, iter, cs, 0⟩] scope pos) (some (.Name y py)) spos.line X.env = pure true) (ht : tup = true → ∃ xs, etg = .tup xs) (hown : ∀ i ∈ etg.ixs, i ∈ own.map (·.2))
    (hi : PI X tg iter (lI c tup (evI G eit) W)) (ok : BlkOk X.N X.env.scope scope own)
    (hg : ∀ (s : Shared) (H : Hp) (C : Addr) (cl : List (Str × Addr)) (fp : List Addr), TgIs (X.blk s H scope (compEnvC scope cl C X.env) fp) etg tg)
    (hcs : ∀ (s : Shared) (H : Hp) (C : Addr) (cl : List (Str × Addr)) (fp : List Addr), PTs (X.blk s H scope (compEnvC scope cl C X.env) fp) cs (lT c (evC G ecs) noW))
    (he : ∀ (s : Shared) (H : Hp) (C : Addr) (cl : List (Str × Addr)) (fp : List Addr), PE (X.blk s H scope (compEnvC scope cl C X.env) fp) elt (lE c (ev G eelt) noW)) (hs : notSet iter = true) :
    PS X (.Assign [.Name y py] (.ListComp elt [⟨tg, iter, cs, 0⟩] scope pos) spos) (tAsg (lE c (ev G (.lc eelt etg eit ecs own)) W) (gName i)) :=
  PS.imp (PS.fzN (ps_setLc hc hN hy hyl hsw hi ok (fun s H C cl fp => TgIs.pg (X := X.blk s H scope (compEnvC scope cl C X.env) fp) hc hN (hg s H C cl fp)) hcs he (noFold hs))) fun D σ H h => lc_lift hK ht hown (Q' := fun x H1 => FzN D.nx (σ.set i (some x)) H1) (fun v H q => FzN.of q) h

/-! ### list(range ..), tuple(range ..) -/
theorem rg_rel {K : PySem.W.Frag} {H : Hp} {lo : Int} {n : Nat} : RelDs K H (rngD lo n) ((List.range n).map fun i => V.int (lo + (i : Nat))) := by
  refine RelDs.mk (by simp [rngD]) fun i d v e1 e2 => ?_
  obtain ⟨hi, rfl⟩ := rng_get e1
  rw [List.getElem?_map, List.getElem?_range hi] at e2
  cases e2
  rfl
/-! ### statements -/
def FolS (c : RC) (H : Hp) (Q : L2.St → Hp → Prop) (Qd : DSt → AH → Prop) : Prop := ∀ σd A' σ' H', Qd σd A' → Mono H H' → RelA c A' H' → RelS c.K H' σd σ' → Q σ' H'
def FolE (c : RC) (H : Hp) (W : WX) (Xd : DSt → Str → AH → Prop) : Prop := ∀ σd n A' C σ' H', Xd σd n A' → c.cl n = some C → Mono H H' → RelA c A' H' → RelS c.K H' σd σ' → W (.ref C) none σ' H'
def lS (c : RC) (t : DEnds → DSt → AH → Prop) (W : WX) : TS := fun D σ H => ∃ σd A Z, RelS c.K H σd σ ∧ RelA c A H ∧ t Z σd A ∧ FolS c H D.nx Z.nx ∧ Fol c H D.rt Z.rt ∧ FolS c H D.bk Z.bk ∧ FolS c H D.ct Z.ct ∧ FolE c H W Z.ex
theorem FolS.from {H H1 : Hp} {Q : L2.St → Hp → Prop} {Qd : DSt → AH → Prop} (f : FolS c H Q Qd) (m : Mono H H1) : FolS c H1 Q Qd := fun d A v H' q m' ra r => f d A v H' q (m.trans m') ra r
theorem FolE.from {H H1 : Hp} {Xd : DSt → Str → AH → Prop} (f : FolE c H W Xd) (m : Mono H H1) : FolE c H1 W Xd := fun d n A C v H' q cl m' ra r => f d n A C v H' q cl (m.trans m') ra r
theorem FolE.at {H : Hp} {Xd : DSt → Str → AH → Prop} {σd : DSt} {σ : L2.St} (f : FolE c H W Xd) (rs : RelS c.K H σd σ) : FolW c H (fun cl d H' => W cl d σ H') (Xd σd) := fun n A C H' q cl m ra => f σd n A C σ H' q cl m ra (rs.mono m)
theorem st_asg {i : Nat} {x : Str} {p : Pos} (hN : X.N.Nodup) (h : StoreOk X i x) (he : PE X e (lE c (ev G ea) W)) (hs : swapsWith e (some (.Name x p)) pos.line X.env = pure false) : PS X (.Assign [.Name x p] e pos) (lS c (evS G (.asg i x ea)) W) := by
  refine PS.imp (ps_set (i := i) hN h.1 h.2.1 he hs h.2.2) fun D σ H h => ?_
  obtain ⟨σd, A, Z, rs, ra, t, n, r, b, k, fe⟩ := h
  exact lE_go rs .refl ra (fe.at rs) t fun d A1 v H1 q1 m1 ra1 rd => n _ _ _ _ q1 m1 ra1 ((rs.mono m1).set rd)
/-- the same where the list comes by a comprehension -/
theorem st_asgLc {i : Nat} {x : Str} {s : Stmt} (h : PS X s (tAsg (lE c (ev G ea) W) (gName i))) : PS X s (lS c (evS G (.asg i x ea)) W) := by
  refine PS.imp h fun D σ H h => ?_
  obtain ⟨σd, A, Z, rs, ra, t, n, r, b, k, fe⟩ := h
  exact lE_go rs .refl ra (fe.at rs) t fun d A1 v H1 q1 m1 ra1 rd => n _ _ _ _ q1 m1 ra1 ((rs.mono m1).set rd)
theorem st_exp (he : PE X e (lE c (ev G ea) W)) (hs : swapsWith e none pos.line X.env = pure false) : PS X (.Expr e pos) (lS c (evS G (.exp ea)) W) := by
  refine PS.imp (ps_expr he hs) fun D σ H h => ?_
  obtain ⟨σd, A, Z, rs, ra, t, n, r, b, k, fe⟩ := h
  exact lE_go rs .refl ra (fe.at rs) t fun d A1 v H1 q1 m1 ra1 rd => n _ _ _ _ q1 m1 ra1 (rs.mono m1)
theorem st_ret (he : PE X e (lE c (ev G ea) W)) : PS X (.Return (some e) pos) (lS c (evS G (.ret ea)) W) := by
  refine PS.imp (ps_ret he) fun D σ H h => ?_
  obtain ⟨σd, A, Z, rs, ra, t, n, r, b, k, fe⟩ := h
  exact lE_go rs .refl ra (fe.at rs) t r
theorem st_ret0 : PS X (.Return none pos) (lS c (evS G .ret0) W) := by
  refine PS.imp ps_retN fun D σ H h => ?_
  obtain ⟨σd, A, Z, rs, ra, t, n, r, b, k, fe⟩ := h
  exact r.here t ra rfl
theorem st_pass : PS X (.Pass pos) (lS c (evS G .pass) W) := by
  refine PS.imp ps_pass fun D σ H h => ?_
  obtain ⟨σd, A, Z, rs, ra, t, n, r, b, k, fe⟩ := h
  exact n _ _ _ _ t .refl ra rs
theorem st_brk : PS X (.Break pos) (lS c (evS G .brk) W) := by
  refine PS.imp ps_break fun D σ H h => ?_
  obtain ⟨σd, A, Z, rs, ra, t, n, r, b, k, fe⟩ := h
  exact b _ _ _ _ t .refl ra rs
theorem st_cnt : PS X (.Continue pos) (lS c (evS G .cnt) W) := by
  refine PS.imp ps_continue fun D σ H h => ?_
  obtain ⟨σd, A, Z, rs, ra, t, n, r, b, k, fe⟩ := h
  exact k _ _ _ _ t .refl ra rs
theorem lS_go {t : DEnds → DSt → AH → Prop} {D : Ends} {σ : L2.St} {H H1 : Hp} {σd : DSt} {A : AH} {Z : DEnds} (rs : RelS c.K H1 σd σ) (m : Mono H H1) (ra : RelA c A H1) (h : t Z σd A) (n : FolS c H1 D.nx Z.nx) (r : Fol c H1 D.rt Z.rt) (b : FolS c H1 D.bk Z.bk) (k : FolS c H1 D.ct Z.ct) (fe : FolE c H1 W Z.ex) : lS c t W D σ H1 :=
  ⟨σd, A, Z, rs, ra, h, n, r, b, k, fe⟩
/-- what is said of the plain state alone -/
theorem ss_wipe {ws : List Nat} {ss : List Stmt} {ess : Ss} (h2 : PSs X ss (lS c (evSs G ess) W)) : PSs X ss (lS c (evSs G (.cons (.wipe ws) ess)) W) := by
  refine PSs.imp h2 fun D σ H h => ?_
  obtain ⟨σd, A, Z, rs, ra, t, n, r, b, k, fe⟩ := h
  exact ⟨_, A, Z, RelS.wipN ws rs, ra, t, n, r, b, k, fe⟩
theorem ss_frz {i : Nat} {ss : List Stmt} {ess : Ss} (h2 : PSs X ss (lS c (evSs G ess) W)) : PSs X ss (lS c (evSs G (.cons (.frz i) ess)) W) := by
  refine ⟨fun pins s σ H DD I h => ?_⟩
  obtain ⟨σd, A, Z, rs, ra, t, n, r, b, k, fe⟩ := h
  have t : evS G (.frz i) (Z.then_ fun σ A => evSs G ess Z σ A) σd A := t
  simp only [evS] at t
  split at t
  · rename_i p ep
    obtain ⟨v, ev, rv⟩ := rs.2 i _ ep
    cases rv
    have go : ∀ (u : HO) (d : D), Mut (some u) → H p = some u → (∀ (o : Obj), Mono H (L2.upd H p (.frz o u)) → RelD c.K (L2.upd H p (.frz o u)) d (.ref p)) → evSs G ess Z (σd.set i (some d)) (rem A p) → wpAny (model X.prog X.w) X.A (execs ss X.env) (SP X pins DD) X.xe s := fun u d mu hu hr t => by
      obtain ⟨o, I2⟩ := I.lock hu mu
      have m := Mono.frz (o := o) hu mu
      refine h2.run pins s σ _ DD I2 ⟨σd.set i (some d), rem A p, Z, ?_, frz_rel (rem_sub.rel ra) rem_same m, t, n.from m, r.from m, b.from m, k.from m, fe.from m⟩
      have q := (rs.mono m).set (i := i) (hr o m)
      have e2 : σ.set i (some (.ref p)) = σ := by
        apply List.ext_getElem?
        intro j
        by_cases hj : i = j
        · subst hj
          have hl := (List.getElem?_eq_some_iff.mp ev).1
          rw [List.getElem?_set_self hl, ev]
        · rw [List.getElem?_set_ne hj]
      rwa [e2] at q
    split at t
    · rename_i ds e
      obtain ⟨vs, h, q⟩ := ra _ _ e
      exact go (.lst vs) (.fl ds) trivial h (fun o m => ⟨p, vs, rfl, .inl ⟨o, upd_same⟩, q.mono m⟩) t
    · rename_i kvs e
      obtain ⟨ws, h, q⟩ := ra _ _ e
      exact go (.dK ws) (.fd _ _) trivial h (fun o m => ⟨p, ws, rfl, ⟨o, upd_same⟩, q.keys, (q.mono m).vals⟩) t
    · exact t.elim
  · exact t.elim
theorem ss_nil : PSs X [] (lS c (evSs G .nil) W) := by
  refine PSs.imp pss_nil fun D σ H h => ?_
  obtain ⟨σd, A, Z, rs, ra, t, n, r, b, k, fe⟩ := h
  exact n _ _ _ _ t .refl ra rs
theorem ss_cons {s : Stmt} {ss : List Stmt} {es : S} {ess : Ss} (h1 : PS X s (lS c (evS G es) W)) (h2 : PSs X ss (lS c (evSs G ess) W)) : PSs X (s :: ss) (lS c (evSs G (.cons es ess)) W) := by
  refine PSs.imp (pss_cons h1 h2) fun D σ H h => ?_
  obtain ⟨σd, A, Z, rs, ra, t, n, r, b, k, fe⟩ := h
  refine ⟨σd, A, _, rs, ra, t, fun σd' A' σ' H' q m ra' rs' => ?_, r, b, k, fe⟩
  exact ⟨σd', A', Z, rs', ra', q, n.from m, r.from m, b.from m, k.from m, fe.from m⟩
theorem st_if {d : Expr} {ed : E} {aa bb : List Stmt} {ea eb : Ss} (hd : PT X d (lT c (evT G ed) W)) (ha : PSs X aa (lS c (evSs G ea) W)) (hb : PSs X bb (lS c (evSs G eb) W)) : PS X (.If d aa bb pos) (lS c (evS G (.if_ ed ea eb)) W) := by
  refine PS.imp (ps_if hd ha hb) fun D σ H h => ?_
  obtain ⟨σd, A, Z, rs, ra, t, n, r, b, k, fe⟩ := h
  refine lT_go rs .refl ra (fe.at rs) t fun bt A1 H1 q1 m1 ra1 => ?_
  cases bt with
  | true => exact ⟨σd, A1, Z, rs.mono m1, ra1, q1, n.from m1, r.from m1, b.from m1, k.from m1, fe.from m1⟩
  | false => exact ⟨σd, A1, Z, rs.mono m1, ra1, q1, n.from m1, r.from m1, b.from m1, k.from m1, fe.from m1⟩
theorem st_whl {ws : List Nat} {d : Expr} {ed : E} {bb : List Stmt} {eb : Ss} (hp : PassesOwn (model X.prog X.w) X.A X.env X.xe) (hd : PT X d (lT c (evT G ed) W)) (hb : PSs X bb (lS c (evSs G eb) W)) : PS X (.While d bb [] pos) (lS c (evS G (.whl ed eb ws)) W) := by
  refine PS.imp (ps_while hp hd hb) fun D σ H h => ?_
  obtain ⟨σd, A, Z, rs, ra, ⟨n0, t⟩, n, r, b, k, fe⟩ := h
  refine ⟨fun m σ1 H1 => ∃ σd1 A1, Mono H H1 ∧ RelS c.K H1 σd1 σ1 ∧ RelA c A1 H1 ∧ whlR (fun σ A X Q => evT G ed σ A X Q) ws (fun Z σ A => evSs G eb Z σ A) Z m σd1 A1, ⟨n0, σd, A, .refl, rs, ra, t⟩, ?_⟩
  rintro m σ1 H1 ⟨σd1, A1, m1, rs1, ra1, t1⟩
  cases m with
  | zero =>
    rw [whlR_zero] at t1
    exact t1.elim
  | succ m =>
    rw [whlR_succ] at t1
    have rs1 := RelS.wipN ws rs1
    refine lT_go rs1 .refl ra1 ((fe.from m1).at rs1) t1 fun bt A2 H2 q2 m2 ra2 => ?_
    cases bt with
    | true =>
      rw [if_pos rfl]
      refine ⟨fun σ3 H3 => ∃ σd1 A1, Mono H H3 ∧ RelS c.K H3 σd1 σ3 ∧ RelA c A1 H3 ∧ whlR (fun σ A X Q => evT G ed σ A X Q) ws (fun Z σ A => evSs G eb Z σ A) Z m σd1 A1, fun σ3 H3 q => ⟨m, Nat.lt_succ_self _, q⟩, ?_⟩
      have m12 := m1.trans m2
      exact ⟨_, A2, _, rs1.mono m2, ra2, q2, fun σd3 A3 σ3 H3 q3 m3 ra3 rs3 => ⟨σd3, A3, m12.trans m3, rs3, ra3, q3⟩, r.from m12, n.from m12, fun σd3 A3 σ3 H3 q3 m3 ra3 rs3 => ⟨σd3, A3, m12.trans m3, rs3, ra3, q3⟩, fe.from m12⟩
    | false =>
      rw [if_neg Bool.false_ne_true]
      exact n _ _ _ _ q2 (m1.trans m2) ra2 (rs1.mono m2)
theorem st_for {ws : List Nat} (hK : X.K = c.K) (hc : X.calm = true) (hN : X.N.Nodup) {tg iter : Expr} {bb : List Stmt} {etg : Tg} {eit : I} {eb : Ss} {tup : Bool} (ht : tup = true → ∃ xs, etg = .tup xs) (hp : PassesOwn (model X.prog X.w) X.A X.env X.xe) (hi : PI X tg iter (lI c tup (evI G eit) W)) (hg : TgIs X etg tg) (hb : PSs X bb (lS c (evSs G eb) W)) (hs : notSet iter = true) :
    PS X (.For tg iter bb [] pos) (lS c (evS G (.for_ etg eit eb ws)) W) := by
  refine PS.imp (ps_for hp hc hi (hg.pg hc hN) hb (noFold hs)) fun D σ H h => ?_
  obtain ⟨σd, A, Z, rs, ra, t, n, r, b, k, fe⟩ := h
  refine ⟨σd, A, _, _, rs, ra, t, fun ds Gd A1 J H1 q1 m1 ra1 ix => ?_, fe.at rs⟩
  refine ⟨fun i m σ2 H2 => m = ds.length - i ∧ i ≤ ds.length ∧ ∃ σd2 A2, Mono H1 H2 ∧ RelS c.K H2 σd2 σ2 ∧ RelA c A2 H2 ∧ forR Gd etg ws (fun Z σ A => evSs G eb Z σ A) Z (ds.drop i) σd2 A2,
    ⟨ds.length, by simp, Nat.zero_le _, σd, A1, .refl, rs.mono m1, ra1, q1⟩, ?_⟩
  rintro i m σ2 H2 ⟨rfl, hi, σd2, A2, m2, rs2, ra2, q⟩
  by_cases hlt : i < ds.length
  · obtain ⟨d, ed⟩ : ∃ d, ds[i]? = some d := ⟨_, List.getElem?_eq_getElem hlt⟩
    have e1 : ds.drop i = d :: ds.drop (i + 1) := by
      rw [List.drop_eq_getElem_cons hlt]
      rw [List.getElem?_eq_getElem hlt] at ed
      cases ed
      rfl
    rw [e1, forR_cons] at q
    obtain ⟨hg', q⟩ := q
    obtain ⟨go, yl⟩ := (ix i H2 A2 m2 ra2 hg').1 d ed
    refine .inr ⟨go, fun σ3 H3 => ∃ σd2 A2, Mono H1 H3 ∧ RelS c.K H3 σd2 σ3 ∧ RelA c A2 H3 ∧ forR Gd etg ws (fun Z σ A => evSs G eb Z σ A) Z (ds.drop (i + 1)) σd2 A2,
      fun σ3 H3 p => ⟨ds.length - (i + 1), by omega, rfl, hlt, p⟩, fun x H3 y => ?_⟩
    obtain ⟨m3, ra3, rd⟩ := yl x H3 y
    have m13 := m1.trans (m2.trans m3)
    rw [hK]
    refine gOf_go rd ht (RelS.wipN ws (rs2.mono m3)) q fun σd' σ' k' r' hw => ?_
    exact ⟨σd', A2, _, r', ra3, k', fun σd4 A4 σ4 H4 q4 m4 ra4 rs4 => ⟨σd4, A4, (m2.trans m3).trans m4, rs4, ra4, q4⟩, r.from m13, n.from m13, fun σd4 A4 σ4 H4 q4 m4 ra4 rs4 => ⟨σd4, A4, (m2.trans m3).trans m4, rs4, ra4, q4⟩, fe.from m13⟩
  · have e1 : i = ds.length := by omega
    subst e1
    rw [List.drop_length, forR_nil] at q
    exact .inl ⟨(ix _ H2 A2 m2 ra2 q.1).2 rfl, n _ _ _ _ q.2 (m1.trans m2) ra2 (RelS.wipN ws rs2)⟩
theorem st_raise (hc : X.calm = true) (tk : Takes X W) {x m : Str} {j : Nat} {p p2 pos' : Pos} {C : Addr} {bmB : List Value} {B newId initId : String} (F : ExcBaseFacts B newId initId bmB) (q : PySem.W.excIn X.K C bmB newId = true) (gC : X.mg x = some (.ref C)) (kC : PySem.W.keepIn X.K (.ref C) = true) (r : Raises X (.ref C)) (hg : Gl X x)
    (hdb : (x == ("__debug__" : Str)) = false) (hcl : c.cl x = some C) : PS X (.Raise (some (.Call (.Name x p) [.Constant (.str m) j p2] [] pos')) none pos) (lS c (evS G (.raise x)) W) := by
  refine PS.imp (ps_raise hc tk (pmk_own F q gC kC r hg hdb)) fun D σ H h => ?_
  obtain ⟨σd, A, Z, rs, ra, t, n, r, b, k, fe⟩ := h
  exact fe _ _ _ _ _ _ t hcl .refl ra rs
end
end Py

namespace Py
open PySem PySem.Spec PyProof.Rows L2
theorem noI_tuple_add : typeLookup (.type "tuple") (dunderI "add") = pure none := by rw [typeLookup_type, builtinLookup_eq_fast]; kernel_rfl
section
variable {c : RC} {X : Cx} {W : WX} {G : GEnv} {a b e : Expr} {ea eb : E} {es : List Expr} {ees : Es} {pos : Pos}
open HT in
theorem iop_catN : OpR X (inplaceOp .Add) (rCatN X.K) := by
  intro pins s σ H x y v u Q I rx ry h
  obtain ⟨a, b, xs, ys, rfl, rfl, ha, hb, hz, q0, q1, q2⟩ := h
  cases rx
  cases ry
  obtain ⟨its, r1, p1, _⟩ := I.tuple ha
  obtain ⟨its2, r2, p2, _⟩ := I.tuple hb
  have hl1 := r1.length
  have hl2 := r2.length
  obtain ⟨⟨cls, dd, data, sl⟩, ho, hc, n, hd⟩ := id p1
  obtain ⟨⟨cls2, dd2, data2, sl2⟩, ho2, hc2, n2, hd2⟩ := id p2
  simp only at hc hd hc2 hd2
  subst hc hd hc2 hd2
  refine wpAny_inplaceOp_concat ⟨_, ho, rfl⟩ ⟨_, ho2, rfl⟩ noI_tuple_add noFill_tuple_add seq_tuple_add ?_
  by_cases hx : its = []
  · subst hx
    have hx' : xs = [] := by cases r1; rfl
    exact call_meets PySem.F.slot_tuple_add ⟨_, ho, rfl⟩ PySem.F.entry_tuple_add (PySem.F.args_tuple_add_2 _ _)
      (tuple_addW0 a b ([] : List Value).toArray its2.toArray n n2 dd dd2 sl sl2 (by simp)) ⟨ho, ho2, .ref b, H, I, rfl, q0 hx'⟩
  · have hx' : xs ≠ [] := fun z => hx (r1.nil_iff.mpr z)
    have e : its.toArray ++ its2.toArray = (its ++ its2).toArray := by simp
    by_cases hw : its2 = []
    · exact call_meets PySem.F.slot_tuple_add ⟨_, ho, rfl⟩ PySem.F.entry_tuple_add (PySem.F.args_tuple_add_2 _ _)
        (tuple_addW1 a b its.toArray its2.toArray n n2 dd dd2 sl sl2 (by simpa using hx) (by simp [hw])) ⟨ho, ho2, .ref a, H, I, rfl, q1 hx' (r2.nil_iff.mp hw)⟩
    · refine call_meets PySem.F.slot_tuple_add ⟨_, ho, rfl⟩ PySem.F.entry_tuple_add (PySem.F.args_tuple_add_2 _ _)
        (tuple_addW2 a b its.toArray its2.toArray n n2 dd dd2 sl sl2 (by simpa using hx) (by simpa using hw) (by rw [List.size_toArray, List.size_toArray]; omega)) ⟨ho, ho2, ?_⟩
      rw [e]
      exact laidT (h := s.heap) (t := s.toks) I (r1.append r2) (by rw [List.length_append]; exact hz) (q2 hx' fun z => hw (r2.nil_iff.mpr z))
/-- what += and its like may be on: no lists -/
def augOk (o : BOp) : Bool := match o with | .pow => false | _ => true
theorem i_add (hK : X.K = c.K) : OpR X (inplaceOp .Add) (lR2 c (rAug .add)) := by
  refine OpR.imp (iop_add.or (iop_add_str.or iop_catN)) fun x y H Q h => ?_
  obtain ⟨A, dx, dy, Qd, ra, rx, ry, r, f⟩ := h
  cases dx <;> cases dy <;> try exact r.elim
  · exact .inl ⟨_, _, rx, ry, f.here r ra rfl⟩
  · exact .inr (.inl ⟨_, _, rx, ry, r.1, f.here r.2 ra rfl⟩)
  · rename_i xs ys
    obtain ⟨a, vs, rfl, h1, r1⟩ := rx
    obtain ⟨b, ws, rfl, h2, r2⟩ := ry
    refine .inr (.inr ⟨a, b, vs, ws, rfl, rfl, by rw [hK]; exact h1.sqt, by rw [hK]; exact h2.sqt, by rw [r1.length, r2.length]; exact r.1, fun e => ?_, fun e1 e2 => ?_, fun e1 e2 => ?_⟩)
    · subst e
      have e1 : xs = [] := by have := r1.length; exact List.length_eq_zero_iff.mp (by simpa using this.symm)
      subst e1
      exact f.here (d := .tup ([] ++ ys)) r.2 ra ⟨b, ws, rfl, h2, r2⟩
    · subst e2
      have e3 : ys = [] := by have := r2.length; exact List.length_eq_zero_iff.mp (by simpa using this.symm)
      subst e3
      exact f.here (d := .tup (xs ++ [])) r.2 ra ⟨a, vs, rfl, h1, by rw [List.append_nil]; exact r1⟩
    · exact f.tup r.2 ra (r1.app r2)
theorem iop_mulW : OpR X (inplaceOp .Mult) (rI CMulW fun i j => .int (i * j)) := opI fun _ _ _ _ _ _ _ hc q => imul_int q hc.ok
theorem iop_fdivW : OpR X (inplaceOp .FloorDiv) (rI CDivW fun i j => .int (i / j)) := opI fun i j _ _ _ _ _ hc q => by
  have h1 : (0 : Int) < j := hc.1
  exact ifloordiv_int (by omega) (by rw [Int.fdiv_eq_ediv_of_nonneg i (by omega)]; exact q) (.inl (PyProof.noPylong_of_log2 hc.2))
theorem i_sub : OpR X (inplaceOp .Sub) (lR2 c (rAug .sub)) := by
  refine OpR.imp iop_sub fun x y H Q h => ?_
  obtain ⟨A, dx, dy, Qd, ra, rx, ry, r, f⟩ := h
  cases dx <;> cases dy <;> try exact r.elim
  exact ⟨_, _, rx, ry, f.here r ra rfl⟩
theorem i_mul : OpR X (inplaceOp .Mult) (lR2 c (rAug .mul)) := by
  refine OpR.imp iop_mulW fun x y H Q h => ?_
  obtain ⟨A, dx, dy, Qd, ra, rx, ry, r, f⟩ := h
  cases dx <;> cases dy <;> try exact r.elim
  exact ⟨_, _, rx, ry, r.1, f.here r.2 ra rfl⟩
theorem i_fdiv : OpR X (inplaceOp .FloorDiv) (lR2 c (rAug .fdiv)) := by
  refine OpR.imp iop_fdivW fun x y H Q h => ?_
  obtain ⟨A, dx, dy, Qd, ra, rx, ry, r, f⟩ := h
  cases dx <;> cases dy <;> try exact r.elim
  exact ⟨_, _, rx, ry, r.1, f.here r.2 ra rfl⟩
theorem i_mod : OpR X (inplaceOp .Mod) (lR2 c (rAug .mod)) := by
  refine OpR.imp iop_mod fun x y H Q h => ?_
  obtain ⟨A, dx, dy, Qd, ra, rx, ry, r, f⟩ := h
  cases dx <;> cases dy <;> try exact r.elim
  exact ⟨_, _, rx, ry, r.1, f.here r.2 ra rfl⟩
theorem i_op (hK : X.K = c.K) : ∀ o : BOp, augOk o = true → OpR X (inplaceOp (bopOp o)) (lR2 c (rAug o))
  | .add, _ => i_add hK | .sub, _ => i_sub | .mul, _ => i_mul | .fdiv, _ => i_fdiv | .mod, _ => i_mod
theorem st_aug (hK : X.K = c.K) {o : BOp} {i : Nat} {x : Str} {p : Pos} (hN : X.N.Nodup) (h : StoreOk X i x) (ho : augOk o = true) (he : PE X e (lE c (ev G ea) W)) : PS X (.AugAssign (.Name x p) (bopOp o) e pos) (lS c (evS G (.aug i x o ea)) W) := by
  refine PS.imp (ps_aug (i := i) hN h.1 h.2.1 he (ti := lR2 c (rAug o)) (i_op hK o ho) h.2.2) fun D σ H h => ?_
  obtain ⟨σd, A, Z, rs, ra, t, n, r, b, k, fe⟩ := h
  simp only [evS] at t
  split at t
  · rename_i d e1
    obtain ⟨v, ev, rv⟩ := rs.2 i d e1
    refine ⟨v, ev, ?_⟩
    refine lE_go rs .refl ra (fe.at rs) t fun y A1 w H1 q1 m1 ra1 ry => ?_
    refine ⟨A1, d, y, _, ra1, RelD.mono m1 _ _ rv, ry, ?_, fun z A2 u H2 q2 m2 ra2 rz => n _ _ _ _ q2 (m1.trans m2) ra2 ((rs.mono (m1.trans m2)).set rz)⟩
    exact q1
  · exact t.elim
theorem PSet.or {t t' : TSet} (h : PSet X t) (h' : PSet X t') : PSet X (fun o i v H Q => t o i v H Q ∨ t' o i v H Q) := by
  intro pins s σ H o i v ov iv u Q I ro ri rv q
  rcases q with q | q
  · exact h pins s σ H o i v ov iv u Q I ro ri rv q
  · exact h' pins s σ H o i v ov iv u Q I ro ri rv q
theorem subAssign {o i : Expr} {env : Env} {v : Value} (h : notSlice i = true) : assign (.Subscript o i pos) env v = (do
      let ov ← holding [v] (eval o env)
      let iv ← holding [v, ov] (eval i env)
      standAt pos
      holding [v, ov, iv] (setItem ov iv v)
      release [v, ov, iv] []) := by
  cases i <;> first | rfl | cases h
theorem st_sto (hu : X.A.units + 1 < cLine) {o i : Expr} {eo ei : E} {p : Pos} (ho : PE X o (lE c (ev G eo) W)) (hi : PE X i (lE c (ev G ei) W)) (he : PE X e (lE c (ev G ea) W)) (hn : notSlice i = true) (hs : swapsWithSole [.Subscript o i p] e pos.line X.env = pure false) (hw : swappedStores [.Subscript o i p] e X.env = pure none) :
    PS X (.Assign [.Subscript o i p] e pos) (lS c (evS G (.sto eo ei ea)) W) := by
  refine PS.imp (ps_asg he (pg_sub ho hi (PSet.or set_list (set_dict hu)) fun v => subAssign hn) hs hw rfl) fun D σ H h => ?_
  obtain ⟨σd, A, Z, rs, ra, t, n, r, b, k, fe⟩ := h
  refine lE_go rs .refl ra (fe.at rs) t fun d A1 v H1 q1 m1 ra1 rd => ?_
  refine lE_go rs m1 ra1 (fe.at rs) q1 fun x A2 w H2 q2 m2 ra2 rx => ?_
  refine lE_go rs (m1.trans m2) ra2 (fe.at rs) q2 fun kk A3 u H3 q3 m3 ra3 rk => ?_
  cases x <;> try exact q3.elim
  cases rx
  have m123 := (m1.trans m2).trans m3
  dsimp only at q3
  split at q3
  · rename_i ds e1
    obtain ⟨vs, h, q⟩ := ra3 _ _ e1
    split at q3
    · rename_i ki
      cases rk
      split at q3
      · rename_i j e2
        have m4 := Mono.lst (o := .lst (vs.set j v)) h
        refine .inl ⟨_, vs, _, j, rfl, rfl, h, by rw [q.length]; exact e2, ?_⟩
        exact n _ _ _ _ q3 (m123.trans m4) (RelA.lst ra3 m4 ((q.set (RelD.mono (m2.trans m3) _ _ rd) j).mono m4)) (rs.mono (m123.trans m4))
      · exact q3.elim
    · exact q3.elim
  · rename_i kvs e1
    obtain ⟨ws, h, q⟩ := ra3 _ _ e1
    split at q3
    · rename_i y ey
      cases dkey_rel ey rk
      have m4 : Mono H3 (L2.upd H3 _ (.dK (putK ws y v))) := Mono.at h fun _ _ z => nomatch z
      refine .inr ⟨_, _, rfl, .inl ⟨ws, y, h, rfl, by rw [q.length]; exact q3.1, rfl⟩, ?_⟩
      exact n _ _ _ _ q3.2 (m123.trans m4) (ra3.put m4 ⟨_, upd_same, (q.set y (RelD.mono (m2.trans m3) _ _ rd)).mono m4⟩) (rs.mono (m123.trans m4))
    · exact q3.elim
  · exact q3.elim
/-- a, b = e: a tuple that comes -/
theorem st_unp (hc : X.calm = true) (hK : X.K = c.K) {xs : List (Nat × Str)} {k : Nat} {p : Pos} (hN : X.N.Nodup) (h : NamesAre X xs es) (he : PE X e (lE c (ev G ea) W)) (hs : swapsWithSole [.Tuple es k p] e pos.line X.env = pure false) (hw : swappedStores [.Tuple es k p] e X.env = pure none) :
    PS X (.Assign [.Tuple es k p] e pos) (lS c (evS G (.unp xs ea)) W) := by
  obtain ⟨h1, h2⟩ := h.names
  obtain ⟨h3, h4⟩ := names_each (env := X.env) h1
  refine PS.imp (ps_asg he (pg_tup hc (NamesAre.pgs hN h) (n := xs.length) (by rw [h3, h2]) h4) hs hw rfl) fun D σ H h => ?_
  obtain ⟨σd, A, Z, rs, ra, t, n, r, b, k, fe⟩ := h
  refine lE_go rs .refl ra (fe.at rs) t fun d A1 v H1 q1 m1 ra1 rd => ?_
  cases d <;> try exact q1.elim
  obtain ⟨a, vs, rfl, h, q⟩ := rd
  refine ⟨a, vs, rfl, by rw [hK]; exact h.sqt, by rw [q.length]; exact q1.1, ?_⟩
  exact gNs_go (c := c) q1.1 q (rs.mono m1) fun σ' rs' _ => n _ _ _ _ q1.2 m1 ra1 rs'
/-- a, b = e1, e2 -/
theorem st_par2 (hc : X.calm = true) {i j : Nat} {x y : Str} {px py pt : Pos} {kt k2 pt2} {ees : Es} (hN : X.N.Nodup) (hi : X.N[i]? = some x) (hj : X.N[j]? = some y) (hij : i ≠ j)
    (hx : X.env.scope.names.lookup x = some .local) (hy : X.env.scope.names.lookup y = some .local) (ha : PA X [a, b] (lA c (evs G ees) W))
    (hw : swappedStores [.Tuple [.Name x px, .Name y py] kt pt] (.Tuple [a, b] k2 pt2) X.env = pure (some [x, y])) :
    PS X (.Assign [.Tuple [.Name x px, .Name y py] kt pt] (.Tuple [a, b] k2 pt2) pos) (lS c (evS G (.par [(i, x), (j, y)] ees)) W) := by
  refine PS.imp (ps_par hc hN hi hj hij hx hy ha hw) fun D σ H h => ?_
  obtain ⟨σd, A, Z, rs, ra, t, n, r, b, k, fe⟩ := h
  refine lA_go rs .refl ra (fe.at rs) t fun ds A1 vs H1 q1 m1 ra1 rd => ?_
  obtain ⟨hl, q⟩ := q1
  rcases ds with _ | ⟨d, _ | ⟨d2, _ | _⟩⟩ <;> try (simp at hl; done)
  obtain ⟨v, w, rfl, r1, r2⟩ := rd.two_of
  exact ⟨v, w, rfl, n _ _ _ _ q m1 ra1 (((rs.mono m1).set r1).set r2)⟩
theorem st_par3 (hc : X.calm = true) {i j l : Nat} {x y z : Str} {a b d : Expr} {px py pz pt : Pos} {kt k2 pt2} {ees : Es} (hN : X.N.Nodup) (hi : X.N[i]? = some x) (hj : X.N[j]? = some y) (hl : X.N[l]? = some z) (hij : i ≠ j) (hil : i ≠ l) (hjl : j ≠ l)
    (hx : X.env.scope.names.lookup x = some .local) (hy : X.env.scope.names.lookup y = some .local) (hz : X.env.scope.names.lookup z = some .local) (ha : PA X [a, b, d] (lA c (evs G ees) W))
    (hw : swappedStores [.Tuple [.Name x px, .Name y py, .Name z pz] kt pt] (.Tuple [a, b, d] k2 pt2) X.env = pure (some [x, y, z])) :
    PS X (.Assign [.Tuple [.Name x px, .Name y py, .Name z pz] kt pt] (.Tuple [a, b, d] k2 pt2) pos) (lS c (evS G (.par [(i, x), (j, y), (l, z)] ees)) W) := by
  refine PS.imp (ps_par3 hc hN hi hj hl hij hil hjl hx hy hz ha hw) fun D σ H h => ?_
  obtain ⟨σd, A, Z, rs, ra, t, n, r, b, k, fe⟩ := h
  refine lA_go rs .refl ra (fe.at rs) t fun ds A1 vs H1 q1 m1 ra1 rd => ?_
  obtain ⟨hl', q⟩ := q1
  rcases ds with _ | ⟨d1, _ | ⟨d2, _ | ⟨d3, _ | _⟩⟩⟩ <;> try (simp at hl'; done)
  obtain ⟨v, w, e, r1, rr⟩ := rd
  obtain ⟨v2, v3, e2, r2, r3⟩ := rr.two_of
  subst e e2
  exact ⟨v, v2, v3, rfl, n _ _ _ _ q m1 ra1 ((((rs.mono m1).set r1).set r2).set r3)⟩
end
end Py

namespace Py
open PySem PySem.Spec PyProof.Rows L2 HT
theorem adjust_rev (n : Nat) : Builtin.Slice.sliceAdjust none none (-1) (n : Int) = ((n : Int) - 1, -1) := by
  unfold Builtin.Slice.sliceAdjust
  rfl
theorem places_rev (n : Nat) : Builtin.Slice.slicePlaces ((n : Int) - 1) (-1) (-1) = n := by
  unfold Builtin.Slice.slicePlaces
  have h1 : ¬ ((-1 : Int) > 0) := by omega
  simp only [h1, if_false]
  by_cases h : (n : Int) - 1 > -1
  · rw [if_pos h, show (- -1 : Int) = 1 by decide, Int.ediv_one]
    omega
  · rw [if_neg h]
    omega
theorem pick_rev (xs : Array Value) : ((List.range xs.size).filterMap fun (m : Nat) => xs[(((xs.size : Int) - 1) + (m : Int) * (-1)).toNat]?).toArray = xs.toList.reverse.toArray := by
  have e : (fun (m : Nat) => xs[(((xs.size : Int) - 1) + (m : Int) * (-1)).toNat]?) = (fun k => xs[k]?) ∘ fun m => xs.size - 1 - m := by
    funext m
    have : (((xs.size : Int) - 1) + (m : Int) * (-1)).toNat = xs.size - 1 - m := by omega
    rw [this]
    rfl
  rw [e, ← List.filterMap_map, PySem.W.krv_range, List.filterMap_reverse, PySem.W.krv_all]
section
variable {prog : Program} {w : World} {A : Around} {E : Value → Shared → Prop} {s : Shared}
theorem sliceApplied_rev {sl : Addr} {vs : Value} {n : Nat} {Q : Int × Int × Nat → Shared → Prop} (hs : s.heap.IsSliceOf sl .none .none vs) (ps : IsPart vs (some (-1)))
    (h : Q ((n : Int) - 1, -1, n) s) : wpAny (model prog w) A (Builtin.Slice.sliceApplied (.ref sl) (pure (n : Int))) Q E s := by
  obtain ⟨os, hos, hcs, hds⟩ := id hs
  unfold Builtin.Slice.sliceApplied Builtin.Slice.sliceFields
  refine wpAny_bind (wpAny_bind (wpAny_field hos hds (x := .none) rfl (wpAny_bind (wpAny_field hos hds (x := .none) rfl (wpAny_bind (wpAny_field hos hds (x := vs) rfl (wpAny_pure ?_)))))))
  refine wpAny_bind (slicePart_ ps ?_)
  show wpAny _ _ (if ((-1 : Int) == 0) = true then _ else _) _ _ s
  rw [if_neg (by decide)]
  refine wpAny_bind (slicePart_none (wpAny_bind (slicePart_none (wpAny_bind (wpAny_pure ?_)))))
  show wpAny _ _ (match Builtin.Slice.sliceAdjust none none (-1) (n : Int) with | (lo, hi) => pure (lo, (-1 : Int), Builtin.Slice.slicePlaces lo hi (-1))) _ _ s
  rw [adjust_rev n]
  show wpAny _ _ (pure ((n : Int) - 1, (-1 : Int), Builtin.Slice.slicePlaces ((n : Int) - 1) (-1) (-1))) _ _ s
  rw [places_rev]
  exact wpAny_pure h
theorem getItem_tuple_rev {t sl : Addr} {items : Array Value} {vs : Value} {Q : Value → Shared → Prop} (ht : IsTup s.heap t items) (hs : s.heap.IsSliceOf sl .none .none vs) (ps : IsPart vs (some (-1)))
    (h : Q (.ref s.heap.objs.size) { s with heap := s.heap.push { cls := .type "tuple", data := .seq items.toList.reverse.toArray } })
    (hsz : items.size ≤ sizeLine) : wpAny (model prog w) A (getItem (.ref t) (.ref sl)) Q E s := by
  have htake : sizeOk (.seq items.toList.reverse.toArray) := by
    show items.toList.reverse.toArray.size ≤ sizeLine
    rw [List.size_toArray, List.length_reverse, Array.length_toList]
    exact hsz
  obtain ⟨os, hos, hcs, hds⟩ := id hs
  have hTs : s.TypeIs (.ref sl) "slice" := ⟨os, hos, hcs⟩
  unfold getItem
  try with_reducible refine wpAny_holding ?_
  first | refine wpAny_bind (wpAny_pure ?_) | skip
  refine wpAny_bind (wpAny_sequenceKey ht.typeIs (by decide) ?_)
  refine wpAny_bind (wpAny_callSpecial?_slot (name := Str.ofString "__getitem__") ht.typeIs PyProof.Rows.slot_tuple_getitem
    (wpAny_call_entry PyProof.Rows.slot_tuple_getitem ht.typeIs entry_tuple_getitem ?_ (args_tuple_getitem _ _)))
  show wpAny _ _ (Builtin.Tuple.tupleItemsOf (.ref t) >>= _) _ _ s
  refine wpAny_bind (tupleItemsOf_ ht ?_)
  refine wpAny_bind (wpAny_typeOf hTs ?_)
  rw [if_pos (by decide)]
  refine wpAny_bind (sliceApplied_rev hs ps ?_)
  show wpAny _ _ (if (((items.size : Int) - 1) == 0 && (-1 : Int) == 1 && items.size == items.size) = true then _ else _) _ _ s
  have hno : ¬ ((((items.size : Int) - 1) == 0 && (-1 : Int) == 1 && items.size == items.size) = true) := by
    intro q
    rw [Bool.and_eq_true, Bool.and_eq_true] at q
    exact absurd q.1.2 (by decide)
  rw [if_neg hno, pick_rev]
  first
    | exact wpAny_bind (m := Builtin.Tuple.tupleExact _) (wpAny_newObj_type (wpAny_pure ⟨_, rfl, wpAny_pure h⟩) htake)
    | exact wpAny_bind (m := Builtin.Tuple.tupleExact _) (wpAny_newObj_type (wpAny_bind (wpAny_pure (wpAny_pure ⟨_, rfl, wpAny_pure h⟩))) htake)
    | exact wpAny_bind (wpAny_bind (m := Builtin.Tuple.tupleExact _) (wpAny_newObj_type (wpAny_pure (wpAny_pure ⟨_, rfl, wpAny_pure h⟩)) htake))
    | exact wpAny_bind (wpAny_bind (m := Builtin.Tuple.tupleExact _) (wpAny_newObj_type (wpAny_pure ⟨_, rfl, wpAny_pure h⟩) htake))
end
section
variable {X : Cx}
/-- t[::-1], a list or a tuple -/
def tRevT (K : PySem.W.Frag) (te : TE) : TE := fun σ H Q => te σ H fun x H1 => ∃ a xs, x = .ref a ∧ ((SqL K H1 a xs ∧ ∀ p, H1 p = none → Q (.ref p) (upd H1 p (.lst xs.reverse))) ∨ (SqT K H1 a xs ∧ newT xs.reverse H1 Q))
theorem pe_revT {e : Expr} {te : TE} {k : Nat} {p1 p2 p3 pos : Pos} (he : PE X e te) : PE X (.Subscript e (.Slice none none (some (.UnaryOp .USub (.Constant (.int 1) k p1) p2)) p3) pos) (tRevT X.K te) := by
  refine ⟨fun pins s σ H Q I h => ?_⟩
  refine Subscript_ (thn (he.run pins s σ H _ I h) fun v s1 ⟨x, H1, I1, r1, q1⟩ => ?_)
  obtain ⟨a, xs, ex, hx⟩ := q1
  subst ex
  cases r1
  have hst : L2.PO X (some (.UnaryOp .USub (.Constant (.int 1) k p1) p2)) (tPart (tUn (rU fun i => .int (-i)) (tC (.int 1)))) := po_some (pe_un un_neg pe_int)
  refine wpAny_Slice (thn (po_none.run pins s1 σ H1 (fun o H2 => o = none ∧ H2 = H1) I1 ⟨rfl, rfl⟩) fun vl s2 ⟨l, H2, I2, pl, el, e2⟩ => ?_)
  subst el e2
  refine thn (po_none.run pins s2 σ H2 (fun o H3 => o = none ∧ H3 = H2) I2 ⟨rfl, rfl⟩) fun vu s3 ⟨u, H3, I3, pu, eu, e3⟩ => ?_
  subst eu e3
  refine thn (hst.run pins s3 σ H3 (fun o H4 => o = some (-1) ∧ H4 = H3) I3 ⟨1, rfl, -1, rfl, rfl, rfl⟩) fun vs s4 ⟨o, H4, I4, ps, eo, e4⟩ => ?_
  subst eo e4
  have I5 : L2.Inv X pins σ H4 { s4 with heap := s4.heap.push { cls := .type "slice", data := .fields #[vl, vu, vs] } } := I4.kept (t' := s4.toks) fun b ob q => Heap.get?_push_of_some _ q
  show wpAny (model X.prog X.w) X.A (subscriptTail e (.Slice none none (some (.UnaryOp .USub (.Constant (.int 1) k p1) p2)) p3) (.ref a) (.ref s4.heap.objs.size)) (EP X pins σ Q) X.xe { s4 with heap := s4.heap.push { cls := .type "slice", data := .fields #[vl, vu, vs] } }
  rcases hx with ⟨hx, q⟩ | ⟨hx, q⟩
  · obtain ⟨its, r, ht, hz⟩ := I5.list hx
    have hlen := r.length
    refine tail_any (ops := [.ref a, .ref s4.heap.objs.size]) ht.isList.typeIs (PySem.slot_list_getitem.lookup) ?_ (by with_unfolding_all rfl)
    refine wpAny_getItem_list_slice ht.isList (Heap.IsSliceOf.new _ vl vu vs) pl pu ps (by decide) ?_ (by rw [List.size_toArray]; omega)
    rw [PySem.W.krv_pick]
    refine ⟨.ref _, _, I5.laid (t' := s4.toks) (o := .lst xs.reverse) (fun b ob q => Heap.get?_push_of_some _ q) (Nat.le_refl _) ?_, rfl, q _ (I5.hok.fresh (Nat.le_refl _))⟩
    exact ⟨by rw [List.length_reverse]; exact hz, _, 0, r.reverse, Heap.get?_push_size _ rfl⟩
  · obtain ⟨its, r, ht, hz⟩ := I5.tuple hx
    have hlen := r.length
    cases pl
    cases pu
    refine tail_any (ops := [.ref a, .ref s4.heap.objs.size]) ht.typeIs (PyProof.Rows.slot_tuple_getitem.lookup) ?_ (by with_unfolding_all rfl)
    refine getItem_tuple_rev ht (Heap.IsSliceOf.new _ _ _ vs) ps ?_ (by rw [List.size_toArray]; omega)
    exact laidT (h := (s4.heap.push { cls := .type "slice", data := .fields #[.none, .none, vs] })) (t := s4.toks) I5 r.reverse (by rw [List.length_reverse]; exact hz) q
end
end Py

namespace Py
open PySem PySem.Spec PyProof.Rows L2
section
variable {c : RC} {X : Cx} {W : WX} {G : GEnv} {a b e : Expr} {ea eb : E} {pos : Pos}
/-! ### list(range ..), tuple(range ..) -/
/-- a range as an argument: its two ends -/
def lR (c : RC) (t : DSt → AH → Dx → (List D → Gd → AH → Prop) → Prop) (W : WX) : L2.St → Hp → (Int → Int → Hp → Prop) → Prop := fun σ H R => ∃ σd A Xd Rd, RelS c.K H σd σ ∧ RelA c A H ∧ t σd A Xd Rd ∧
  (∀ i j A' H', (-(2 ^ 62) ≤ i ∧ i < 2 ^ 62 ∧ -(2 ^ 62) ≤ j ∧ j < 2 ^ 62) → Rd (rngD i (j - i).toNat) [] A' → Mono H H' → RelA c A' H' → R i j H') ∧ FolW c H (fun cl d H' => W cl d σ H') Xd
theorem PRg.imp {t t' : L2.St → Hp → (Int → Int → Hp → Prop) → Prop} (h : PRg X e t) (i : ∀ σ H R, t' σ H R → t σ H R) : PRg X e t' := fun pins s σ H Q I q => h pins s σ H Q I (i _ _ _ q)
theorem r_1 {p : Pos} (hg : Gl X "range") (hm : X.mg "range" = none) (ha : PE X a (lE c (ev G ea) W)) (hn : noStar a = true) : PRg X (.Call (.Name "range" p) [a] [] pos) (lR c (evI G (.rng1 ea)) W) := by
  refine PRg.imp (prg_1 hg hm ha (starEach_cons hn)) fun σ H R h => ?_
  obtain ⟨σd, A, Xd, Rd, rs, ra, t, f, fw⟩ := h
  refine lE_go rs .refl ra fw t fun x A1 v H1 q1 m1 ra1 rx => ?_
  cases x <;> try exact q1.elim
  cases rx
  obtain ⟨h1, h2, h3⟩ := q1
  exact ⟨_, rfl, f _ _ _ _ ⟨by decide, by decide, h1, h2⟩ (by rw [Int.sub_zero]; exact h3) m1 ra1⟩
theorem r_2 {p : Pos} (hg : Gl X "range") (hm : X.mg "range" = none) (ha : PE X a (lE c (ev G ea) W)) (hb : PE X b (lE c (ev G eb) W)) (hn : noStar a = true) (hn2 : noStar b = true) : PRg X (.Call (.Name "range" p) [a, b] [] pos) (lR c (evI G (.rng2 ea eb)) W) := by
  refine PRg.imp (prg_2 hg hm ha hb (starEach_cons hn) (starEach_cons hn2) (by rw [starEach_cons hn2]; rfl)) fun σ H R h => ?_
  obtain ⟨σd, A, Xd, Rd, rs, ra, t, f, fw⟩ := h
  refine lE_go rs .refl ra fw t fun x A1 v H1 q1 m1 ra1 rx => ?_
  refine lE_go rs m1 ra1 fw q1 fun y A2 w H2 q2 m2 ra2 ry => ?_
  cases x <;> cases y <;> try exact q2.elim
  cases rx
  cases ry
  exact ⟨_, _, rfl, rfl, f _ _ _ _ q2.1 q2.2 (m1.trans m2) ra2⟩
theorem rgV_rel {K : PySem.W.Frag} {H : Hp} {i j : Int} : RelDs K H (rngD i (j - i).toNat) (rgV i j) := rg_rel
theorem s_lrg (hc : X.calm = true) (hg : Gl X "list") (hm : X.mg "list" = none) {p : Pos} {it : I} (hi : PRg X e (lR c (evI G it) W)) (hn : noStar e = true) : PE X (.Call (.Name "list" p) [e] [] pos) (lE c (ev G (.lrg it)) W) := by
  refine PE.imp (PE.fz (pe_listRg hc hg hm hi (starEach_cons hn))) fun σ H Q h => ?_
  obtain ⟨σd, A, Xd, Qd, rs, ra, t, f, fw⟩ := h
  refine ⟨σd, A, Xd, _, rs, ra, t, fun i j A' H' b q m ra' => ?_, fw⟩
  obtain ⟨q1, q2⟩ := q
  have e1 : (rngD i (j - i).toNat).length = (j - i).toNat := by simp [rngD]
  rw [e1] at q1
  exact ⟨⟨b.1, b.2.1, b.2.2.1, b.2.2.2, q1⟩, (f.from m).lst q2 ra' rgV_rel⟩
/-- the tuple is locked as its object -/
theorem pe_tupRgN {te : L2.St → Hp → (Int → Int → Hp → Prop) → Prop} {p : Pos} (hc : X.calm = true) (hg : Gl X "tuple") (hm : X.mg "tuple" = none) (he : PRg X e te) (na : starEach [e] X.env = (false, eval e X.env) :: starEach [] X.env) :
    PE X (.Call (.Name "tuple" p) [e] [] pos) (fun σ H Q => te σ H fun i j H1 => RgOk i j ∧ newT (rgV i j) H1 Q) := by
  constructor
  intro pins s σ H Q I h
  refine Call_ ?_
  apply ld_blt I hg hm boot_tuple
  apply PyProof.Rows.callWith_type1 (args_cons _ na) na
  apply thn (he pins s σ H _ I h)
  rintro x s1 ⟨r, i, j, t, u, v, H1, rfl, hr, I1, ok, q⟩
  apply args_nil
  have len : (rgV i j).length ≤ sizeLine := by
    rw [rgV_length, sizeLine_eq]
    exact ok.2.2.2.2
  apply call_tuple_range (n := (j - i).toNat) (I1.ok.hd hc) hr (small_one ok.1 ok.2.1 ok.2.2.1 ok.2.2.2.1) (rangeSize_nat i j) ok.2.2.2.2
  intro h' tk acc hk hi
  have I2 : Inv X pins σ H1 { s1 with heap := h', toks := tk } := I1.kept hk
  have := laidT (t := tk) (h := h') I2 (vals_rg hi) len q
  rwa [Array.toArray_toList] at this
theorem s_trg (hc : X.calm = true) (hg : Gl X "tuple") (hm : X.mg "tuple" = none) {p : Pos} {it : I} (hi : PRg X e (lR c (evI G it) W)) (hn : noStar e = true) : PE X (.Call (.Name "tuple" p) [e] [] pos) (lE c (ev G (.trg it)) W) := by
  refine PE.imp (pe_tupRgN hc hg hm hi (starEach_cons hn)) fun σ H Q h => ?_
  obtain ⟨σd, A, Xd, Qd, rs, ra, t, f, fw⟩ := h
  refine ⟨σd, A, Xd, _, rs, ra, t, fun i j A' H' b q m ra' => ?_, fw⟩
  obtain ⟨q1, q2⟩ := q
  have e1 : (rngD i (j - i).toNat).length = (j - i).toNat := by simp [rngD]
  rw [e1] at q1
  exact ⟨⟨b.1, b.2.1, b.2.2.1, b.2.2.2, q1⟩, (f.from m).tup q2 ra' rgV_rel⟩
/-! ### [::-1] of a list -/
theorem s_rev (hK : X.K = c.K) {k : Nat} {p1 p2 p3 : Pos} (ha : PE X a (lE c (ev G ea) W)) : PE X (.Subscript a (.Slice none none (some (.UnaryOp .USub (.Constant (.int 1) k p1) p2)) p3) pos) (lE c (ev G (.rev ea)) W) := by
  refine PE.imp (PE.fz (pe_revT ha)) fun σ H Q h => ?_
  obtain ⟨σd, A, Xd, Qd, rs, ra, t, f, fw⟩ := h
  refine lE_go rs .refl ra fw t fun x A1 v H1 q1 m1 ra1 rx => ?_
  cases x <;> try exact q1.elim
  · obtain ⟨a, vs, rfl, h, r⟩ := rx
    exact ⟨a, vs, rfl, .inr ⟨by rw [hK]; exact h.sqt, fun p ob hp hd => FzS.here ((f.from m1).tup q1 ra1 r.rev p ob hp hd)⟩⟩
  · cases rx
    dsimp only [rRev] at q1
    split at q1
    · rename_i ds e1
      obtain ⟨vs, h, r⟩ := getL_rel ra1 e1
      exact ⟨_, vs, rfl, .inl ⟨by rw [hK]; exact Rd_sql h, (f.from m1).lst q1 ra1 r.rev⟩⟩
    · exact q1.elim
  · obtain ⟨a, vs, rfl, h, r⟩ := rx
    exact ⟨a, vs, rfl, .inl ⟨by rw [hK]; exact h.sql, (f.from m1).lst q1 ra1 r.rev⟩⟩
end
end Py
namespace Py
open PySem PySem.Spec PyProof.Rows L2
/-! ### len(set(..)) -/
theorem dd_mem {k : Int} : ∀ {ns acc : List Int}, k ∈ ns.foldl PyProof.Rows.step_dedup acc ↔ k ∈ acc ∨ k ∈ ns
  | [], acc => by simp
  | n :: ns, acc => by
    rw [List.foldl_cons, dd_mem, List.mem_cons]
    unfold PyProof.Rows.step_dedup
    by_cases h : acc.any (· == n) = true
    · rw [if_pos h]
      have : n ∈ acc := by simpa using h
      constructor
      · rintro (q | q)
        · exact .inl q
        · exact .inr (.inr q)
      · rintro (q | q | q)
        · exact .inl q
        · exact .inl (q ▸ this)
        · exact .inr q
    · rw [if_neg h]
      simp only [List.mem_append, List.mem_singleton]
      constructor
      · rintro ((q | q) | q)
        · exact .inl q
        · exact .inr (.inl q)
        · exact .inr (.inr q)
      · rintro (q | q | q)
        · exact .inl (.inl q)
        · exact .inl (.inr q)
        · exact .inr q
theorem dd_nodup : ∀ {ns acc : List Int}, acc.Nodup → (ns.foldl PyProof.Rows.step_dedup acc).Nodup
  | [], _, h => h
  | n :: ns, acc, h => by
    rw [List.foldl_cons]
    refine dd_nodup ?_
    unfold PyProof.Rows.step_dedup
    by_cases q : acc.any (· == n) = true
    · rw [if_pos q]; exact h
    · rw [if_neg q]
      have : n ∉ acc := fun z => q (by simpa using z)
      rw [List.nodup_append]
      refine ⟨h, by simp, fun a ha b hb => ?_⟩
      cases List.mem_singleton.mp hb
      exact fun e => this (e ▸ ha)
theorem ddI_mem {ns : List Int} {k : Int} : k ∈ ddI ns ↔ k ∈ ns := by unfold ddI; rw [dd_mem]; simp
theorem ddI_nodup {ns : List Int} : (ddI ns).Nodup := dd_nodup List.nodup_nil
theorem nodup_len {l m : List Int} (hl : l.Nodup) (hm : m.Nodup) (h : ∀ k, k ∈ l ↔ k ∈ m) : l.length = m.length := ((List.perm_ext_iff_of_nodup hl hm).mpr h).length_eq
theorem firstMet_dd (ns : List Int) : PyProof.Rows.firstMet (fun i => ns.getD i 0) ns.length = ddI ns := by
  unfold PyProof.Rows.firstMet ddI
  congr 1
  apply List.ext_getElem
  · simp
  · intro i h1 h2
    simp [List.getD_eq_getElem?_getD, List.getElem?_eq_getElem h2]
section
variable {c : RC} {X : Cx} {W : WX} {G : GEnv} {a : Expr} {ea : E} {pos : Pos}
/-- a list or a tuple of whole numbers, not too many -/
def IntsOf (K : PySem.W.Frag) (H : Hp) (x : V) (ns : List Int) : Prop := ∃ l, x = .ref l ∧ (SqL K H l (ns.map V.int) ∨ SqT K H l (ns.map V.int))
theorem vals_intsAre : ∀ {ns : List Int} {us : List Value}, Vals (ns.map V.int) us → PyProof.Rows.IntsAre us ns
  | [], _, .nil => .nil
  | n :: _, _, .cons ⟨t, e⟩ r => by subst e; exact .cons n t (vals_intsAre r)
theorem pe_lenSetN {ta : TE} {p p2 q : Pos} (hc : X.calm = true) (hg : Gl X "len") (hm : X.mg "len" = none) (hg2 : Gl X "set") (hm2 : X.mg "set" = none) (ha : PE X a ta) (na : starEach [a] X.env = (false, eval a X.env) :: starEach [] X.env) :
    PE X (.Call (.Name "len" p) [.Call (.Name "set" p2) [a] [] q] [] pos) (fun σ H Q => ta σ H fun x H1 => ∃ ns : List Int, IntsOf X.K H1 x ns ∧ ns.length ≤ 4000 ∧ Q (.int (ddI ns).length) H1) := by
  constructor
  intro pins s σ H Q I h
  refine Call_ (ld_blt I hg hm PySem.boot_len (PyProof.Rows.callWith_builtin1 (PyProof.Rows.args_cons (Call_ (ld_blt I hg2 hm2 PyProof.Rows.boot_set (PyProof.Rows.callWith_type1 (PyProof.Rows.args_cons (thn (ha.run pins s σ H _ I h) ?_) na) na rfl))) rfl) rfl rfl))
  rintro v s1 ⟨x, H1, I1, r1, ns, ⟨l, rfl, hl⟩, hz, hQ⟩
  cases r1
  refine PyProof.Rows.args_nil ?_
  have fin : ∀ (h' : Heap) (tk : Nat) (o : Obj) (es : Array (Int × Value)) (ep : Nat) (t : SetTable), h'.get? s1.heap.objs.size = some o → o.ExactSet → o.data = .set es ep t → t.fits es.size = true → es.size = (ddI ns).length →
      (∀ b ob, s1.heap.get? b = some ob → h'.get? b = some ob) →
      wpAny (model X.prog X.w) X.A (call (.builtin "len") [.ref s1.heap.objs.size]) (EP X pins σ Q) X.xe { s1 with heap := h', toks := tk } := fun h' tk o es ep t g1 g2 g3 g4 g5 k => by
    have J : Inv X pins σ H1 { s1 with heap := h', toks := tk } := I1.kept k
    have le : (ddI ns).length ≤ ns.length := by
      rw [← firstMet_dd]
      exact PyProof.Rows.firstMet_length_le _ _
    exact call_len_set g1 g2 g3 g4 (by rw [g5]; omega) ⟨.int (ddI ns).length, H1, J.tok _, ⟨_, by rw [g5]⟩, hQ⟩
  rcases hl with hl | hl
  · obtain ⟨its, r, pl, _⟩ := I1.list hl
    have len : its.toArray.size = ns.length := by
      have := r.length
      simp at this ⊢
      omega
    refine call_set_list (ns := ns) (I1.ok.hd hc) pl.isList (by simpa using vals_intsAre r) (by rw [len]; unfold scanBound; omega) fun h' tk hS k => PyProof.Rows.args_nil ?_
    rw [len, firstMet_dd] at hS
    obtain ⟨o, es, ep, t, g1, g2, g3, _, _, _, g4, g5⟩ := hS
    exact fin h' tk o es ep t g1 g2 g3 g4 g5 fun b ob e => k b ob (Heap.lt_size e) e
  · obtain ⟨its, r, pl, _⟩ := I1.tuple hl
    have len : its.length = ns.length := by
      have := r.length
      simp at this
      omega
    refine call_set_tupI ns (I1.ok.hd hc) (items := its.toArray) pl (by simpa using vals_intsAre r) (by unfold scanBound; omega) fun h' tk n hS _ k => PyProof.Rows.args_nil ?_
    obtain ⟨o, es, ep, t, g1, g2, g3, _, nd, mm, _, g4, g5, _⟩ := hS
    refine fin h' tk o es ep t g1 g2 g3 g4 ?_ k
    have := nodup_len nd (ddI_nodup (ns := ns)) fun j => by rw [← mm j, ddI_mem]; simp
    rw [List.length_map, Array.length_toList] at this
    exact this
theorem s_lset (hK : X.K = c.K) (hc : X.calm = true) (hg : Gl X "len") (hm : X.mg "len" = none) (hg2 : Gl X "set") (hm2 : X.mg "set" = none) {p p2 q : Pos} (ha : PE X a (lE c (ev G ea) W)) (hn : noStar a = true) :
    PE X (.Call (.Name "len" p) [.Call (.Name "set" p2) [a] [] q] [] pos) (lE c (ev G (.lset ea)) W) := by
  refine PE.imp (pe_lenSetN hc hg hm hg2 hm2 ha (starEach_cons hn)) fun σ H Q h => ?_
  obtain ⟨σd, A, Xd, Qd, rs, ra, t, f, fw⟩ := h
  refine lE_go rs .refl ra fw t fun x A1 v H1 q1 m1 ra1 rx => ?_
  split at q1
  · rename_i ns e
    obtain ⟨hz, q2⟩ := q1
    cases es : seqD A1 x with
    | none => rw [es] at e; cases e
    | some ds =>
      rw [es] at e
      obtain ⟨l, vs, rfl, hl, r⟩ := seq_ok ra1 rx es
      cases ints_ok r e
      exact ⟨ns, ⟨l, rfl, by rw [hK]; exact hl⟩, hz, (f.from m1).here q2 ra1 rfl⟩
  · exact q1.elim
end
end Py

namespace Py
open PySem PySem.Spec PyProof.Rows L2 PySem.Calls
/-! ### set(xs) of a list of whole numbers, its table led -/
/-- an empty set as set.__new__ leaves it -/
abbrev set0 (w : World) : Obj := { cls := .type "set", dict := none, data := .set #[] 0 (.fresh 0 0 (!w.params.followText "set-order")) }
section
variable {P : Program} {w : World} {A : Around} {E : Value → Shared → Prop} {s : Shared}
set_option maxHeartbeats 3200000 in
theorem call_set_lstR {l : Addr} {its : Array Value} (ns : List Int) {Q : Value → Shared → Prop} (hh : A.handled = none) (hl : s.heap.IsList l its) (hit : PyProof.Rows.IntsAre its.toList ns) (hb : ns.length + 1 < scanBound)
    (hQ : ∀ (h' : Heap) (tk c : Nat), SetR w h' s.heap.objs.size (fun j => decide (j ∈ ns)) c → (∀ b o, s.heap.get? b = some o → h'.get? b = some o) → Q (.ref s.heap.objs.size) { s with heap := h', toks := tk }) :
    wpAny (model P w) A (call (.type "set") [.ref l]) Q E s := by
  have len : its.size = ns.length := by
    have z := PyProof.Rows.IntsAre.length hit
    simpa using z
  obtain ⟨c, tl, m0⟩ := F.called_set.mro
  have m1 := F.called_set.made
  have m2 := F.called_set.sub
  apply wpAny_call
  apply codeAny_of_tree
  show wpAny _ _ (callAny (.type "set") _) _ _ _
  apply wpAny_pure
  refine ⟨Code.quiet_builtin _ (by decide +kernel), codeAny_builtin F.entry_type_call ?_⟩
  rw [Around.under_plain (weight_type_call_type "set" [.ref l] []) rfl]
  have m3 := F.called_set.notType
  have m4 := F.called_set.canCreate
  have m5 := F.typeCall_set_1 (.ref l)
  repeat (any_goals (first | assumption | wp_step))
  apply codeAny_mono (code_set_led1 (.ref l) (E := E) (Q₁ := fun ob s1 => ob = .ref s.heap.objs.size ∧ s1 = { s with heap := s.heap.push (set0 w) }) ⟨rfl, rfl⟩)
  intro r s1 hr
  cases r with
  | error e => exact hr
  | ok fl =>
    cases fl with
    | ret ob =>
      obtain ⟨rfl, rfl⟩ := hr
      have at0 : (s.heap.push (set0 w)).get? s.heap.objs.size = some (set0 w) := Heap.get?_push_size _ rfl
      have ty0 : Shared.TypeIs { s with heap := s.heap.push (set0 w) } (.ref s.heap.objs.size) "set" := ⟨_, at0, rfl⟩
      have m6 := F.called_set.init.lookup
      have m7 := F.called_set.init.bind (.ref s.heap.objs.size)
      repeat (any_goals (first | assumption | wp_step))
      let Good : Value → Shared → Prop := fun r s2 => r = .none ∧ ∃ h' tk c, s2 = { s with heap := h', toks := tk } ∧ SetR w h' s.heap.objs.size (fun j => decide (j ∈ ns)) c ∧ ∀ b o, s.heap.get? b = some o → h'.get? b = some o
      apply codeAny_mono (codeAny_call_builtin (R := wants Good E) F.called_set.init.plain F.entry_set_init (check_set_init_1 ty0 ?_))
      · intro r2 s2 h2
        cases r2 with
        | error e => exact h2
        | ok f2 =>
          cases f2 with
          | ret r =>
            obtain ⟨rfl, h', tk, c', rfl, g1, g2⟩ := h2
            repeat (any_goals (first | assumption | wp_step))
            exact hQ _ _ _ g1 g2
          | _ => exact h2.elim
      · obtain ⟨ob, o1, o2, nn, o3⟩ := hl
        obtain ⟨oc, od, oda, osl⟩ := ob
        simp only at o2 o3
        subst o2 o3
        have lt0 : l < s.heap.objs.size := Heap.lt_size o1
        have o4 : (s.heap.push (set0 w)).get? l = some { cls := .type "list", dict := od, data := .seq its nn, slots := osl } := Heap.get?_push_of_some _ o1
        have l1 : (s.heap.push (set0 w)).IsList l its := ⟨_, o4, rfl, nn, rfl⟩
        have d1 := PySem.F.sub_list_set
        have d2 := PySem.F.sub_list_frozenset
        have d3 : (Value.type "list" == Value.type "dict") = false := by decide
        unfold Builtin.«set.__init__» noKeywords Builtin.Frozenset.updateFrom
        generalize hP : pyIter = PI
        wp_walk
        subst hP
        apply wpAny_pyIter_list l1
        apply wpAny_bind
        apply wpAny_runValue
        have sz : (s.heap.push (set0 w)).objs.size = s.heap.objs.size + 1 := Heap.size_push ..
        have e3 : A.in1.in1.in1.handled = none := by simp [hh]
        have n1 : l ≠ (s.heap.push (set0 w)).objs.size := Nat.ne_of_lt (by rw [sz]; exact Nat.lt_succ_of_lt lt0)
        have n2 : s.heap.objs.size ∉ [(s.heap.push (set0 w)).objs.size, l] := by
          simp only [List.mem_cons, List.not_mem_nil, or_false, not_or]
          exact ⟨Nat.ne_of_lt (by rw [sz]; exact Nat.lt_succ_self _), Nat.ne_of_gt lt0⟩
        have vv : ∀ (i : Nat) (v : Value), its[i]? = some v → ∃ k t, ns[i]? = some k ∧ v = .int k t := fun i v hv => by
          have hi : i < ns.length := by rw [← len]; exact (Array.getElem?_eq_some_iff.mp hv).1
          obtain ⟨t, e⟩ := PyProof.Rows.IntsAre.int_at hit i v (by rw [Array.getElem?_toList]; exact hv)
          exact ⟨ns[i], t, List.getElem?_eq_getElem hi, by rw [e]; simp [hi]⟩
        apply set_update_ints ((Walks.list e3 _ l n1 its).toS) s.heap.objs.size n2 ns len hb vv (its.size - 0) 0 _ (by omega) (Nat.zero_le _) ⟨⟨_, Heap.get?_push_size _ rfl, rfl, rfl⟩, l1.push _⟩
        · have q : ((s.heap.push (set0 w)).push { cls := .type "list_iterator", data := .fields #[.ref l, .int 0 0] }).get? s.heap.objs.size = some (set0 w) := Heap.get?_push_of_some _ at0
          exact ⟨0, Nat.le_refl 0, setR_new_at q⟩
        · rintro ⟨h', g2, d', tk', os'⟩ c' mv _ good
          have e1 : g2 = s.gens := mv.gens
          have e2 : d' = s.drawn := mv.drawn
          have e4 : os' = s.os := mv.os
          subst e1 e2 e4
          apply wpAny_pure
          show wpAny _ _ (ret Value.none) _ _ _
          refine wpAny_pure ⟨rfl, h', tk', c', rfl, good, fun b o e => ?_⟩
          have b1 : b < s.heap.objs.size := Heap.lt_size e
          refine mv.heap b o ?_ (Heap.get?_push_of_some _ (Heap.get?_push_of_some _ e))
          simp only [List.mem_cons, List.not_mem_nil, or_false, not_or]
          exact ⟨Nat.ne_of_lt b1, Nat.ne_of_lt (by rw [sz]; exact Nat.lt_succ_of_lt b1)⟩
    | _ => exact hr.elim
end
section
variable {c : RC} {X : Cx} {W : WX} {G : GEnv} {a : Expr} {ea : E} {pos : Pos}
/-- set(xs): a new set of these -/
theorem pe_setN {ta : TE} {p2 q : Pos} (hc : X.calm = true) (hg2 : Gl X "set") (hm2 : X.mg "set" = none) (ha : PE X a ta) (na : starEach [a] X.env = (false, eval a X.env) :: starEach [] X.env) :
    PE X (.Call (.Name "set" p2) [a] [] q) (fun σ H Q => ta σ H fun x H1 => ∃ ns : List Int, IntsOf X.K H1 x ns ∧ ns.length ≤ 4000 ∧ ∀ b n, n = (ddI ns).length → H1 b = none → Q (.ref b) (upd H1 b (SetO X.w b (fun j => decide (j ∈ ns)) n))) := by
  constructor
  intro pins s σ H Q I h
  refine Call_ (ld_blt I hg2 hm2 PyProof.Rows.boot_set (PyProof.Rows.callWith_type1 (PyProof.Rows.args_cons (thn (ha.run pins s σ H _ I h) ?_) na) na rfl))
  rintro v s1 ⟨x, H1, I1, r1, ns, ⟨l, rfl, hl⟩, hz, hQ⟩
  cases r1
  refine PyProof.Rows.args_nil ?_
  have fin : ∀ (h' : Heap) (tk n : Nat), SetR X.w h' s1.heap.objs.size (fun j => decide (j ∈ ns)) n → (∀ b ob, s1.heap.get? b = some ob → h'.get? b = some ob) → EP X pins σ Q (.ref s1.heap.objs.size) { s1 with heap := h', toks := tk } := fun h' tk n R k => by
    have e : n = (ddI ns).length := by
      obtain ⟨o, es, ep, t, g1, g2, g3, _, nd, mm, _, g4, g5, _⟩ := id R
      have := nodup_len nd (ddI_nodup (ns := ns)) fun j => by rw [← mm j, ddI_mem]; simp
      rw [List.length_map, Array.length_toList] at this
      rw [← g5]
      exact this
    exact ⟨.ref s1.heap.objs.size, _, I1.laid (t' := tk) k (Nat.le_refl _) (setO_new (P := X.prog) R), rfl, hQ _ _ e (I1.hok.fresh (Nat.le_refl _))⟩
  rcases hl with hl | hl
  · obtain ⟨its, r, pl, _⟩ := I1.list hl
    exact call_set_lstR ns (I1.ok.hd hc) pl.isList (by simpa using vals_intsAre r) (by unfold scanBound; omega) fun h' tk n R k => fin h' tk n R k
  · obtain ⟨its, r, pl, _⟩ := I1.tuple hl
    exact call_set_tupI ns (I1.ok.hd hc) (items := its.toArray) pl (by simpa using vals_intsAre r) (by unfold scanBound; omega) fun h' tk n R _ k => fin h' tk n R k
theorem sorted_dd {ns ms : List Int} (h : ms.Pairwise (· < ·)) (m : ∀ k, k ∈ ms ↔ k ∈ ns) : ms = sortI (ddI ns) := by
  refine sortI_eq ?_ (h.imp fun h => Int.le_of_lt h)
  refine (List.perm_ext_iff_of_nodup (h.imp fun h => Int.ne_of_lt h) ddI_nodup).mpr fun k => ?_
  rw [m, ddI_mem]
theorem s_sset (hK : X.K = c.K) (hc : X.calm = true) (hg : Gl X "sorted") (hm : X.mg "sorted" = none) (hg2 : Gl X "set") (hm2 : X.mg "set" = none) {p p2 q : Pos} (ha : PE X a (lE c (ev G ea) W)) (hn : noStar a = true) :
    PE X (.Call (.Name "sorted" p) [.Call (.Name "set" p2) [a] [] q] [] pos) (lE c (ev G (.sset ea)) W) := by
  have ps := pe_setN (p2 := p2) (q := q) hc hg2 hm2 ha (starEach_cons hn)
  refine PE.imp (PE.fz (pe_callB (cr_sortedSet hc) hg hm (by decide +kernel) (pa_cons ps pa_nil) (by decide) (by decide))) fun σ H Q h => ?_
  obtain ⟨σd, A, Xd, Qd, rs, ra, t, f, fw⟩ := h
  refine lE_go rs .refl ra fw t fun x A1 v H1 q1 m1 ra1 rx => ?_
  split at q1
  · rename_i ns e
    obtain ⟨hz, h64, q2⟩ := q1
    cases es : seqD A1 x with
    | none => rw [es] at e; cases e
    | some ds =>
      rw [es] at e
      obtain ⟨l, vs, rfl, hl, r⟩ := seq_ok ra1 rx es
      cases ints_ok r e
      refine ⟨ns, ⟨l, rfl, by rw [hK]; exact hl⟩, hz, fun b n en hb => ⟨_, _, _, rfl, upd_same, by omega, fun ms p s1 s2 _ hp => ?_⟩⟩
      have e1 : ms = sortI (ddI ns) := sorted_dd s1 fun k => by rw [s2 k]; simp
      rw [e1]
      have m2 := Mono.fresh (o := SetO X.w b (fun j => decide (j ∈ ns)) n) hb
      exact (f.from (m1.trans m2)).lst q2 (ra1.aside hb) (ints_rel _) p hp
  · exact q1.elim
end
end Py

namespace Py
open PySem PySem.Spec PyProof.Rows L2
/-! ### enumerate(t), t a tuple -/
abbrev enm (a : Addr) : Obj := { cls := .type "enumerate", data := .fields #[.none, .bool false, .ref a, rawInt 0, .none, .none] }
set_option maxHeartbeats 1000000 in
theorem meets_enum1 {v : Value} {o : Obj} {H : Heap → Prop} (B : Begins v o H) :
    Meets (Builtin.«enumerate.__new__» ⟨[.type "enumerate", v], []⟩) (fun _ R s => H s.heap ∧ R (.ok (.ret (.ref (s.heap.push o).objs.size))) { s with heap := (s.heap.push o).push (enm s.heap.objs.size) }) :=
  .of_wp fun prog w A R s ⟨h1, h⟩ => by
    obtain ⟨hp, g, d, tk, os⟩ := s
    have z := sub_enumerate
    have go : ∀ {A' : Around} {E : Value → Shared → Prop} {Q : Value → Shared → Prop}, Q (.ref hp.objs.size) ⟨hp.push o, g, d, tk, os⟩ → wpAny (model prog w) A' (pyIter v) Q E ⟨hp, g, d, tk, os⟩ := fun q => B.iter prog w _ _ ⟨hp, g, d, tk, os⟩ _ h1 q
    wp_walk using go
    apply wpAny_stack_any
    intro st
    apply wpAny_pure
    split
    · rename_i c _ _ _ _ _
      cases (c == Value.type "enumerate") <;> (wp_walk using go; exact ⟨_, rfl, h⟩)
    · wp_walk using go
      exact ⟨_, rfl, h⟩
section
variable {prog : Program} {w : World} {A : Around} {E : Value → Shared → Prop} {s : Shared}
theorem call_enum1 {v : Value} {o : Obj} {H : Heap → Prop} {Q : Value → Shared → Prop} (B : Begins v o H) (h1 : H s.heap)
    (h : ∀ h', IsEnum h' (s.heap.objs.size + 1) s.heap.objs.size 0 .none → h'.get? s.heap.objs.size = some o → (∀ b ob, s.heap.get? b = some ob → h'.get? b = some ob) → Q (.ref (s.heap.objs.size + 1)) { s with heap := h' }) :
    wpAny (model prog w) A (call (.type "enumerate") [v]) Q E s := by
  have z : (s.heap.push o).objs.size = s.heap.objs.size + 1 := Heap.size_push ..
  have e : IsEnum ((s.heap.push o).push (enm s.heap.objs.size)) (s.heap.objs.size + 1) s.heap.objs.size 0 .none := by
    have q := Heap.get?_push_size (s.heap.push o) (o := enm s.heap.objs.size) rfl
    rwa [z] at q
  apply callType_new F.called_enumerate (by decide) (F.typeCall_enumerate_1 _) (F.newCall_enumerate_1 _) (fun ob => F.args_object_init_2 ob _) F.entry_enumerate_new (meets_enum1 B)
  refine ⟨h1, ?_⟩
  rw [z]
  exact ⟨⟨_, e, rfl⟩, h _ e (Heap.get?_push_of_some _ (Heap.get?_push_size _ B.free)) fun b ob x => Heap.get?_push_of_some _ (Heap.get?_push_of_some _ x)⟩
end
/-- the tuple at a, each item in a new pair -/
def ItN (K : PySem.W.Frag) (a : Addr) : It where
  go := fun i H => ∃ (xs : List V) (x : V), SqT K H a xs ∧ xs[i]? = some x
  yld := fun i H v H' => ∃ T x, v = .ref T ∧ H T = none ∧ H' = upd H T (.tup [.int (i : Nat), x]) ∧ ∀ xs, SqT K H a xs → xs[i]? = some x
  stop := fun i H => ∃ xs : List V, SqT K H a xs ∧ xs.length = i
theorem turn_enumN {P : Program} {w : World} {K : PySem.W.Frag} {elts : List Expr} {kk : Nat} {tpos : Pos} (a e it : Addr) (hae : a ≠ e) (hai : a ≠ it) :
    Turn P w K (.Tuple elts kk tpos) (ItN K a) [e, it] e (fun i h => (∃ old, IsEnum h e it ((i : Nat) : Int) old) ∧ h.IsTupleIter it a i ∧ e ≠ it) where
  mem := by simp
  obj := by
    rintro i h ⟨⟨old, he⟩, ⟨o, ho, hc, hd⟩, _⟩ b hb
    rcases (by simpa using hb : b = e ∨ b = it) with rfl | rfl
    · exact ⟨_, he, fun v q => nomatch q⟩
    · exact ⟨o, ho, fun v q => by rw [hd] at q; cases q⟩
  keep := by
    rintro i h h' ⟨⟨old, he⟩, hi, hne⟩ k
    exact ⟨⟨old, k e (by simp) _ he⟩, hi.at fun o q => k it (by simp) o q, hne⟩
  item := by
    rintro X rfl rfl rfl hc i pins s σ H E I hf ⟨⟨old, he⟩, hit, hne⟩ ⟨xs, x, hq, hx⟩
    obtain ⟨its, rv, p, hz⟩ := I.tuple hq
    obtain ⟨u, hu, ru⟩ := rv.get hx
    have le : e < s.heap.objs.size := Heap.lt_size he
    have li : it < s.heap.objs.size := by obtain ⟨_, q, _⟩ := hit; exact Heap.lt_size q
    have hu' : its.toArray[i]? = some u := by simpa using hu
    have lt : i < its.toArray.size := (Array.getElem?_eq_some_iff.mp hu').1
    have D := Draws.tuple (prog := X.prog) (w := X.w) (A := X.A.in1) (by simp [I.ok.hd hc]) it a hai its.toArray
    refine wpAny_pyNext_enum_itemC D he ⟨hit, p⟩ lt hne (by simp [hne, Ne.symm hae]) fun y h' tk hy ho st' hT sz k => ?_
    have hy : its.toArray[i]? = some y := hy
    rw [hu'] at hy
    cases hy
    refine ⟨_, rfl, wpAny_letOwnedTupleGo_enum (s := { s with heap := h', toks := tk + 1 }) ho fun h2 he2 sb => ?_⟩
    have T2 : h2.get? s.heap.objs.size = some { cls := .type "tuple", data := .seq #[.int i tk, u] } := (sb.2 _ (Nat.ne_of_gt le)).trans hT
    have new : ObjOk X.prog X.w (upd H s.heap.objs.size (.tup [.int (i : Nat), x])) h2 s.heap.objs.size (.tup [.int (i : Nat), x]) := by
      refine ⟨?_, [.int i tk, u], .cons ⟨_, rfl⟩ (.cons ru .nil), ⟨_, T2, rfl, _, rfl⟩⟩
      show 2 ≤ sizeLine
      decide
    have fr : H s.heap.objs.size = none := I.hok.fresh (Nat.le_refl _)
    have J : Inv X pins σ (upd H s.heap.objs.size (.tup [.int (i : Nat), x])) { s with heap := h2, toks := tk + 1 } :=
      I.turnedNew (ch := [e, it]) (fun b ob hb q => (sb.2 b (fun z => hb (by simp [z]))).trans (k b ob (fun z => hb (by simp [z])) (fun z => hb (by simp [z])) q)) hf (Nat.le_refl _) new
    refine ⟨.ref s.heap.objs.size, _, J, rfl, ⟨_, x, rfl, fr, rfl, fun ys hy => ?_⟩, ⟨⟨u, ?_⟩, st'.1.at fun o q => (sb.2 it (Ne.symm hne)).trans q, hne⟩, fun b hb => ?_⟩
    · rw [I.tuple_inj hy hq]
      exact hx
    · rw [show ((i + 1 : Nat) : Int) = (i : Int) + 1 by omega]
      exact he2
    · have lb : b < s.heap.objs.size := by
        rcases (by simpa using hb : b = e ∨ b = it) with rfl | rfl
        · exact le
        · exact li
      rw [upd_ne (Nat.ne_of_lt lb)]
      exact (hf b hb).1
  done := by
    rintro X rfl rfl rfl hc i pins s σ H E I hf ⟨⟨old, he⟩, hit, hne⟩ ⟨xs, hq, hx⟩
    obtain ⟨its, rv, p, hz⟩ := I.tuple hq
    obtain ⟨f0, f1, f2, f3, f4, f5⟩ := hf it (by simp)
    have len : its.toArray.size = i := by
      have := rv.length
      simp
      omega
    have D := Draws.tuple (prog := X.prog) (w := X.w) (A := X.A.in1) (by simp [I.ok.hd hc]) it a hai its.toArray
    exact wpAny_pyNext_enum_endD D he (by rw [len]; exact ⟨hit, p⟩) fun h' eb => ⟨rfl, I.turned (t' := s.toks) (fun b o hb q => eb b o hb q) f0 f1 f3 f4 f5⟩
  self := by
    rintro A i s Q E ⟨⟨_, he⟩, _⟩ h
    exact wpAny_pyIter_enum he h
theorem pi_enumN {X : Cx} {e : Expr} {te : TE} {p pos tpos : Pos} {elts : List Expr} {kk : Nat} (hg : Gl X "enumerate") (hm : X.mg "enumerate" = none) (he : PE X e te) (na : starEach [e] X.env = (false, eval e X.env) :: starEach [] X.env) :
    PI X (.Tuple elts kk tpos) (.Call (.Name "enumerate" p) [e] [] pos) (fun σ H R => te σ H fun x H1 => (∃ a xs, x = .ref a ∧ SqL X.K H1 a xs ∧ R (Ite X.K a) H1) ∨ (∃ a xs, x = .ref a ∧ SqT X.K H1 a xs ∧ R (ItN X.K a) H1)) := by
  constructor
  intro pins s σ H R I h
  refine Call_ (ld_blt I hg hm boot_enumerate (PyProof.Rows.callWith_type1 (PyProof.Rows.args_cons (thn (he.run pins s σ H _ I h) ?_) na) na))
  rintro v s1 ⟨x, H1, I1, r1, q⟩
  refine PyProof.Rows.args_nil ?_
  have two : ∀ b, b ∈ [s1.heap.objs.size + 1, s1.heap.objs.size] → FpOk X pins H1 b := fun b hb => by
    have le : s1.heap.objs.size ≤ b := by
      rcases (by simpa using hb : b = s1.heap.objs.size + 1 ∨ b = s1.heap.objs.size) with rfl | rfl
      · exact Nat.le_succ _
      · exact Nat.le_refl _
    exact I1.fpOk le (I1.hok.fresh le)
  rcases q with ⟨a, xs, rfl, hq, q⟩ | ⟨a, xs, rfl, hq, q⟩
  · cases r1
    obtain ⟨its, rv, pl, hz⟩ := I1.list hq
    refine call_enumerate_list pl.isList fun h' he hit hsz hk => wpAny_pyIter_enum he ?_
    exact ⟨s1.heap.objs.size + 1, _, _, _, H1, rfl, I1.kept (t' := s1.toks) hk, turn_enum a _ _, ⟨⟨.none, he⟩, hit, Nat.succ_ne_self _⟩, two, q⟩
  · cases r1
    obtain ⟨its, rv, pl, hz⟩ := I1.tuple hq
    have lt : a < s1.heap.objs.size := by obtain ⟨_, z, _⟩ := id pl; exact Heap.lt_size z
    refine call_enum1 (begins_tuple a its.toArray) pl fun h' he hit hk => wpAny_pyIter_enum he ?_
    exact ⟨s1.heap.objs.size + 1, _, _, _, H1, rfl, I1.kept (t' := s1.toks) hk, turn_enumN a _ _ (Nat.ne_of_lt (Nat.lt_succ_of_lt lt)) (Nat.ne_of_lt lt), ⟨⟨.none, he⟩, ⟨_, hit, rfl, rfl⟩, Nat.succ_ne_self _⟩, two, q⟩
section
variable {c : RC} {X : Cx} {W : WX} {G : GEnv} {e : Expr} {ea : E} {pos : Pos}
theorem enumD_get {ds : List D} {i : Nat} {d : D} (h : (enumD ds)[i]? = some d) : ∃ x, ds[i]? = some x ∧ d = .tup [.int (i : Nat), x] := by
  unfold enumD at h
  rw [List.getElem?_mapIdx] at h
  cases q : ds[i]? with
  | none => rw [q] at h; cases h
  | some x => rw [q] at h; cases h; exact ⟨x, rfl, rfl⟩
theorem enumD_len {ds : List D} : (enumD ds).length = ds.length := by simp [enumD]
theorem pair_yld {K : PySem.W.Frag} {H : Hp} {T : Addr} {i : Nat} {x : V} {d : D} (n : H T = none) (r : RelD K H d x) :
    SqT K (L2.upd H T (.tup [.int (i : Nat), x])) T [.int (i : Nat), x] ∧ RelDs K (L2.upd H T (.tup [.int (i : Nat), x])) [.int (i : Nat), d] [.int (i : Nat), x] :=
  ⟨.inl (.inl upd_same), _, _, rfl, rfl, _, _, rfl, RelD.mono (Mono.fresh n) _ _ r, rfl⟩
theorem ix_enumN {H : Hp} {a : Addr} {vs : List V} {ds : List D} (h : TupAt c.K H a vs) (r : RelDs c.K H ds vs) : lIx c true H (ItN c.K a) (enumD ds) [] := fun i H1 A m ra _ => by
  have h1 : SqT c.K H1 a vs := (m.tup h).sqt
  refine ⟨fun d e => ?_, fun hi => ⟨vs, h1, by rw [r.length, ← hi, enumD_len]⟩⟩
  obtain ⟨y, hy, rfl⟩ := enumD_get e
  obtain ⟨v, hv, rv⟩ := r.get hy
  refine ⟨⟨vs, v, h1, hv⟩, ?_⟩
  rintro x H' ⟨T, u, rfl, hT, rfl, hu⟩
  have := hu vs h1
  rw [hv] at this
  cases this
  obtain ⟨s1, s2⟩ := pair_yld (i := i) hT (RelD.mono m _ _ rv)
  exact ⟨Mono.fresh hT, ra.aside hT, .inr ⟨rfl, _, T, _, rfl, rfl, s1, s2⟩⟩
theorem ix_enumF {H : Hp} {a : Addr} {vs : List V} {ds : List D} (h : FlAt c.K H a vs) (r : RelDs c.K H ds vs) : lIx c true H (Ite c.K a) (enumD ds) [] := fun i H1 A m ra _ => by
  have h1 : SqL c.K H1 a vs := (m.fl h).sql
  refine ⟨fun d e => ?_, fun hi => ⟨vs, h1, by rw [r.length, ← hi, enumD_len]; exact Nat.le_refl _⟩⟩
  obtain ⟨y, hy, rfl⟩ := enumD_get e
  obtain ⟨v, hv, rv⟩ := r.get hy
  refine ⟨⟨vs, v, h1, hv⟩, ?_⟩
  rintro x H' ⟨T, u, rfl, hT, rfl, hu⟩
  have := hu vs h1
  rw [hv] at this
  cases this
  obtain ⟨s1, s2⟩ := pair_yld (i := i) hT (RelD.mono m _ _ rv)
  exact ⟨Mono.fresh hT, ra.aside hT, .inr ⟨rfl, _, T, _, rfl, rfl, s1, s2⟩⟩
theorem ix_enumL {H : Hp} {a : Addr} {ds : List D} : lIx c true H (Ite c.K a) (enumD ds) [(a, .lst ds)] := fun i H1 A m ra hg => by
  obtain ⟨vs, h0, r⟩ := ra _ _ (hg (a, .lst ds) (by simp))
  have h1 : SqL c.K H1 a vs := SqL.of h0
  refine ⟨fun d e => ?_, fun hi => ⟨vs, h1, by rw [r.length, ← hi, enumD_len]; exact Nat.le_refl _⟩⟩
  obtain ⟨y, hy, rfl⟩ := enumD_get e
  obtain ⟨v, hv, rv⟩ := r.get hy
  refine ⟨⟨vs, v, h1, hv⟩, ?_⟩
  rintro x H' ⟨T, u, rfl, hT, rfl, hu⟩
  have := hu vs h1
  rw [hv] at this
  cases this
  obtain ⟨s1, s2⟩ := pair_yld (i := i) hT rv
  exact ⟨Mono.fresh hT, ra.aside hT, .inr ⟨rfl, _, T, _, rfl, rfl, s1, s2⟩⟩
theorem i_enum (hK : X.K = c.K) {elts : List Expr} {kk : Nat} {tpos p : Pos} (hg : Gl X "enumerate") (hm : X.mg "enumerate" = none) (he : PE X e (lE c (ev G ea) W)) (hn : noStar e = true) :
    PI X (.Tuple elts kk tpos) (.Call (.Name "enumerate" p) [e] [] pos) (lI c true (evI G (.enum ea)) W) := by
  refine PI.imp (pi_enumN hg hm he (starEach_cons hn)) fun σ H R h => ?_
  obtain ⟨σd, A, Xd, Rd, rs, ra, t, f, fw⟩ := h
  refine lE_go rs .refl ra fw t fun x A1 v H1 q1 m1 ra1 rx => ?_
  cases x <;> try exact q1.elim
  · obtain ⟨a, vs, rfl, h, q⟩ := rx
    exact .inr ⟨a, vs, rfl, by rw [hK]; exact h.sqt, by rw [hK]; exact f _ _ _ _ _ q1 m1 ra1 (ix_enumN h q)⟩
  · cases rx
    dsimp only at q1
    split at q1
    · rename_i e1
      obtain ⟨vs, h, q⟩ := ra1 _ _ e1
      exact .inl ⟨_, vs, rfl, SqL.of h, by rw [hK]; exact f _ _ _ _ _ q1 m1 ra1 ix_enumL⟩
    · exact q1.elim
  · obtain ⟨a, vs, rfl, h, q⟩ := rx
    exact .inl ⟨a, vs, rfl, by rw [hK]; exact h.sql, by rw [hK]; exact f _ _ _ _ _ q1 m1 ra1 (ix_enumF h q)⟩
end
section
variable {c : RC} {X : Cx} {W : WX} {G : GEnv} {a b : Expr} {ea eb : E} {pos : Pos}
/-- a list | a tuple that is walked: where it lies as long as what must stand stands -/
def SrcL (c : RC) (H0 : Hp) (p : Addr) (ds : List D) (Gd : Gd) : Prop := ∀ H A, Mono H0 H → RelA c A H → holds Gd A → ∃ vs, SqL c.K H p vs ∧ RelDs c.K H ds vs
def SrcT (c : RC) (H0 : Hp) (p : Addr) (ds : List D) (Gd : Gd) : Prop := ∀ H A, Mono H0 H → RelA c A H → holds Gd A → ∃ vs, SqT c.K H p vs ∧ RelDs c.K H ds vs
theorem src_ok {A : AH} {H : Hp} {d : D} {x : V} {k : Bool} {ds : List D} {Gd : Gd} (rx : RelD c.K H d x) (h : srcD A d = some (k, ds, Gd)) : ∃ p, x = .ref p ∧ ((k = false ∧ SrcL c H p ds Gd) ∨ (k = true ∧ SrcT c H p ds Gd)) := by
  cases d <;> simp only [srcD] at h <;> try (cases h; done)
  · cases h
    obtain ⟨p, vs, rfl, h, q⟩ := rx
    exact ⟨p, rfl, .inr ⟨rfl, fun H1 A1 m _ _ => ⟨vs, (m.tup h).sqt, RelDs.mono m _ _ q⟩⟩⟩
  · cases rx
    split at h
    · cases h
      refine ⟨_, rfl, .inl ⟨rfl, fun H1 A1 m ra hg => ?_⟩⟩
      have z := hg _ (List.mem_singleton.mpr rfl)
      obtain ⟨vs, h0, r⟩ := ra _ _ z
      exact ⟨vs, SqL.of h0, r⟩
    · cases h
  · cases h
    obtain ⟨p, vs, rfl, h, q⟩ := rx
    exact ⟨p, rfl, .inl ⟨rfl, fun H1 A1 m _ _ => ⟨vs, (m.fl h).sql, RelDs.mono m _ _ q⟩⟩⟩
theorem src_holds {A : AH} {d : D} {k : Bool} {ds : List D} {Gd : Gd} (h : srcD A d = some (k, ds, Gd)) : holds Gd A := by
  cases d <;> simp only [srcD] at h <;> try (cases h; done)
  · cases h; exact fun _ z => nomatch z
  · split at h
    · rename_i e
      cases h
      intro p hp
      cases List.mem_singleton.mp hp
      exact e
    · cases h
  · cases h; exact fun _ z => nomatch z
theorem zipD_get {ds es : List D} {i : Nat} {d : D} (h : (zipD ds es)[i]? = some d) : ∃ x y, ds[i]? = some x ∧ es[i]? = some y ∧ d = .tup [x, y] := by
  unfold zipD at h
  rw [List.getElem?_zipWith] at h
  cases q1 : ds[i]? with
  | none => rw [q1] at h; simp at h
  | some x =>
    cases q2 : es[i]? with
    | none => rw [q1, q2] at h; simp at h
    | some y => rw [q1, q2] at h; simp at h; exact ⟨x, y, rfl, rfl, h.symm⟩
theorem pair2 {K : PySem.W.Frag} {H : Hp} {T : Addr} {x y : V} {d e : D} (n : H T = none) (r : RelD K H d x) (q : RelD K H e y) :
    SqT K (L2.upd H T (.tup [x, y])) T [x, y] ∧ RelDs K (L2.upd H T (.tup [x, y])) [d, e] [x, y] :=
  ⟨.inl (.inl upd_same), _, _, rfl, RelD.mono (Mono.fresh n) _ _ r, _, _, rfl, RelD.mono (Mono.fresh n) _ _ q, rfl⟩
theorem holds_app {G1 G2 : Gd} {A : AH} (h : holds (G1 ++ G2) A) : holds G1 A ∧ holds G2 A := ⟨fun p q => h p (List.mem_append_left _ q), fun p q => h p (List.mem_append_right _ q)⟩
theorem ix_zipL {H : Hp} {p q : Addr} {ds es : List D} {G1 G2 : Gd} (h : SrcL c H p ds G1) (k : SrcL c H q es G2) : lIx c true H (Itz c.K p q) (zipD ds es) (G1 ++ G2) := fun i H1 A m ra hg => by
  obtain ⟨vs, s1, r1⟩ := h H1 A m ra (holds_app hg).1
  obtain ⟨ws, s2, r2⟩ := k H1 A m ra (holds_app hg).2
  refine ⟨fun d e => ?_, fun hi => ⟨vs, ws, s1, s2, ?_⟩⟩
  · obtain ⟨x, y, hx, hy, rfl⟩ := zipD_get e
    obtain ⟨u, hu, ru⟩ := r1.get hx
    obtain ⟨v, hv, rv⟩ := r2.get hy
    refine ⟨⟨vs, ws, u, v, s1, s2, hu, hv⟩, ?_⟩
    rintro z H' ⟨T, u', v', rfl, hT, rfl, g1, g2⟩
    have e1 := g1 vs s1
    have e2 := g2 ws s2
    rw [hu] at e1
    rw [hv] at e2
    cases e1
    cases e2
    obtain ⟨t1, t2⟩ := pair2 hT ru rv
    exact ⟨Mono.fresh hT, ra.aside hT, .inr ⟨rfl, _, T, _, rfl, rfl, t1, t2⟩⟩
  · unfold zipD at hi
    rw [List.length_zipWith] at hi
    rw [r1.length, r2.length]
    omega
theorem ix_zipT {H : Hp} {p q : Addr} {ds es : List D} {G1 G2 : Gd} (h : SrcT c H p ds G1) (k : SrcT c H q es G2) : lIx c true H (RZ.ItzT c.K p q) (zipD ds es) (G1 ++ G2) := fun i H1 A m ra hg => by
  obtain ⟨vs, s1, r1⟩ := h H1 A m ra (holds_app hg).1
  obtain ⟨ws, s2, r2⟩ := k H1 A m ra (holds_app hg).2
  refine ⟨fun d e => ?_, fun hi => ⟨vs, ws, s1, s2, ?_⟩⟩
  · obtain ⟨x, y, hx, hy, rfl⟩ := zipD_get e
    obtain ⟨u, hu, ru⟩ := r1.get hx
    obtain ⟨v, hv, rv⟩ := r2.get hy
    refine ⟨⟨vs, ws, u, v, s1, s2, hu, hv⟩, ?_⟩
    rintro z H' ⟨T, u', v', rfl, hT, rfl, g1, g2⟩
    have e1 := g1 vs s1
    have e2 := g2 ws s2
    rw [hu] at e1
    rw [hv] at e2
    cases e1
    cases e2
    obtain ⟨t1, t2⟩ := pair2 hT ru rv
    exact ⟨Mono.fresh hT, ra.aside hT, .inr ⟨rfl, _, T, _, rfl, rfl, t1, t2⟩⟩
  · unfold zipD at hi
    rw [List.length_zipWith] at hi
    rw [r1.length, r2.length]
    omega
theorem i_zip (hK : X.K = c.K) {elts : List Expr} {kk : Nat} {tpos p : Pos} (hg : Gl X "zip") (hm : X.mg "zip" = none) (ha : PE X a (lE c (ev G ea) W)) (hb : PE X b (lE c (ev G eb) W)) (hn : noStar a = true) (hn2 : noStar b = true) :
    PI X (.Tuple elts kk tpos) (.Call (.Name "zip" p) [a, b] [] pos) (lI c true (evI G (.zip ea eb)) W) := by
  refine PI.imp (RZ.pi_zipA hg hm (pa_cons ha (pa_cons hb pa_nil (starEach_cons hn2)) (starEach_cons hn)) (starEach_cons hn) (by rw [starEach_cons hn2]; rfl)) fun σ H R h => ?_
  obtain ⟨σd, A, Xd, Rd, rs, ra, t, f, fw⟩ := h
  refine lE_go rs .refl ra fw t fun x A1 v H1 q1 m1 ra1 rx => ?_
  refine lE_go rs m1 ra1 fw q1 fun y A2 w H2 q2 m2 ra2 ry => ?_
  split at q2
  · rename_i k1 ds G1 k2 es G2 e1 e2
    obtain ⟨rfl, q3⟩ := q2
    obtain ⟨p, rfl, o1⟩ := src_ok (RelD.mono m2 _ _ rx) e1
    obtain ⟨q, rfl, o2⟩ := src_ok ry e2
    rcases o1 with ⟨rfl, s1⟩ | ⟨rfl, s1⟩
    · rcases o2 with ⟨_, s2⟩ | ⟨z, _⟩
      · obtain ⟨vs, u1, _⟩ := s1 H2 A2 .refl ra2 (src_holds e1)
        obtain ⟨ws, u2, _⟩ := s2 H2 A2 .refl ra2 (src_holds e2)
        exact ⟨p, q, vs, ws, rfl, .inl ⟨by rw [hK]; exact u1, by rw [hK]; exact u2, by rw [hK]; exact f _ _ _ _ _ q3 (m1.trans m2) ra2 (ix_zipL s1 s2)⟩⟩
      · cases z
    · rcases o2 with ⟨z, _⟩ | ⟨_, s2⟩
      · cases z
      · obtain ⟨vs, u1, _⟩ := s1 H2 A2 .refl ra2 (src_holds e1)
        obtain ⟨ws, u2, _⟩ := s2 H2 A2 .refl ra2 (src_holds e2)
        exact ⟨p, q, vs, ws, rfl, .inr ⟨by rw [hK]; exact u1, by rw [hK]; exact u2, by rw [hK]; exact f _ _ _ _ _ q3 (m1.trans m2) ra2 (ix_zipT s1 s2)⟩⟩
  · exact q2.elim
end
end Py

namespace Py
open PySem PySem.Spec PyProof.Rows L2
/-! ### keywords and defaults -/
/-- one form of a call: m values by place, keywords ks; what the defaults (dv) leave -/
structure Form (K : PySem.W.Frag) (fd : FuncData) (ps : List Str) (m : Nat) (ks : List Str) (dv : List Value) : Prop where
  to : ∀ (s : Shared) (us ws : List Value), K.In s.heap → us.length = m → ws.length = ks.length → BindsTo s fd ⟨us, ks.zip ws⟩ (ps.zip (us ++ ws ++ dv))
  len : m + ks.length + dv.length = ps.length
section
variable {X : Cx} {CX : CXT} {k : Nat} {f : Addr} {fd : FuncData} {ps ks : List Str} {sp : Sp} {E : L2.St → XK} {x : Str} {p pos : Pos} {e : Expr} {es : List Expr} {kws : List Keyword} {t tk : TA} {dv : List Value} {dV : List V} {m : Nat}
theorem run_GK {pins : List (Addr × Obj)} {σ : L2.St} {H : Hp} {s : Shared} {Q : VK} {us ws : List Value} {vs zs : List V} (F : FnG X.prog X.w X.K X.mg X.base CX k f fd ps sp) (hr : Room k X.A) (hg : X.A.guards = some []) (hb : Form X.K fd ps m ks dv) (hd : Vals dV dv) (hx : PassesAt CX X σ (E σ))
    (I : Inv X pins σ H s) (r : Vals vs us) (rz : Vals zs ws) (n1 : us.length = m) (n2 : ws.length = ks.length) (h : sp (vs ++ zs ++ dV) H Q (E σ)) : wpAny (model X.prog X.w) X.A (call (.ref f) us (ks.zip ws)) (EP X pins σ Q) X.xe s := by
  apply wpAny_call
  apply codeAny_mono (F.run X.A X.stack s H ⟨us, ks.zip ws⟩ (us ++ ws ++ dv) (vs ++ zs ++ dV) Q (E σ) hr hg I.env0 (hb.to s us ws I.kIn n1 n2) ((r.append rz).append hd) h)
  intro r s' hq
  cases r with
  | error e => exact hx pins H s e s' I hq
  | ok fl => cases fl with
    | ret u => exact I.after hq
    | _ => exact hq.elim
/-- f(e, .., k = v, ..) -/
theorem pe_GK (F : FnG X.prog X.w X.K X.mg X.base CX k f fd ps sp) (hr : Room k X.A) (hgd : X.A.guards = some []) (hg : Gl X x) (hm : X.mg x = some (.ref f)) (hk : PySem.W.keepIn X.K (.ref f) = true) (hb : Form X.K fd ps m ks dv) (hd : Vals dV dv) (hx : ∀ σ, PassesAt CX X σ (E σ))
    (ha : PA X (e :: es) t) (hkw : PK X kws tk) (hall : (backToKw pos (keywordEach kws X.env)).all (·.1.isSome) = true) (hks : (backToKw pos (keywordEach kws X.env)).filterMap (·.1) = ks) (hdb : (x == ("__debug__" : Str)) = false)
    (he : starEach (e :: es) X.env = (false, eval e X.env) :: starEach es X.env) (hpl : ((backTo pos (starEach (e :: es) X.env)).any (·.1) || (backToKw pos (keywordEach kws X.env)).any (·.1.isNone)) = false) :
    PE X (.Call (.Name x p) (e :: es) kws pos) (fun σ H Q => t σ H fun vs H1 => tk σ H1 fun zs H2 => vs.length = m ∧ zs.length = ks.length ∧ sp (vs ++ zs ++ dV) H2 Q (E σ)) := by
  constructor
  intro pins s σ H Q I h
  apply wpAny_Call_Name_kw
  apply ld_glob I hg hm _ hdb
  apply PySem.W.callWith_KW (h₀ := X.base) I.ok.mod.kin hk hall _ hpl he
  apply thn (ha.run pos pins s σ H _ I h)
  rintro us s1 ⟨vs, H1, I1, r, q⟩
  apply thn (hkw.run pos pins s1 σ H1 _ I1 q)
  rintro ws s2 ⟨zs, H2, I2, rz, n1, n2, q2⟩
  refine ⟨I2.kIn, ?_⟩
  rw [hks]
  exact run_GK (us := us) F hr hgd hb hd (hx σ) I2 r rz (r.length.symm.trans n1) (rz.length.symm.trans n2) q2
/-- f(e, ..), the last parameters by their defaults -/
theorem pe_GD (F : FnG X.prog X.w X.K X.mg X.base CX k f fd ps sp) (hr : Room k X.A) (hgd : X.A.guards = some []) (hg : Gl X x) (hm : X.mg x = some (.ref f)) (hk : PySem.W.keepIn X.K (.ref f) = true) (hb : Form X.K fd ps m [] dv) (hd : Vals dV dv) (hx : ∀ σ, PassesAt CX X σ (E σ))
    (ha : PA X (e :: es) t) (hdb : (x == ("__debug__" : Str)) = false) (he : starEach (e :: es) X.env = (false, eval e X.env) :: starEach es X.env) (hpl : (backTo pos (starEach es X.env)).any (·.1) = false) :
    PE X (.Call (.Name x p) (e :: es) [] pos) (fun σ H Q => t σ H fun vs H1 => vs.length = m ∧ sp (vs ++ dV) H1 Q (E σ)) := by
  constructor
  intro pins s σ H Q I h
  apply wpAny_Call_Name_kw
  apply ld_glob I hg hm _ hdb
  apply PySem.W.callWith_K (h₀ := X.base) I.ok.mod.kin hk _ he hpl
  apply thn (ha.run pos pins s σ H _ I h)
  rintro us s1 ⟨vs, H1, I1, r, n1, q⟩
  refine ⟨I1.kIn, ?_⟩
  exact run_GK (us := us) (ws := []) (zs := []) F hr hgd hb hd (hx σ) I1 r .nil (by rw [← r.length]; exact n1) rfl (by rw [List.append_nil]; exact q)
end
end Py

namespace Py
open PySem PySem.Spec PyProof.Rows L2
section
variable {c : RC} {X : Cx} {W : WX} {G : GEnv} {a b e : Expr} {ea eb : E} {es : List Expr} {ees : Es} {pos : Pos}
/-! ### {} -/
theorem s_dnil : PE X (.Dict [] [] pos) (lE c (ev G .dnil) W) := by
  refine PE.imp (PE.fz pe_dnewK) fun σ H Q h => ?_
  obtain ⟨σd, A, Xd, Qd, rs, ra, t, f, fw⟩ := h
  exact f.dct t ra rfl
/-! ### {k: v, ..} -/
def FolKV (c : RC) (H : Hp) (Q : List (V × V) → Hp → Prop) (Qd : List (Key × D) → AH → Prop) : Prop := ∀ kvs A' ws H', Qd kvs A' → Mono H H' → RelA c A' H' → RelKv c.K H' kvs ws → Q (ws.map fun p => (kV p.1, p.2)) H'
/-- the pairs' expressions, their readings -/
inductive PsOk (c : RC) (G : GEnv) (X : Cx) (W : WX) : Ps → List (Option Expr) → List Expr → List (TE × TE) → Prop
  | nil : PsOk c G X W .nil [] [] []
  | cons {k v : Expr} {ek ev' : E} {ps : Ps} {ks : List (Option Expr)} {vs : List Expr} {trs : List (TE × TE)} (hk : PE X k (lE c (ev G ek) W)) (hv : PE X v (lE c (ev G ev') W)) (h : PsOk c G X W ps ks vs trs) :
      PsOk c G X W (.cons ek ev' ps) (some k :: ks) (v :: vs) ((lE c (ev G ek) W, lE c (ev G ev') W) :: trs)
theorem PsOk.pps : ∀ {ps : Ps} {ks : List (Option Expr)} {vs : List Expr} {trs : List (TE × TE)}, PsOk c G X W ps ks vs trs → PPs X pos ks vs trs
  | _, _, _, _, .nil => pps_nil
  | _, _, _, _, .cons hk hv h => pps_cons hk hv h.pps
theorem PsOk.all : ∀ {ps : Ps} {ks : List (Option Expr)} {vs : List Expr} {trs : List (TE × TE)}, PsOk c G X W ps ks vs trs → ks.all (·.isSome) = true ∧ ks.length = vs.length
  | _, _, _, _, .nil => ⟨rfl, rfl⟩
  | _, _, _, _, .cons _ _ h => ⟨by simp [h.all.1], by simp [h.all.2]⟩
theorem PsOk.go : ∀ {ps : Ps} {ks : List (Option Expr)} {vs : List Expr} {trs : List (TE × TE)} (_ : PsOk c G X W ps ks vs trs) {σ : L2.St} {H H1 : Hp} {σd : DSt} {A : AH} {Xd : Dx} {Q : List (V × V) → Hp → Prop} {Qd : List (Key × D) → AH → Prop},
    RelS c.K H σd σ → Mono H H1 → RelA c A H1 → FolW c H (fun cl d H' => W cl d σ H') Xd → evKV G ps σd A Xd Qd → FolKV c H1 Q Qd → tPairs trs σ H1 Q
  | _, _, _, _, .nil, σ, H, H1, σd, A, Xd, Q, Qd, rs, m, ra, fw, t, f => f [] A [] H1 t .refl ra rfl
  | _, _, _, _, .cons hk hv h, σ, H, H1, σd, A, Xd, Q, Qd, rs, m, ra, fw, t, f => by
    refine lE_go rs m ra fw t fun x A2 v H2 q2 m2 ra2 rx => ?_
    refine lE_go rs (m.trans m2) ra2 fw q2 fun y A3 w H3 q3 m3 ra3 ry => ?_
    refine h.go rs ((m.trans m2).trans m3) ra3 fw q3 fun kvs A4 ws H4 q4 m4 ra4 r4 => ?_
    split at q4
    · rename_i k ek
      have e1 := dkey_rel ek rx
      subst e1
      exact f _ A4 ((k, w) :: ws) H4 q4 ((m2.trans m3).trans m4) ra4 ⟨w, ws, rfl, RelD.mono m4 _ _ ry, r4⟩
    · exact q4.elim
theorem s_dsp {ps : Ps} {ks : List (Option Expr)} {vs : List Expr} {trs : List (TE × TE)} (h : PsOk c G X W ps ks vs trs) (h0 : ks ≠ []) (h15 : ks.length ≤ 15) : PE X (.Dict ks vs pos) (lE c (ev G (.dsp ps)) W) := by
  refine PE.imp (PE.fz (pe_disp h.pps h.all.1 h.all.2 h0 h15)) fun σ H Q hh => ?_
  obtain ⟨σd, A, Xd, Qd, rs, ra, t, f, fw⟩ := hh
  intro p hp
  have m := Mono.fresh (o := .dK []) hp
  have ra1 : RelA c (put A p (.dct [])) (L2.upd H p (.dK [])) := ra.put m ⟨[], upd_same, rfl⟩
  refine h.go rs m ra1 fw (t p (RelA_none ra hp)) fun kvs A3 ws H3 q3 m3 ra3 r3 => ?_
  obtain ⟨q3, q4, q5⟩ := q3
  obtain ⟨w0, e0, r0⟩ := ra3 _ _ q3
  have r0' : w0 = [] := r0
  subst r0'
  refine ⟨e0, ws, rfl, by rw [r3.length]; exact q4, ?_⟩
  have m4 : Mono H3 (L2.upd H3 p (.dK (mergeK [] ws))) := Mono.at e0 fun _ _ z => nomatch z
  exact ((f.from (m.trans (m3.trans m4))).outD q5 (ra3.put m4 ⟨_, upd_same, (RelKv.merge r3 (ds := []) (vs := []) rfl).mono m4⟩))
/-! ### dict(..) -/
theorem call_dictR : CallR X (.type "dict") (fun xs H Q => ∃ a kvs, xs = [.ref a] ∧ Rd H a (.dK kvs) ∧ ∀ p, H p = none → Q (.ref p) (upd H p (.dK kvs))) := by
  intro pins s σ H xs us Q I r h
  obtain ⟨a, kvs, rfl, hr, q⟩ := h
  obtain ⟨u, rfl, rx⟩ := vals1 r
  cases rx
  exact d_copyOf I hr fun p s' hp I' => ⟨.ref p, _, I', rfl, q p hp⟩
theorem pairs_ok {K : PySem.W.Frag} {H : Hp} : ∀ {ds : List D} {vs : List V} {kvs : List (Key × D)}, RelDs K H ds vs → pairsD ds = some kvs → ∃ (ps : List Addr) (ws : List (Key × V)), vs = ps.map V.ref ∧ Paired (fun p kv => SqT K H p [kV kv.1, kv.2]) ps ws ∧ RelKv K H kvs ws
  | [], _, _, r, e => by cases (show _ = [] from r); cases e; exact ⟨[], [], rfl, .nil, rfl⟩
  | d :: ds, _, kvs, ⟨v, w, ev, h, r⟩, e => by
    subst ev
    cases d <;> try (simp only [pairsD] at e; cases e; done)
    rename_i els
    rcases els with _ | ⟨x, _ | ⟨y, _ | _⟩⟩ <;> try (simp only [pairsD] at e; cases e; done)
    have e : (match dkey x with | some k => (pairsD ds).map ((k, y) :: ·) | none => none) = some kvs := e
    split at e
    · rename_i k ek
      cases q : pairsD ds with
      | none => rw [q] at e; cases e
      | some kr =>
        rw [q] at e
        cases e
        obtain ⟨ps, ws, e1, e2, e3⟩ := pairs_ok r q
        obtain ⟨a, vs, rfl, ht, rr⟩ := h
        obtain ⟨u1, u2, rfl, r1, r2⟩ := rr.two_of
        have := dkey_rel ek r1
        subst this
        exact ⟨a :: ps, (k, u2) :: ws, by rw [e1]; rfl, .cons ht.sqt e2, u2, ws, rfl, r2, e3⟩
    · cases e
theorem b_dict (hc : X.calm = true) (hK : X.K = c.K) : CallR X (.type "dict") (lRs c (rB .dict)) := by
  refine CallR.imp (CallR.or (CallR.fz call_dictR) (CallR.fz (call_dictP hc))) fun xs H Q h => ?_
  obtain ⟨A, ds, Qd, ra, rx, r, f⟩ := h
  rcases ds with _ | ⟨d, _ | ⟨e, _⟩⟩ <;> try exact r.elim
  obtain ⟨v, rfl, rv⟩ := rx.one_of
  simp only [rB] at r
  split at r
  · rename_i kvs e
    obtain ⟨a, ws, rfl, hr, rk⟩ := mapD_rel ra rv e
    exact .inl ⟨a, ws, rfl, hr, f.dct r ra rk⟩
  · split at r
    · rename_i kvs e
      cases e2 : lstD A d with
      | none => rw [e2] at e; cases e
      | some ds =>
        rw [e2] at e
        obtain ⟨a, vs, rfl, h1, q⟩ := lstD_rel ra rv e2
        obtain ⟨ps, ws, rfl, pp, rk⟩ := pairs_ok q e
        exact .inr ⟨a, ps, ws, rfl, by rw [hK]; exact h1, by rw [hK]; exact pp, f.dct r.2 ra (RelKv.merge rk (ds := []) (vs := []) rfl)⟩
    · exact r.elim
/-! ### list(d.items()) -/
def itF (H : Hp) (S : Addr) (as : List Addr) (kvs : List (Key × V)) (h' : Heap) : Hp := fun b => if b = S then some (.lst (as.map V.ref)) else if b ∈ as then
  (match h'.get? b, kvs[as.idxOf b]? with | some ob, some p => some (.frz ob (.tup [kV p.1, p.2])) | _, _ => none) else H b
theorem idxOf_nodup : ∀ {as : List Addr} {j : Nat} {b : Addr}, as.Nodup → as[j]? = some b → as.idxOf b = j
  | a :: as, 0, b, _, h => by
    cases h
    simp
  | a :: as, j + 1, b, nd, h => by
    have h : as[j]? = some b := by simpa using h
    have n := List.nodup_cons.mp nd
    have hne : a ≠ b := fun e => n.1 (e ▸ List.mem_of_getElem? h)
    rw [List.idxOf_cons, beq_eq_false_iff_ne.mpr hne]
    simp [idxOf_nodup n.2 h]
theorem items_laidF {pins : List (Addr × Obj)} {σ : L2.St} {H : Hp} {s : Shared} {h' : Heap} {tk : Nat} {kvs : List (Key × V)} {vs : List (Key × Value)} {acc : Array Value} {c : Nat} {as : List Addr} (I : Inv X pins σ H s) (hz : kvs.length ≤ sizeLine) (kv : KV kvs vs)
    (hk : ∀ b o, s.heap.get? b = some o → h'.get? b = some o) (hS : h'.get? s.heap.objs.size = some { cls := .type "list", dict := none, data := .seq acc c, slots := #[] }) (hl : as.length = vs.length) (hG : PySem.W.KdxG (mixKind X.prog X.w) vs s.heap.objs.size h' as) (hacc : acc.toList = as.map Value.ref) :
    ∃ H' : Hp, (∀ b o, H b = some o → H' b = some o) ∧ H s.heap.objs.size = none ∧ H' s.heap.objs.size = some (.lst (as.map V.ref)) ∧ Paired (fun (t : Addr) (q : Key × V) => ∃ o : Obj, H' t = some (.frz o (.tup [kV q.1, q.2])) ∧ o.dict = none ∧ o.slots = #[]) as kvs ∧ s.heap.objs.size ∉ as ∧ Inv X pins σ H' { s with heap := h', toks := tk } := by
  have lk : kvs.length = vs.length := Paired.length kv
  have hSn : s.heap.objs.size ∉ as := fun z => Nat.lt_irrefl _ (hG.above _ z)
  have nd : as.Nodup := List.Pairwise.imp (fun {a b} (h : a < b) => Nat.ne_of_lt h) hG.rise
  have new : ∀ t ∈ as, H t = none := fun t ht => I.hok.fresh (Nat.le_of_lt (hG.above t ht))
  have newS : H s.heap.objs.size = none := I.hok.fresh (Nat.le_refl _)
  have low : ∀ b o, s.heap.get? b = some o → b ∉ as ∧ b ≠ s.heap.objs.size := fun b o e => ⟨fun z => absurd (Heap.lt_size e) (Nat.not_lt.mpr (Nat.le_of_lt (hG.above b z))), Nat.ne_of_lt (Heap.lt_size e)⟩
  have off : ∀ b, b ∉ as → b ≠ s.heap.objs.size → itF H s.heap.objs.size as kvs h' b = H b := fun b h1 h2 => by unfold itF; rw [if_neg h2, if_neg h1]
  have kp : ∀ b u, H b = some u → (itF H s.heap.objs.size as kvs h') b = some u := fun b u e => by
    rw [off b (fun z => by rw [new b z] at e; cases e) (fun z => by rw [z, newS] at e; cases e)]
    exact e
  have eS : itF H s.heap.objs.size as kvs h' s.heap.objs.size = some (.lst (as.map V.ref)) := by unfold itF; rw [if_pos rfl]
  have at_ : ∀ (j : Nat) (b : Addr) (pk : Key × V), as[j]? = some b → kvs[j]? = some pk → ∃ (ob : Obj) (key x : Value), h'.get? b = some ob ∧ ob.dict = none ∧ ob.slots = #[] ∧ itF H s.heap.objs.size as kvs h' b = some (.frz ob (.tup [kV pk.1, pk.2])) ∧ Vals [kV pk.1, pk.2] [key, x] ∧ ob.cls = .type "tuple" ∧ ∃ n, ob.data = .seq #[key, x] n := fun j b pk e1 e2 => by
    have hb : b ∈ as := List.mem_of_getElem? e1
    obtain ⟨key, k, x, f1, f2, f3⟩ := hG.pairs j b e1
    obtain ⟨qv, g1, g2, g3⟩ := LiI.paired_get kv e2
    rw [f1] at g1
    cases g1
    have rk : RelV (kV pk.1) key := by
      rw [g2]
      exact relV_key (show keyIs k key = true from f2)
    refine ⟨_, key, x, f3, rfl, rfl, ?_, .cons rk (.cons g3 .nil), rfl, _, rfl⟩
    unfold itF
    have hne : b ≠ s.heap.objs.size := fun z => hSn (by rw [← z]; exact hb)
    rw [if_neg hne, if_pos hb, f3, idxOf_nodup nd e1, e2]
  have atP : ∀ (as2 : List Addr) (kvs2 : List (Key × V)), as2.length = kvs2.length → (∀ (j : Nat) (b : Addr) (pk : Key × V), as2[j]? = some b → kvs2[j]? = some pk → ∃ o : Obj, itF H s.heap.objs.size as kvs h' b = some (.frz o (.tup [kV pk.1, pk.2])) ∧ o.dict = none ∧ o.slots = #[]) →
      Paired (fun (t : Addr) (q : Key × V) => ∃ o : Obj, itF H s.heap.objs.size as kvs h' t = some (.frz o (.tup [kV q.1, q.2])) ∧ o.dict = none ∧ o.slots = #[]) as2 kvs2 := fun as2 => by
    induction as2 with
    | nil => intro kvs2 h _; cases kvs2 with | nil => exact .nil | cons _ _ => simp at h
    | cons a r ih => intro kvs2 h q; cases kvs2 with | nil => simp at h | cons p t => exact .cons (q 0 a p rfl rfl) (ih t (by simpa using h) fun j b pk e1 e2 => q (j + 1) b pk (by simpa using e1) (by simpa using e2))
  refine ⟨itF H s.heap.objs.size as kvs h', kp, newS, eS, atP as kvs (by omega) fun j b pk e1 e2 => let ⟨ob, _, _, _, d1, d2, e3, _⟩ := at_ j b pk e1 e2; ⟨ob, e3, d1, d2⟩, hSn, ?_⟩
  refine I.call' (ch := []) rfl ⟨fun b o q _ _ _ => hk b o q, fun b o q _ _ _ => ⟨o.slots, hk b o q⟩, fun b o q n _ => ?_, fun b o q _ => ⟨o, hk b o q⟩, fun b xs q => kp b _ q, fun b o u q => kp b _ q, fun b ps q => ⟨#[], by rw [kp b _ q]; simp⟩⟩ (fun b u q => ?_) I.bare fun b z => by simp at z
  · obtain ⟨z1, z2⟩ := low b o q
    rw [off b z1 z2]
    exact n
  · by_cases hb : b ∈ as
    · obtain ⟨j, e1⟩ := List.mem_iff_getElem?.mp hb
      have hj : j < kvs.length := by
        have := (List.getElem?_eq_some_iff.mp e1).1
        omega
      obtain ⟨ob, key, x, g1, g2, g3, g4, g5, g6, n, g7⟩ := at_ j b _ e1 (List.getElem?_eq_getElem hj)
      rw [g4] at q
      cases q
      exact ⟨g1, by show 2 ≤ sizeLine; decide, [key, x], g5, ob, g1, g6, n, g7⟩
    · by_cases hb2 : b = s.heap.objs.size
      · rw [hb2] at q ⊢
        rw [eS] at q
        cases q
        refine ⟨by rw [List.length_map]; omega, acc.toList, c, by rw [hacc]; exact LiI.vals_refs as, ?_⟩
        rw [Array.toArray_toList]
        exact hS
      · rw [off b hb hb2] at q
        exact (I.hok b u q).stay (fun d v _ y => hk d v y) (fun d y => kp d _ y) fun d xs y => kp d _ y
def tLItems (te : TE) : TE := fun σ H Q => te σ H fun x H1 => ∃ (d : Addr) (kvs : List (Key × V)), x = .ref d ∧ Rd H1 d (.dK kvs) ∧
  ∀ (H' : Hp) (p : Addr) (ts : List Addr), (∀ b o, H1 b = some o → H' b = some o) → H1 p = none → H' p = some (.lst (ts.map V.ref)) → Paired (fun (t : Addr) (q : Key × V) => ∃ o : Obj, H' t = some (.frz o (.tup [kV q.1, q.2])) ∧ o.dict = none ∧ o.slots = #[]) ts kvs → p ∉ ts → Q (.ref p) H'
theorem pe_lItems {te : TE} {p apos cpos : Pos} (hc : X.calm = true) (he : PE X e te) (hg : Gl X "list") (hm : X.mg "list" = none) (hbase : attributeBase e "items" X.env (eval e X.env) = eval e X.env) (hline : (apos.endLine == cpos.line) = true) :
    PE X (.Call (.Name "list" p) [.Call (.Attribute e "items" apos) [] [] cpos] [] pos) (tLItems te) := by
  have hs : starEach [.Call (.Attribute e "items" apos) [] [] cpos] X.env = (false, eval (.Call (.Attribute e "items" apos) [] [] cpos) X.env) :: starEach [] X.env := rfl
  refine ⟨fun pins s σ H Q I hq => ?_⟩
  refine wpAny_Call_Name_kw (ld_blt I hg hm (show bootBuiltins "list" = some (.type "list") by decide +kernel) ?_)
  refine PyProof.Rows.callWith_type1 ?_ hs rfl
  rw [hs]
  show wpAny _ _ (spliced ((false, eval (.Call (.Attribute e "items" apos) [] [] cpos) X.env) :: backTo pos (starEach [] X.env))) _ _ s
  refine Calls.spliced_cons ?_
  refine wpAny_Call_method (T := "dict") (id := "dict.items") hbase rfl hline F.plainAttrs_dict F.slot_dict_items F.type_dict_items (thn (he.run pins s σ H _ I hq) fun u s1 ⟨x, H1, I1, rx, d, kvs, ex, hd, q⟩ => ?_)
  subst ex
  obtain rfl : u = Value.ref d := rx
  obtain ⟨hz, hs0, vs, kv, hdo⟩ := dk_rd I1.hok hd
  obtain ⟨ep, hat⟩ := hdo.dictAt
  have lk : kvs.length = vs.length := Paired.length kv
  have I2 : Inv X pins σ H1 { s1 with heap := s1.heap.push { cls := .type "dict_items", data := .fields #[.ref d] } } := I1.kept (t' := s1.toks) fun b ob q => Heap.get?_push_of_some _ q
  refine ⟨hdo.typeIs, hdo.mapOf.noDict, ?_⟩
  show wpAny _ _ (callWith cpos (.builtin "dict.items") [.ref d] [] []) _ X.xe s1
  refine method_meetsIn F.slot_dict_items F.entry_dict_items rfl (PySem.evalArgs_none ⟨rfl, hdo.typeIs, F.args_dict_items_1 _, _, meets_dict_items (mixKind X.prog X.w) d hs0, ⟨vs, hdo⟩, ?_⟩)
  refine Calls.spliced_nil ?_
  refine PySem.W.kdx_call (knd := mixKind X.prog X.w) (kvs := vs) (ep := ep) (I1.ok.hd hc) ⟨_, Heap.get?_push_size _ rfl, rfl, rfl⟩ (hat.push _) (by omega) fun h' tk acc c as hk hS hl hG hacc => ?_
  obtain ⟨H', k1, k2, k5, k6, k7, J⟩ := items_laidF (tk := tk) I2 hz kv hk hS hl hG hacc
  exact ⟨.ref _, H', J, rfl, q H' _ as k1 k2 k5 k6 k7⟩
theorem items_rel {K : PySem.W.Frag} {H H' : Hp} (m : Mono H H') : ∀ {kvs : List (Key × D)} {ws : List (Key × V)} {ts : List Addr}, RelKv K H kvs ws → Paired (fun (t : Addr) (q : Key × V) => ∃ o : Obj, H' t = some (.frz o (.tup [kV q.1, q.2])) ∧ o.dict = none ∧ o.slots = #[]) ts ws →
    RelDs K H' (kvs.map fun p => .tup [keyD p.1, p.2]) (ts.map V.ref)
  | [], _, _, r, q => by
    cases (show _ = [] from r)
    cases q
    exact rfl
  | p :: kvs, _, _, ⟨v, t, e, h, r⟩, q => by
    subst e
    cases q with
    | cons q1 q2 =>
      obtain ⟨o, e1, e2⟩ := q1
      exact ⟨_, _, rfl, ⟨_, _, rfl, .inl ⟨o, e1, e2⟩, _, _, rfl, keyD_rel _, _, _, rfl, RelD.mono m _ _ h, rfl⟩, items_rel m r q2⟩
theorem s_litems {p apos cpos : Pos} (hc : X.calm = true) (he : PE X e (lE c (ev G ea) W)) (hg : Gl X "list") (hm : X.mg "list" = none) (hbase : attributeBase e "items" X.env (eval e X.env) = eval e X.env) (hline : (apos.endLine == cpos.line) = true) :
    PE X (.Call (.Name "list" p) [.Call (.Attribute e "items" apos) [] [] cpos] [] pos) (lE c (ev G (.litems ea)) W) := by
  refine PE.imp (PE.fz (pe_lItems hc he hg hm hbase hline)) fun σ H Q h => ?_
  obtain ⟨σd, A, Xd, Qd, rs, ra, t, f, fw⟩ := h
  refine lE_go rs .refl ra fw t fun x A1 v H1 q1 m1 ra1 rx => ?_
  split at q1
  · rename_i kvs e
    obtain ⟨a, ws, rfl, hr, rk⟩ := mapD_rel ra1 rx e
    refine ⟨a, ws, rfl, hr, fun H' p ts k1 k2 k3 k4 k5 => ?_⟩
    have m2 : Mono H1 H' := fun b o u _ z => k1 _ _ z
    have r2 := items_rel m2 rk k4
    rw [allocL_eq] at q1
    have old : ∀ b o, A1 b = some o → b ≠ p ∧ H' b = H1 b := fun b o z => by
      obtain ⟨u, hu⟩ := RelO_some (ra1 b o z)
      refine ⟨fun w => ?_, ?_⟩
      · rw [w, k2] at hu
        cases hu
      · rw [hu]
        exact k1 _ _ hu
    rcases q1 with q1 | q1
    · refine .step (u := .lst (ts.map V.ref)) trivial k3 fun o => .here ?_
      have m3 : Mono H' (L2.upd H' p (.frz o (.lst (ts.map V.ref)))) := Mono.frz k3 trivial
      refine (f.from m1) (.fl _) A1 _ _ q1 (m2.trans m3) (fun b o z => ?_) ⟨p, _, rfl, .inl ⟨o, upd_same⟩, r2.mono m3⟩
      obtain ⟨z1, z2⟩ := old b o z
      exact (ra1 b o z).keep (m2.trans m3) (by rw [upd_ne z1]; exact z2)
    · refine .here ((f.from m1) (.ref p) (put A1 p (.lst _)) _ H' (q1 p (RelA_none ra1 k2)) m2 (fun b o z => ?_) rfl)
      unfold Py.put at z
      by_cases hb : b = p
      · subst hb
        rw [if_pos rfl] at z
        cases z
        exact ⟨_, k3, r2⟩
      · rw [if_neg hb] at z
        exact (ra1 b o z).keep m2 (old b o z).2
  · exact q1.elim
/-! ### {k: v for ..} -/
theorem dc_lift (hK : X.K = c.K) {tg : Tg} {it : I} {kx elt : E} {cs : Es} {own : List (Str × Nat)} {tup : Bool} (ht : tup = true → ∃ xs, tg = .tup xs) (hown : ∀ i ∈ tg.ixs, i ∈ own.map (·.2)) {σ : L2.St} {H : Hp} {Q Q' : VK} (hQ : ∀ v H, FzS Q v H → Q' v H) (h : lE c (ev G (.dc kx elt tg it cs own)) W σ H Q) :
    tDc (lI c tup (evI G it) W) (gOf X.K tg) (lT c (evC G cs) noW) (lE c (ev G kx) noW) (lE c (ev G elt) noW) (own.map (·.2)) σ H Q' := by
  obtain ⟨σd, A, Xd, Qd, rs, ra, t, f, fw⟩ := h
  refine ⟨σd, A, Xd, _, rs, ra, t, fun ds Gd A1 J H1 q1 m1 ra1 ix L hL => ?_, fw⟩
  have q2 := q1 L (RelA_none ra1 hL)
  have mL := Mono.fresh (o := .dK []) hL
  let R := fun ds A2 => dcR Gd tg (fun σ' A' R => evC G cs σ' A' noX R) (fun σ' A' R => (ev2 G kx).1 σ' A' noX R) (fun σ' A' R => (ev2 G elt).1 σ' A' noX R) (wipeD σd own) L (fun A2 => outD L A2 Qd) ds A2
  refine ⟨fun i m H2 => m = ds.length - i ∧ i ≤ ds.length ∧ ∃ A2, Mono H1 H2 ∧ RelA c A2 H2 ∧ R (ds.drop i) A2,
    ⟨ds.length, by simp, Nat.zero_le _, _, mL, ra1.put (o := .dct []) mL ⟨[], upd_same, rfl⟩, q2⟩, ?_⟩
  rintro i m H2 ⟨rfl, hi, A2, m2, ra2, q⟩
  by_cases hlt : i < ds.length
  · obtain ⟨d, ed⟩ : ∃ d, ds[i]? = some d := ⟨_, List.getElem?_eq_getElem hlt⟩
    have e1 : ds.drop i = d :: ds.drop (i + 1) := by
      rw [List.drop_eq_getElem_cons hlt]
      rw [List.getElem?_eq_getElem hlt] at ed
      cases ed
      rfl
    have q : dcR Gd tg _ _ _ _ L _ (ds.drop i) A2 := q
    rw [e1, dcR_cons] at q
    obtain ⟨hg, q⟩ := q
    obtain ⟨go, yl⟩ := (ix i H2 A2 m2 ra2 hg).1 d ed
    refine .inr ⟨go, fun H' => ∃ A2, Mono H1 H' ∧ RelA c A2 H' ∧ R (ds.drop (i + 1)) A2,
      fun H' p => ⟨ds.length - (i + 1), by omega, rfl, hlt, p⟩, fun x H3 y => ?_⟩
    obtain ⟨m3, ra3, rd⟩ := yl x H3 y
    have m13 := m1.trans (m2.trans m3)
    rw [hK]
    refine gOf_go rd ht ((rs.mono m13).wipe own) q fun σd' σ' k r' hw => ⟨?_, ?_⟩
    · rw [hw _ hown, wipe_wipe]
    · refine ⟨σd', A2, noX, _, r', ra3, k, fun bb A4 H4 q4 m4 ra4 => ?_, noW_fol⟩
      cases bb with
      | true =>
        rw [if_pos rfl]
        refine ⟨σd', A4, noX, _, r'.mono m4, ra4, q4, fun y A5 w H5 q5 m5 ra5 rw' => ?_, noW_fol⟩
        refine ⟨σd', A5, noX, _, r'.mono (m4.trans m5), ra5, q5, fun z A6 u H6 q6 m6 ra6 ru => ?_, noW_fol⟩
        dsimp only at q6
        split at q6
        · rename_i acc kk e5 ek
          obtain ⟨ws, h5, r5⟩ := ra6 _ _ e5
          have m7 : Mono H6 (L2.upd H6 L (.dK (putK ws kk u))) := Mono.at h5 fun _ _ z => nomatch z
          refine ⟨ws, kk, dkey_rel ek (RelD.mono m6 _ _ rw'), h5, by rw [r5.length]; exact q6.1, _, (((((m2.trans m3).trans m4).trans m5).trans m6).trans m7), ra6.put (o := .dct (setK acc kk z)) m7 ⟨_, upd_same, (r5.set kk ru).mono m7⟩, q6.2⟩
        · exact q6.elim
      | false =>
        rw [if_neg Bool.false_ne_true]
        exact ⟨A4, (m2.trans m3).trans m4, ra4, q4⟩
  · have e1 : i = ds.length := by omega
    subst e1
    have q : dcR Gd tg _ _ _ _ L _ (ds.drop ds.length) A2 := q
    rw [List.drop_length, dcR_nil] at q
    exact .inl ⟨(ix _ H2 A2 m2 ra2 q.1).2 rfl, hQ _ _ ((f.from (m1.trans m2)).outD q.2 ra2)⟩
theorem s_dc (hK : X.K = c.K) (hc : X.calm = true) (hN : X.N.Nodup) {tg iter kx elt : Expr} {cs : List Expr} {scope : Scope} {etg : Tg} {eit : I} {ekx eelt : E} {ecs : Es} {own : List (Str × Nat)} {tup : Bool} (ht : tup = true → ∃ xs, etg = .tup xs) (hown : ∀ i ∈ etg.ixs, i ∈ own.map (·.2))
    (hi : PI X tg iter (lI c tup (evI G eit) W)) (ok : BlkOk X.N X.env.scope scope own)
    (hg : ∀ (s : Shared) (H : Hp) (C : Addr) (cl : List (Str × Addr)) (fp : List Addr), TgIs (X.blk s H scope (compEnvC scope cl C X.env) fp) etg tg)
    (hcs : ∀ (s : Shared) (H : Hp) (C : Addr) (cl : List (Str × Addr)) (fp : List Addr), PTs (X.blk s H scope (compEnvC scope cl C X.env) fp) cs (lT c (evC G ecs) noW))
    (hk : ∀ (s : Shared) (H : Hp) (C : Addr) (cl : List (Str × Addr)) (fp : List Addr), PE (X.blk s H scope (compEnvC scope cl C X.env) fp) kx (lE c (ev G ekx) noW))
    (he : ∀ (s : Shared) (H : Hp) (C : Addr) (cl : List (Str × Addr)) (fp : List Addr), PE (X.blk s H scope (compEnvC scope cl C X.env) fp) elt (lE c (ev G eelt) noW)) (hs : notSet iter = true) :
    PE X (.DictComp kx elt [⟨tg, iter, cs, 0⟩] scope pos) (lE c (ev G (.dc ekx eelt etg eit ecs own)) W) :=
  PE.imp (PE.fz (pe_dc hc hN hi ok (fun s H C cl fp => TgIs.pg (X := X.blk s H scope (compEnvC scope cl C X.env) fp) hc hN (hg s H C cl fp)) hcs hk he (noFold hs))) fun _ _ _ h => dc_lift hK ht hown (fun _ _ q => q) h
/-- what stands in a comprehension's block, whatever heap and frame it begins with -/
abbrev InBlk (X : Cx) (scope : Scope) (p : Cx → Prop) : Prop := ∀ (s : Shared) (H : Hp) (C : Addr) (cl : List (Str × Addr)) (fp : List Addr), p (X.blk s H scope (compEnvC scope cl C X.env) fp)
/-- name = {..} on one line -/
theorem ps_setDc {i : Nat} {y : Str} {py spos : Pos} {kx elt tg iter : Expr} {ifs : List Expr} {scope : Scope} {own : List (Str × Nat)} {pos : Pos} {wi : TI} {g : TG} {tt : TT} {tk te : TE} (calm : X.calm = true) (nd : X.N.Nodup) (place : X.N[i]? = some y) (isLoc : X.env.scope.names.lookup y = some .local)
    (turned : swapsWith (.DictComp kx elt [⟨tg, iter, ifs, 0⟩] scope pos) (some (.Name y py)) spos.line X.env = pure true) (source : L2.PI X tg iter wi) (blk : BlkOk X.N X.env.scope scope own)
    (target : InBlk X scope fun Y => PG Y tg g) (tests : InBlk X scope fun Y => PTs Y ifs tt) (key : InBlk X scope fun Y => PE Y kx tk) (val : InBlk X scope fun Y => PE Y elt te) (fold : ∀ x, foldedSetIterable iter X.env x = pure x) :
    PS X (.Assign [.Name y py] (.DictComp kx elt [⟨tg, iter, ifs, 0⟩] scope pos) spos) (tAsg (tDc wi g tt tk te (own.map (·.2))) (gName i)) := by
  constructor
  intro pins st σ H Z inv hyp
  have hyp : tDc wi g tt tk te (own.map (·.2)) σ H (fun x H1 => gName i x σ H1 Z.nx) := hyp
  have core := dc_core (X := X) (pins := pins) (pos := pos) (pos' := firstIterPos [⟨tg, iter, ifs, 0⟩] pos) (use := some (assign (.Name y py) X.env)) (Qf := fun _ t => SP X pins Z .next t) calm nd inv source blk target tests key val fold hyp (by
    intro D C t m H' J q frame away
    refine wpAny_assign_Name (store_ok2 (x := y) (v := V.ref D) (hf := .inr isLoc) J nd place (.inl isLoc) rfl ?_)
    rintro t2 J2 ⟨b, same, at_⟩
    obtain ⟨n0, n1, n2, n3, n4, n5⟩ := away
    have apart : C ≠ b := by
      rcases at_ with z | z
      · exact z ▸ n1
      · exact Ne.symm (n4 y b z)
    exact ⟨m, frame.sameBut same apart, fun h3 sb3 => ⟨_, H', J2.turned (t' := t2.toks) (fun c o hc e => (sb3.2 c hc).trans e) n0 n1 n3 n4 n5, q⟩⟩)
  rw [exec_Assign_Name_used _ _ _ _ turned]
  apply wpAny_bind
  apply wpAny_standAt
  apply wpAny_bind
  apply wpAny_bind
  exact thn core fun _ t done => wpAny_pure (wpAny_pure done)
theorem s_setDc (hK : X.K = c.K) (hc : X.calm = true) (hN : X.N.Nodup) {i : Nat} {y : Str} {py spos : Pos} (hy : X.N[i]? = some y) (hyl : X.env.scope.names.lookup y = some .local) {tg iter kx elt : Expr} {cs : List Expr} {scope : Scope} {etg : Tg} {eit : I} {ekx eelt : E} {ecs : Es} {own : List (Str × Nat)} {tup : Bool}
    (hsw : swapsWith (.DictComp kx elt [⟨tg, iter, cs, 0⟩] scope pos) (some (.Name y py)) spos.line X.env = pure true) (ht : tup = true → ∃ xs, etg = .tup xs) (hown : ∀ i ∈ etg.ixs, i ∈ own.map (·.2))
    (hi : PI X tg iter (lI c tup (evI G eit) W)) (ok : BlkOk X.N X.env.scope scope own)
    (hg : ∀ (s : Shared) (H : Hp) (C : Addr) (cl : List (Str × Addr)) (fp : List Addr), TgIs (X.blk s H scope (compEnvC scope cl C X.env) fp) etg tg)
    (hcs : ∀ (s : Shared) (H : Hp) (C : Addr) (cl : List (Str × Addr)) (fp : List Addr), PTs (X.blk s H scope (compEnvC scope cl C X.env) fp) cs (lT c (evC G ecs) noW))
    (hk : ∀ (s : Shared) (H : Hp) (C : Addr) (cl : List (Str × Addr)) (fp : List Addr), PE (X.blk s H scope (compEnvC scope cl C X.env) fp) kx (lE c (ev G ekx) noW))
    (he : ∀ (s : Shared) (H : Hp) (C : Addr) (cl : List (Str × Addr)) (fp : List Addr), PE (X.blk s H scope (compEnvC scope cl C X.env) fp) elt (lE c (ev G eelt) noW)) (hs : notSet iter = true) :
    PS X (.Assign [.Name y py] (.DictComp kx elt [⟨tg, iter, cs, 0⟩] scope pos) spos) (tAsg (lE c (ev G (.dc ekx eelt etg eit ecs own)) W) (gName i)) :=
  PS.imp (PS.fzN (ps_setDc hc hN hy hyl hsw hi ok (fun s H C cl fp => TgIs.pg (X := X.blk s H scope (compEnvC scope cl C X.env) fp) hc hN (hg s H C cl fp)) hcs hk he (noFold hs))) fun D σ H h => dc_lift hK ht hown (Q' := fun x H1 => FzN D.nx (σ.set i (some x)) H1) (fun v H q => FzN.of q) h
/-! ### calls by keyword, by default -/
/-- a def that is called so -/
def KwOk (c : RC) (P : Program) (w : World) (K : PySem.W.Frag) (mg : Str → Option Value) (base : Heap) (k : Nat) (cal : Cal) (f : Str) (m : Nat) (ks : List Str) (dd : List D) : Prop :=
  ∃ (fa : Addr) (fd : FuncData) (ps : List Str) (dv : List Value) (dV : List V), mg f = some (.ref fa) ∧ PySem.W.keepIn K (.ref fa) = true ∧ Form K fd ps m ks dv ∧ Vals dV dv ∧ (∀ H, RelDs c.K H dd dV) ∧ FnG P w K mg base (L2.CX P w) k fa fd ps (lSp c (cal f))
theorem s_callk (tk : Takes X W) {k m : Nat} {x : Str} {p : Pos} {ns : List Str} {ews : Es} {dv : List D} {kws : List Keyword} (D : KwOk c X.prog X.w X.K X.mg X.base k G.cal x m ns dv) (hr : Room k X.A) (hgd : X.A.guards = some []) (hg : Gl X x) (hdb : (x == ("__debug__" : Str)) = false)
    (ha : PA X (e :: es) (lA c (evs G ees) W)) (hkw : PK X kws (lA c (evs G ews) W)) (h1 : noStar e = true) (h2 : es.all noStar = true) (hm : (e :: es).length = m)
    (hks : (backToKw pos (keywordEach kws X.env)).filterMap (·.1) = ns) (hall : (backToKw pos (keywordEach kws X.env)).all (·.1.isSome) = true) :
    PE X (.Call (.Name x p) (e :: es) kws pos) (lE c (ev G (.callk x ees ns ews dv)) W) := by
  obtain ⟨fa, fd, ps, vv, dV, hmg, hk, hb, hd, hrd, F⟩ := D
  have hpl : ((backTo pos (starEach (e :: es) X.env)).any (·.1) || (backToKw pos (keywordEach kws X.env)).any (·.1.isNone)) = false := by
    rw [starEach_plain (by rw [List.all_cons, h1, h2]; rfl), Bool.false_or]
    rw [List.any_eq_false]
    intro z hz
    have := List.all_eq_true.mp hall z hz
    cases q : z.1 <;> simp_all
  refine PE.imp (pe_GK F hr hgd hg hmg hk hb hd (fun σ => passAt tk σ) ha hkw hall hks hdb (starEach_cons h1) hpl) fun σ H Q h => ?_
  obtain ⟨σd, A, Xd, Qd, rs, ra, t, f, fw⟩ := h
  refine lA_go rs .refl ra fw t fun ds A1 vs H1 q1 m1 ra1 r1 => ?_
  refine lA_go rs m1 ra1 fw q1 fun zs A2 ws H2 q2 m2 ra2 r2 => ?_
  have fin : lSp c (G.cal x) (vs ++ ws ++ dV) H2 Q (fun cl d H' => W cl d σ H') := ⟨A2, _, Xd, Qd, ra2, ((r1.mono m2).app r2).app (hrd H2), q2.2, f.from (m1.trans m2), fw.from (m1.trans m2)⟩
  have e1 := F.len _ _ _ _ fin
  have e2 := hb.len
  have e3 := Paired.length hd
  have e4 : ws.length = ns.length := by rw [r2.length]; exact q2.1
  simp only [List.length_append] at e1
  exact ⟨by omega, e4, fin⟩
theorem PK.imp {kws : List Keyword} {t t' : TA} (h : PK X kws t) (i : ∀ σ H Q, t' σ H Q → t σ H Q) : PK X kws t' := ⟨fun pos pins s σ H Q I q => h.run pos pins s σ H Q I (i _ _ _ q)⟩
theorem k_nil : PK X [] (lA c (evs G .nil) W) := by
  refine PK.imp pk_nil fun σ H Q h => ?_
  obtain ⟨σd, A, Xd, Qd, rs, ra, t, f, fw⟩ := h
  exact f [] A [] H t .refl ra rfl
theorem k_one {nm : Option Str} {kpos : Pos} (he : PE X e (lE c (ev G ea) W)) : PK X [⟨nm, e, kpos⟩] (lA c (evs G (.cons ea .nil)) W) := by
  refine PK.imp (pk_cons he (k_nil (c := c) (G := G) (W := W))) fun σ H Q h => ?_
  obtain ⟨σd, A, Xd, Qd, rs, ra, t, f, fw⟩ := h
  refine lE_go rs .refl ra fw t fun x A1 v H1 q1 m1 ra1 rx => ?_
  refine lA_go rs m1 ra1 fw q1 fun ds A2 vs H2 q2 m2 ra2 r2 => ?_
  exact f _ _ _ _ q2 (m1.trans m2) ra2 ⟨v, vs, rfl, RelD.mono m2 _ _ rx, r2⟩
end
end Py

namespace Py
open PySem PySem.Spec PyProof.Rows L2
/-! ### {k: v for .. in .. for .. in ..}: two clauses -/
abbrev twoFor (kx vx t0 i0 t1 i1 : Expr) (c0 c1 : List Expr) (blk : Scope) (pos : Pos) : Expr := .DictComp kx vx [⟨t0, i0, c0, 0⟩, ⟨t1, i1, c1, 0⟩] blk pos
section
variable {kx vx t0 i0 t1 i1 : Expr} {c0 c1 : List Expr} {blk : Scope} {pos : Pos} {env : Env} {src acc : Value} {D : Addr}
theorem turn_first : compTurn (twoFor kx vx t0 i0 t1 i1 c0 c1 blk pos) 0 src acc env = (do
    standAt i0.pos
    let r ← pyNext src
    match r with
    | none => pure (.done .next)
    | some y =>
      letOwnedTupleGo t0 src y
      assign t0 env y
      let mut good := true
      for c in c0 do
        if good then good ← isTrue c env (eval c env)
      if good then
        let z ← eval i1 env
        standAt i1.pos
        let z ← foldedSetIterable i1 env z
        let _ ← runOwn (.compStart (twoFor kx vx t0 i0 t1 i1 c0 c1 blk pos) 1 (← holding [z] (pyIter z)) acc env) env
      again (.compLoop (twoFor kx vx t0 i0 t1 i1 c0 c1 blk pos) 0 src acc env)) := by rfl
theorem turn_second : compTurn (twoFor kx vx t0 i0 t1 i1 c0 c1 blk pos) 1 src (.ref D) env = (do
    standAt i1.pos
    let r ← pyNext src
    match r with
    | none => pure (.done .next)
    | some y =>
      letOwnedTupleGo t1 src y
      assign t1 env y
      let mut good := true
      for c in c1 do
        if good then good ← isTrue c env (eval c env)
      if good then
        (do
          let a ← eval kx env
          let b ← holding [a] (eval vx env)
          standAt { kx.pos with endLine := vx.pos.endLine, endCol := vx.pos.endCol }
          holding [a, b] (dictSet D a b))
      again (.compLoop (twoFor kx vx t0 i0 t1 i1 c0 c1 blk pos) 1 src (.ref D) env)) := by rfl
end
section
variable {P : Program} {w : World} {A : Around} {R : Result → Shared → Prop} {s : Shared} {kx vx t0 i0 t1 i1 : Expr} {c0 c1 : List Expr} {blk : Scope} {pos : Pos} {env : Env} {src acc : Value} {D : Addr}
/-- a clause's tests, one behind the other -/
abbrev allTests (cs : List Expr) (env : Env) : Sem Bool := forIn cs true fun c r => if r = true then do let ok ← isTrue c env (eval c env); pure (ForInStep.yield ok) else pure (ForInStep.yield r)
/-- what is wanted of an exception that leaves the block -/
abbrev out (P : Program) (w : World) (A : Around) (env : Env) (R : Result → Shared → Prop) : Value → Shared → Prop := notedBy (model P w) A env fun e s' => R (.error e) s'
theorem loop_first (fold : ∀ z, foldedSetIterable i1 env z = pure z) (I : Nat → Shared → Prop)
    (turn : ∀ n s, I n s → wpAny (model P w) A (pyNext src) (fun r s1 => match r with
      | none => R (.ok .next) s1
      | some y => wpAny (model P w) A (letOwnedTupleGo t0 src y) (fun _ s2 => wpAny (model P w) A (assign t0 env y) (fun _ s3 => wpAny (model P w) A (allTests c0 env) (fun b s4 =>
          if b = true then wpAny (model P w) A (eval i1 env) (fun z s5 => wpAny (model P w) A (pyIter z) (fun it s6 =>
            codeAny (model P w) A (.compStart (twoFor kx vx t0 i0 t1 i1 c0 c1 blk pos) 1 it acc env) (fun r t => match r with
              | .ok _ => ∃ m, m < n ∧ I m t
              | .error _ => False) s6) (out P w A env R) s5) (out P w A env R) s4
          else ∃ m, m < n ∧ I m s4) (out P w A env R) s3) (out P w A env R) s2) (out P w A env R) s1) (out P w A env R) s)
    (n : Nat) (h : I n s) : codeAny (model P w) A (.compLoop (twoFor kx vx t0 i0 t1 i1 c0 c1 blk pos) 0 src acc env) R s := by
  apply codeAny_loop rfl I _ n h
  intro n s hI
  show wpAny _ A ((compTurn (twoFor kx vx t0 i0 t1 i1 c0 c1 blk pos) 0 src acc env).onRaise (fun x => do noteFrame x env; theTreesLotGoes x)) _ _ s
  apply wpAny_noted
  rw [turn_first]
  apply wpAny_bind; apply wpAny_standAt; apply wpAny_bind
  apply wpAny_mono (turn n s hI) _ fun _ _ z => z
  rintro (_ | y) s1 q1
  · exact wpAny_pure q1
  · apply wpAny_bind
    apply wpAny_mono q1 _ fun _ _ z => z
    intro _ s2 q2
    apply wpAny_bind
    apply wpAny_mono q2 _ fun _ _ z => z
    intro _ s3 q3
    apply wpAny_bind
    apply wpAny_mono q3 _ fun _ _ z => z
    rintro (_ | _) s4 q4
    · exact wpAny_pure ⟨rfl, q4⟩
    · apply wpAny_bind
      apply wpAny_mono q4 _ fun _ _ z => z
      intro z s5 q5
      apply wpAny_bind; apply wpAny_standAt; apply wpAny_bind
      apply wpAny_of_eq (fold z)
      apply wpAny_bind; apply wpAny_holding
      apply wpAny_mono q5 _ fun _ _ z => z
      intro it s6 q6
      apply wpAny_bind; refine wpAny_runOwn ?_
      rw [Around.mark_none]
      apply codeAny_mono q6
      rintro (_ | _) t hr
      · first | exact hr.elim | exact wpAny_pure ⟨rfl, hr⟩ | exact wpAny_bind (wpAny_pure (wpAny_pure ⟨rfl, hr⟩))
      · first | exact hr.elim | exact wpAny_pure ⟨rfl, hr⟩ | exact wpAny_bind (wpAny_pure (wpAny_pure ⟨rfl, hr⟩))
theorem loop_second (I : Nat → Shared → Prop)
    (turn : ∀ n s, I n s → wpAny (model P w) A (pyNext src) (fun r s1 => match r with
      | none => R (.ok .next) s1
      | some y => wpAny (model P w) A (letOwnedTupleGo t1 src y) (fun _ s2 => wpAny (model P w) A (assign t1 env y) (fun _ s3 => wpAny (model P w) A (allTests c1 env) (fun b s4 =>
          if b = true then wpAny (model P w) A (eval kx env) (fun a s5 => wpAny (model P w) A (eval vx env) (fun z s6 => wpAny (model P w) A (dictSet D a z) (fun _ t => ∃ m, m < n ∧ I m t) (out P w A env R) s6) (out P w A env R) s5) (out P w A env R) s4
          else ∃ m, m < n ∧ I m s4) (out P w A env R) s3) (out P w A env R) s2) (out P w A env R) s1) (out P w A env R) s)
    (n : Nat) (h : I n s) : codeAny (model P w) A (.compLoop (twoFor kx vx t0 i0 t1 i1 c0 c1 blk pos) 1 src (.ref D) env) R s := by
  apply codeAny_loop rfl I _ n h
  intro n s hI
  show wpAny _ A ((compTurn (twoFor kx vx t0 i0 t1 i1 c0 c1 blk pos) 1 src (.ref D) env).onRaise (fun x => do noteFrame x env; theTreesLotGoes x)) _ _ s
  apply wpAny_noted
  rw [turn_second]
  apply wpAny_bind; apply wpAny_standAt; apply wpAny_bind
  apply wpAny_mono (turn n s hI) _ fun _ _ z => z
  rintro (_ | y) s1 q1
  · exact wpAny_pure q1
  · apply wpAny_bind
    apply wpAny_mono q1 _ fun _ _ z => z
    intro _ s2 q2
    apply wpAny_bind
    apply wpAny_mono q2 _ fun _ _ z => z
    intro _ s3 q3
    apply wpAny_bind
    apply wpAny_mono q3 _ fun _ _ z => z
    rintro (_ | _) s4 q4
    · exact wpAny_pure ⟨rfl, q4⟩
    · apply wpAny_bind; apply wpAny_bind
      apply wpAny_mono q4 _ fun _ _ z => z
      intro a s5 q5
      apply wpAny_bind; apply wpAny_holding
      apply wpAny_mono q5 _ fun _ _ z => z
      intro z s6 q6
      apply wpAny_bind; apply wpAny_standAt; apply wpAny_holding
      apply wpAny_mono q6 _ fun _ _ z => z
      intro _ t hr
      exact wpAny_pure ⟨rfl, hr⟩
/-- the second clause begins -/
theorem start_second (h0 : codeAny (model P w) A (.compLoop (twoFor kx vx t0 i0 t1 i1 c0 c1 blk pos) 1 src acc env) R s)
    (h : wpAny (model P w) A (pyIter src) (fun it t => codeAny (model P w) A (.compLoop (twoFor kx vx t0 i0 t1 i1 c0 c1 blk pos) 1 it acc env) R t) (out P w A env R) s) :
    codeAny (model P w) A (.compStart (twoFor kx vx t0 i0 t1 i1 c0 c1 blk pos) 1 src acc env) R s := by
  apply codeAny_of_tree
  show wpAny _ _ ((compStart (twoFor kx vx t0 i0 t1 i1 c0 c1 blk pos) 1 src acc env).onRaise (fun x => do noteFrame x env; standAt theWindowsPlace)) _ _ s
  apply wpAny_notedAt
  unfold compStart
  show wpAny _ _ (ask >>= _) _ _ s
  apply wpAny_bind
  apply wpAny_askSetting
  apply wpAny_ite
  split
  · first
      | exact wpAny_bind (wpAny_pure (wpAny_pure (And.intro rfl h0)))
      | exact wpAny_pure (And.intro rfl h0)
  · apply wpAny_bind
    apply wpAny_rule
    first
      | (apply wpAny_bind; apply wpAny_standAt; apply wpAny_bind; exact wpAny_mono h (fun it t z => wpAny_pure (And.intro rfl z)) fun _ _ z => z)
      | (show wpAny _ _ (standAt i1.pos >>= _) _ _ s; apply wpAny_bind; apply wpAny_standAt; apply wpAny_bind; exact wpAny_mono h (fun it t z => wpAny_pure (And.intro rfl z)) fun _ _ z => z)
end
section
variable {X : Cx}
/-- {k: v for tg in iter if .. for tg1 in iter1 if ..}: D the new dict; vs the block's names, vs1 those of the second target -/
def tDc2 (wi : TI) (g : TG) (tt : TT) (wi1 : TI) (g1 : TG) (tt1 : TT) (tk tv : TE) (vs vs1 : List Nat) : TE := fun σ H Q => wi σ H fun J H1 => ∀ D, H1 D = none → ∃ W : Nat → Nat → Hp → Prop, (∃ m, W 0 m (upd H1 D (.dK []))) ∧ ∀ i m H, W i m H →
  (J.stop i H ∧ Q (.ref D) H) ∨ (J.go i H ∧ ∃ Nx : Hp → Prop, (∀ H', Nx H' → ∃ m', m' < m ∧ W (i + 1) m' H') ∧ ∀ x H', J.yld i H x H' → g x (wipe σ vs) H' fun σ2 H2 => wipe σ2 vs = wipe σ vs ∧ tt σ2 H2 fun b H3 =>
    if b = true then wi1 σ2 H3 fun J1 H4 => ∃ V : Nat → Nat → Hp → Prop, (∃ m, V 0 m H4) ∧ ∀ j k H, V j k H →
      (J1.stop j H ∧ Nx H) ∨ (J1.go j H ∧ ∃ Ny : Hp → Prop, (∀ H', Ny H' → ∃ k', k' < k ∧ V (j + 1) k' H') ∧ ∀ x H', J1.yld j H x H' → g1 x (wipe σ2 vs1) H' fun σ3 H5 => wipe σ3 vs1 = wipe σ2 vs1 ∧ tt1 σ3 H5 fun b H6 =>
        if b = true then tk σ3 H6 fun y H7 => tv σ3 H7 fun z H8 => ∃ kvs k, y = kV k ∧ H8 D = some (.dK kvs) ∧ kvs.length < sizeLine ∧ Ny (upd H8 D (.dK (putK kvs k z))) else Ny H6)
    else Nx H3)
theorem dc2_core {pins : List (Addr × Obj)} {s : Shared} {σ : L2.St} {H : Hp} {Q : VK} {kx vx tg iter tg1 iter1 : Expr} {ifs ifs1 : List Expr} {scope : Scope} {own : List (Str × Nat)} {vs1 : List Nat} {pos pos' : Pos} {wi wi1 : TI} {g g1 : TG} {tt tt1 : TT} {tk tv : TE} {use : Option (Value → Sem Unit)} {Qf : Value → Shared → Prop}
    (calm : X.calm = true) (nd : X.N.Nodup) (I : L2.Inv X pins σ H s) (source : L2.PI X tg iter wi) (ok : BlkOk X.N X.env.scope scope own) (inner : ∀ i ∈ vs1, i ∈ own.map (·.2))
    (target : InBlk X scope fun Y => PG Y tg g) (tests : InBlk X scope fun Y => PTs Y ifs tt) (source1 : InBlk X scope fun Y => L2.PI Y tg1 iter1 wi1) (target1 : InBlk X scope fun Y => PG Y tg1 g1) (tests1 : InBlk X scope fun Y => PTs Y ifs1 tt1)
    (key : InBlk X scope fun Y => PE Y kx tk) (val : InBlk X scope fun Y => PE Y vx tv) (fold : ∀ x, foldedSetIterable iter X.env x = pure x) (fold1 : ∀ env x, foldedSetIterable iter1 env x = pure x)
    (h : tDc2 wi g tt wi1 g1 tt1 tk tv (own.map (·.2)) vs1 σ H Q)
    (back : ∀ D C t m H', L2.Inv X pins σ H' t → Q (.ref D) H' → t.heap.Ns C m → FpOk X pins H' C → compPost (model X.prog X.w) X.A X.xe use Qf (.ref D) C (.ok .next) t) :
    wpAny (model X.prog X.w) X.A (comprehension (twoFor kx vx tg iter tg1 iter1 ifs ifs1 scope pos) scope X.env pos' newDict false (eval iter X.env) use) Qf X.xe s := by
  have cells : ∀ y ∈ scope.names, y.2 = .free → ∃ c, X.env.cells.lookup y.1 = some c := fun y hy e => (ok.free y hy e).elim (fun z => I.ok.has _ (.inl z)) fun z => I.ok.has _ (.inr z)
  apply wpAny_comprehension_free (use := use) rfl fold (closure_ok cells) ok.kind (fun y hy e => by rw [ok.uniq y hy, e])
  apply thn (source.run pins s σ H _ I h)
  intro xv s1 hx
  apply thn hx
  rintro itv s2 ⟨it, fp, tn, J, H2, rfl, I2, T, st2, f2, q⟩
  refine wpAny_newObj_type (newEnv_comp ?_)
  obtain ⟨D, hD⟩ : ∃ D, s2.heap.objs.size = D := ⟨_, rfl⟩
  rw [hD]
  have fresh : H2 D = none := I2.hok.fresh (Nat.le_of_eq hD)
  obtain ⟨W, ⟨m0, w0⟩, turn⟩ := q D fresh
  obtain ⟨s3, e3⟩ : ∃ s3, s3 = ({ s2 with heap := s2.heap.push { cls := .type "dict", data := .dict #[] } } : Shared) := ⟨_, rfl⟩
  have I3 : L2.Inv X pins σ (upd H2 D (.dK [])) s3 := by
    rw [e3]
    refine I2.laid (t' := s2.toks) (fun b o e => Heap.get?_push_of_some _ e) (Nat.le_of_eq hD) ?_
    rw [← hD]
    exact dk_empty s2.heap I2.big
  have h3 : s3.heap = s2.heap.push { cls := .type "dict", data := .dict #[] } := by rw [e3]
  have low : ∀ b ∈ fp, b < s2.heap.objs.size := fun b hb => let ⟨o, e, _⟩ := T.obj _ _ st2 b hb; Heap.lt_size e
  have f3 : ∀ b ∈ fp, FpOk X pins (upd H2 D (.dK [])) b ∧ b < s3.heap.objs.size := fun b hb => by
    have lt := low b hb
    refine ⟨⟨?_, (f2 b hb).2⟩, by rw [h3, Heap.size_push]; exact Nat.lt_succ_of_lt lt⟩
    rw [upd_ne (by rw [← hD]; exact Nat.ne_of_lt lt)]
    exact (f2 b hb).1
  have st3 : tn 0 s3.heap := T.keep _ _ _ st2 fun b _ o e => by rw [h3]; exact Heap.get?_push_of_some _ e
  have I4 := block_start I3 ok nd f3
  obtain ⟨ce, hce⟩ : ∃ ce, ce = compEnvC scope (cellsFrom (s3.heap.objs.size + 1) scope.names (cloFrom X.env.cells scope.names [])) s3.heap.objs.size X.env := ⟨_, rfl⟩
  suffices go : codeAny (model X.prog X.w) X.A (.compStart (twoFor kx vx tg iter tg1 iter1 ifs ifs1 scope pos) 0 (.ref it) (.ref D) ce) (compPost (model X.prog X.w) X.A X.xe use Qf (.ref D) s3.heap.objs.size) { s3 with heap := pushCells (s3.heap.push { cls := .type "dict", data := .dict #[] }) scope.names } by
    subst hce e3
    exact go
  have pg := target s3 (upd H2 D (.dK [])) s3.heap.objs.size (cellsFrom (s3.heap.objs.size + 1) scope.names (cloFrom X.env.cells scope.names [])) fp
  have pt := tests s3 (upd H2 D (.dK [])) s3.heap.objs.size (cellsFrom (s3.heap.objs.size + 1) scope.names (cloFrom X.env.cells scope.names [])) fp
  have pi1 := source1 s3 (upd H2 D (.dK [])) s3.heap.objs.size (cellsFrom (s3.heap.objs.size + 1) scope.names (cloFrom X.env.cells scope.names [])) fp
  have pg1 := target1 s3 (upd H2 D (.dK [])) s3.heap.objs.size (cellsFrom (s3.heap.objs.size + 1) scope.names (cloFrom X.env.cells scope.names [])) fp
  have pt1 := tests1 s3 (upd H2 D (.dK [])) s3.heap.objs.size (cellsFrom (s3.heap.objs.size + 1) scope.names (cloFrom X.env.cells scope.names [])) fp
  have pk := key s3 (upd H2 D (.dK [])) s3.heap.objs.size (cellsFrom (s3.heap.objs.size + 1) scope.names (cloFrom X.env.cells scope.names [])) fp
  have pv := val s3 (upd H2 D (.dK [])) s3.heap.objs.size (cellsFrom (s3.heap.objs.size + 1) scope.names (cloFrom X.env.cells scope.names [])) fp
  dsimp only at pg pt pi1 pg1 pt1 pk pv
  rw [← hce] at pg pt pi1 pg1 pt1 pk pv I4
  have cl : ce.locals = s3.heap.objs.size := by rw [hce]; rfl
  have off : ∀ b ∈ fp, (upd H2 D (.dK [])) b = none := fun b hb => (f3 b hb).1.1
  generalize upd H2 D (.dK []) = H3 at I3 I4 pg pt pi1 pg1 pt1 pk pv w0 off f3
  obtain ⟨s4, e4⟩ : ∃ s4, s4 = ({ s3 with heap := pushCells (s3.heap.push { cls := .type "dict", data := .dict #[] }) scope.names } : Shared) := ⟨_, rfl⟩
  rw [← e4] at I4 ⊢
  have st4 : tn 0 s4.heap := T.keep _ _ _ st3 fun b _ o e => by rw [e4]; exact pushCells_keeps _ _ _ _ (Heap.get?_push_of_some _ e)
  have loop : codeAny (model X.prog X.w) X.A (.compLoop (twoFor kx vx tg iter tg1 iter1 ifs ifs1 scope pos) 0 (.ref it) (.ref D) ce) (compPost (model X.prog X.w) X.A X.xe use Qf (.ref D) s3.heap.objs.size) s4 := by
    have still : ∀ {τ : L2.St} {H' : Hp} {t : Shared}, L2.Inv (X.blk s3 H3 scope ce fp) [] τ H' t → (∀ b ∈ fp, H' b = none) → ∀ b ∈ fp, FpOk (X.blk s3 H3 scope ce fp) [] H' b := fun {τ H' t} J z b hb =>
      ⟨z b hb, (J.ok.exf b hb).1, J.ok.exfs b hb, .inl hb, fun x c e => (J.ok.exf b hb).2 x c e, fun p hp => absurd (show p ∈ ([] : List (Addr × Obj)) ++ [] from hp) (by simp)⟩
    apply loop_first (fold1 ce) (fun n t => ∃ i H', L2.Inv (X.blk s3 H3 scope ce fp) [] (wipe σ (own.map (·.2))) H' t ∧ tn i t.heap ∧ (∀ b ∈ fp, H' b = none) ∧ W i n H') _ m0 ⟨0, H3, I4, st4, off, w0⟩
    rintro n s5 ⟨i, H5, I5, st5, n5, w5⟩
    rcases turn i n H5 w5 with ⟨stop, qq⟩ | ⟨go, Nx, hNx, step⟩
    · refine thnF (T.done (X.blk s3 H3 scope ce fp) rfl rfl rfl calm i [] s5 _ H5 (fun _ _ => False) I5 (still I5 n5) st5 stop) fun r s6 ⟨hr, I6⟩ => ?_
      subst hr
      have I7 : L2.Inv X pins σ H5 s6 := I3.call' (ch := fp) I6.os I6.base I6.hok I6.bare fun b hb => ⟨(f3 b hb).1.2.2.2.1, (f3 b hb).1.2.1, (f3 b hb).1.2.2.2.2.1, (f3 b hb).1.2.2.2.2.2⟩
      have nC : H5 s3.heap.objs.size = none := by
        have z : H5 ce.locals = none := I6.free
        rw [cl] at z
        exact z
      obtain ⟨m, hn, _⟩ := I6.loc
      have hn : s6.heap.Ns ce.locals m := hn
      rw [cl] at hn
      exact back D s3.heap.objs.size s6 m H5 I7 qq hn (I3.fpOk (Nat.le_refl _) nC)
    · refine thnF (T.item (X.blk s3 H3 scope ce fp) rfl rfl rfl calm i [] s5 _ H5 (fun _ _ => False) I5 (still I5 n5) st5 go) fun r s6 ⟨u, hr, h6⟩ => ?_
      subst hr
      refine thnF h6 fun _ s7 ⟨x, H7, I7, r7, y7, st7, n7⟩ => ?_
      have I7' := I7.pinned (still I7 n7) (T.obj _ _ st7)
      refine thnF (pg.run _ s7 _ H7 x u _ I7' r7 (step x H7 y7)) fun _ s8 ⟨σ8, H8, I8, hw8, q8⟩ => ?_
      refine thnF (pt.run _ s8 σ8 H8 _ I8 q8) fun b s9 ⟨H9, I9, q9⟩ => ?_
      have fin : ∀ {σ9 : L2.St} {s' : Shared} {H' : Hp}, L2.Inv (X.blk s3 H3 scope ce fp) ([] ++ pinsAt fp s7.heap) σ9 H' s' → (wipe σ (own.map (·.2))).length = σ9.length → (∀ (j : Nat) v, (wipe σ (own.map (·.2)))[j]? = some (some v) → σ9[j]? = some (some v)) → Nx H' →
          ∃ m, m < n ∧ ∃ i H', L2.Inv (X.blk s3 H3 scope ce fp) [] (wipe σ (own.map (·.2))) H' s' ∧ tn i s'.heap ∧ (∀ b ∈ fp, H' b = none) ∧ W i m H' := fun {σ9 s' H'} I' hl hk nx => by
        obtain ⟨m', hm, w'⟩ := hNx H' nx
        have pin' : ∀ b ∈ fp, ∀ o, s7.heap.get? b = some o → s'.heap.get? b = some o ∧ H' b = none := fun b hb o e =>
          let z := I'.pin (b, o) (List.mem_append_right _ (List.mem_append_right _ (mem_pinsAt hb e)))
          ⟨z.1, z.2.1⟩
        refine ⟨m', hm, i + 1, H', (I'.unpinned (pins := [])).weak hl hk, T.keep _ _ _ st7 fun b hb o e => (pin' b hb o e).1, fun b hb => ?_, w'⟩
        obtain ⟨o, e, _⟩ := T.obj _ _ st7 b hb
        exact (pin' b hb o e).2
      have hl8 : (wipe σ (own.map (·.2))).length = σ8.length := by rw [← hw8, wipe_length]
      have hk8 : ∀ (j : Nat) v, (wipe σ (own.map (·.2)))[j]? = some (some v) → σ8[j]? = some (some v) := fun j v e => by
        rw [← hw8] at e
        exact (wipe_some e).1
      have hk9 : ∀ (j : Nat) v, (wipe σ (own.map (·.2)))[j]? = some (some v) → (wipe σ8 vs1)[j]? = some (some v) := fun j v e => by
        rw [← hw8] at e
        obtain ⟨e1, e2⟩ := wipe_some e
        rw [wipe_out fun z => e2 (inner j z)]
        exact e1
      cases b with
      | false =>
        simp only [Bool.false_eq_true, if_false] at q9 ⊢
        exact fin I9 hl8 hk8 q9
      | true =>
        simp only [if_true] at q9 ⊢
        refine thnF (pi1.run _ s9 σ8 H9 _ I9 q9) fun xv s10 hx => thnF hx fun itv s11 h11 => ?_
        obtain ⟨it1, fp1, tn1, J1, H11, e1, I11, T1, st11, f11, W1, ⟨m1, w1⟩, turn1⟩ := h11
        subst e1
        have stat1 : ∀ {H' : Hp}, (∀ b ∈ fp1, H' b = none) → ∀ b ∈ fp1, FpOk (X.blk s3 H3 scope ce fp) ([] ++ pinsAt fp s7.heap) H' b := fun hn b hb => ⟨hn b hb, (f11 b hb).2⟩
        have loop1 : codeAny (model X.prog X.w) X.A (.compLoop (twoFor kx vx tg iter tg1 iter1 ifs ifs1 scope pos) 1 (.ref it1) (.ref D) ce)
            (fun r s' => match r with
              | .ok _ => ∃ m, m < n ∧ ∃ i H', L2.Inv (X.blk s3 H3 scope ce fp) [] (wipe σ (own.map (·.2))) H' s' ∧ tn i s'.heap ∧ (∀ b ∈ fp, H' b = none) ∧ W i m H'
              | .error _ => False) s11 := by
          apply loop_second (fun k s' => ∃ j H', L2.Inv (X.blk s3 H3 scope ce fp) ([] ++ pinsAt fp s7.heap) (wipe σ8 vs1) H' s' ∧ tn1 j s'.heap ∧ (∀ b ∈ fp1, H' b = none) ∧ W1 j k H') _ m1 ⟨0, H11, I11.weak (wipe_length _ _) (fun j v e => (wipe_some e).1), st11, fun b hb => (f11 b hb).1, w1⟩
          rintro k s12 ⟨j, H12, I12, st12, n12, w12⟩
          rcases turn1 j k H12 w12 with ⟨stop1, nx1⟩ | ⟨go1, Nx1, hNx1, step1⟩
          · refine thnF (T1.done (X.blk s3 H3 scope ce fp) rfl rfl rfl calm j _ s12 (wipe σ8 vs1) H12 (fun _ _ => False) I12 (stat1 n12) st12 stop1) fun r s13 ⟨hr, I13⟩ => ?_
            subst hr
            exact fin I13 (hl8.trans (wipe_length σ8 vs1).symm) hk9 nx1
          · refine thnF (T1.item (X.blk s3 H3 scope ce fp) rfl rfl rfl calm j _ s12 (wipe σ8 vs1) H12 (fun _ _ => False) I12 (stat1 n12) st12 go1) fun r s13 ⟨u1, hr, h13⟩ => ?_
            subst hr
            refine thnF h13 fun _ s14 ⟨x1, H14, I14, r14, y14, st14, n14⟩ => ?_
            have I14' := I14.pinned (stat1 n14) (T1.obj _ _ st14)
            refine thnF (pg1.run _ s14 (wipe σ8 vs1) H14 x1 u1 _ I14' r14 (step1 x1 H14 y14)) fun _ s15 ⟨σ15, H15, I15, hw15, q15⟩ => ?_
            refine thnF (pt1.run _ s15 σ15 H15 _ I15 q15) fun b1 s16 ⟨H16, I16, q16⟩ => ?_
            have fin1 : ∀ {s' : Shared} {H' : Hp}, L2.Inv (X.blk s3 H3 scope ce fp) (([] ++ pinsAt fp s7.heap) ++ pinsAt fp1 s14.heap) σ15 H' s' → Nx1 H' → ∃ m, m < k ∧ ∃ j H', L2.Inv (X.blk s3 H3 scope ce fp) ([] ++ pinsAt fp s7.heap) (wipe σ8 vs1) H' s' ∧ tn1 j s'.heap ∧ (∀ b ∈ fp1, H' b = none) ∧ W1 j m H' := fun {s' H'} I' nx => by
              obtain ⟨m', hm, w'⟩ := hNx1 H' nx
              have pin' : ∀ b ∈ fp1, ∀ o, s14.heap.get? b = some o → s'.heap.get? b = some o ∧ H' b = none := fun b hb o e =>
                let z := I'.pin (b, o) (List.mem_append_right _ (List.mem_append_right _ (mem_pinsAt hb e)))
                ⟨z.1, z.2.1⟩
              refine ⟨m', hm, j + 1, H', I'.unpinned.weak (by rw [← hw15, wipe_length]) (fun j v e => by rw [← hw15] at e; exact (wipe_some e).1), T1.keep _ _ _ st14 fun b hb o e => (pin' b hb o e).1, fun b hb => ?_, w'⟩
              obtain ⟨o, e, _⟩ := T1.obj _ _ st14 b hb
              exact (pin' b hb o e).2
            cases b1 with
            | false =>
              simp only [Bool.false_eq_true, if_false] at q16 ⊢
              exact fin1 I16 q16
            | true =>
              simp only [if_true] at q16 ⊢
              refine thnF (pk.run _ s16 σ15 H16 _ I16 q16) fun z s17 ⟨yk, H17, I17, r17, q17⟩ => ?_
              refine thnF (pv.run _ s17 σ15 H17 _ I17 q17) fun z2 s18 ⟨yv, H18, I18, r18, kvs, kk, ek, hD18, hz18, nx⟩ => ?_
              subst ek
              exact d_dictSet (X := X.blk s3 H3 scope ce fp) I18 hD18 hz18 r17 r18 fun s19 I19 => fin1 I19 nx
        exact start_second loop1 (T1.self X.A 0 _ _ _ st11 loop1)
  exact codeAny_compStart_dict loop (T.self X.A 0 _ _ _ st4 loop)
end
end Py
namespace Py
open PySem PySem.Spec PyProof.Rows L2
section
variable {c : RC} {X : Cx} {W : WX} {G : GEnv}
theorem pe_dc2 {kx vx tg iter tg1 iter1 : Expr} {ifs ifs1 : List Expr} {scope : Scope} {own : List (Str × Nat)} {vs1 : List Nat} {pos : Pos} {wi wi1 : TI} {g g1 : TG} {tt tt1 : TT} {tk tv : TE} (hc : X.calm = true) (hN : X.N.Nodup) (hi : L2.PI X tg iter wi) (ok : BlkOk X.N X.env.scope scope own) (hv : ∀ i ∈ vs1, i ∈ own.map (·.2))
    (hg : InBlk X scope fun Y => PG Y tg g) (ht : InBlk X scope fun Y => PTs Y ifs tt) (hi1 : InBlk X scope fun Y => L2.PI Y tg1 iter1 wi1) (hg1 : InBlk X scope fun Y => PG Y tg1 g1) (ht1 : InBlk X scope fun Y => PTs Y ifs1 tt1)
    (hk : InBlk X scope fun Y => PE Y kx tk) (hvl : InBlk X scope fun Y => PE Y vx tv) (fold : ∀ x, foldedSetIterable iter X.env x = pure x) (fold1 : ∀ env x, foldedSetIterable iter1 env x = pure x) :
    PE X (twoFor kx vx tg iter tg1 iter1 ifs ifs1 scope pos) (tDc2 wi g tt wi1 g1 tt1 tk tv (own.map (·.2)) vs1) := by
  refine ⟨fun pins s σ H Q I h => ?_⟩
  rw [arm_eval_DictComp]
  refine dc2_core hc hN I hi ok hv hg ht hi1 hg1 ht1 hk hvl fold fold1 h fun D C s' m H' I' q hn f => ⟨m, hn, fun h'' sb => ?_⟩
  obtain ⟨f0, f1, f2, f3, f4, f5⟩ := f
  exact ⟨.ref D, H', I'.turned (t' := s'.toks) (fun b o hb e => (sb.2 b hb).trans e) f0 f1 f3 f4 f5, rfl, q⟩
theorem dc2_lift (hK : X.K = c.K) {tg tg1 : Tg} {it it1 : I} {kx elt : E} {own own1 : List (Str × Nat)} {tup tup1 : Bool} (ht : tup = true → ∃ xs, tg = .tup xs) (ht1 : tup1 = true → ∃ xs, tg1 = .tup xs) (hown : ∀ i ∈ tg.ixs, i ∈ own.map (·.2)) (hown1 : ∀ i ∈ tg1.ixs, i ∈ own1.map (·.2)) {σ : L2.St} {H : Hp} {Q Q' : VK} (hQ : ∀ v H, FzS Q v H → Q' v H) (h : lE c (ev G (.dc2 kx elt tg it tg1 it1 own own1)) W σ H Q) :
    tDc2 (lI c tup (evI G it) W) (gOf X.K tg) (lT c (evC G .nil) noW) (lI c tup1 (evI G it1) noW) (gOf X.K tg1) (lT c (evC G .nil) noW) (lE c (ev G kx) noW) (lE c (ev G elt) noW) (own.map (·.2)) (own1.map (·.2)) σ H Q' := by
  obtain ⟨σd, A, Xd, Qd, rs, ra, t, f, fw⟩ := h
  refine ⟨σd, A, Xd, _, rs, ra, t, fun ds Gd A1 J H1 q1 m1 ra1 ix L hL => ?_, fw⟩
  have q2 := q1 L (RelA_none ra1 hL)
  have mL := Mono.fresh (o := .dK []) hL
  let R := fun ds A2 => dc2R Gd tg (fun σ' A' R => evI G it1 σ' A' noX R) tg1 own1 (fun σ' A' R => (ev2 G kx).1 σ' A' noX R) (fun σ' A' R => (ev2 G elt).1 σ' A' noX R) (wipeD σd own) L (fun A2 => outD L A2 Qd) ds A2
  refine ⟨fun i m H2 => m = ds.length - i ∧ i ≤ ds.length ∧ ∃ A2, Mono H1 H2 ∧ RelA c A2 H2 ∧ R (ds.drop i) A2,
    ⟨ds.length, by simp, Nat.zero_le _, _, mL, ra1.put (o := .dct []) mL ⟨[], upd_same, rfl⟩, q2⟩, ?_⟩
  rintro i m H2 ⟨rfl, hi, A2, m2, ra2, q⟩
  by_cases hlt : i < ds.length
  · obtain ⟨d, ed⟩ : ∃ d, ds[i]? = some d := ⟨_, List.getElem?_eq_getElem hlt⟩
    have e1 : ds.drop i = d :: ds.drop (i + 1) := by
      rw [List.drop_eq_getElem_cons hlt]
      rw [List.getElem?_eq_getElem hlt] at ed
      cases ed
      rfl
    have q : dc2R Gd tg _ _ _ _ _ _ L _ (ds.drop i) A2 := q
    rw [e1, dc2R_cons] at q
    obtain ⟨hg, q⟩ := q
    obtain ⟨go, yl⟩ := (ix i H2 A2 m2 ra2 hg).1 d ed
    refine .inr ⟨go, fun H' => ∃ A2, Mono H1 H' ∧ RelA c A2 H' ∧ R (ds.drop (i + 1)) A2,
      fun H' p => ⟨ds.length - (i + 1), by omega, rfl, hlt, p⟩, fun x H3 y => ?_⟩
    obtain ⟨m3, ra3, rd⟩ := yl x H3 y
    have m13 := m1.trans (m2.trans m3)
    rw [hK]
    refine gOf_go rd ht ((rs.mono m13).wipe own) q fun σd' σ' k r' hw => ⟨?_, ?_⟩
    · rw [hw _ hown, wipe_wipe]
    · refine ⟨σd', A2, noX, fun b A4 => b = true ∧ evI G it1 σd' A4 noX (fun es G1 A1 => dcR G1 tg1 (fun _ A R => R true A) (fun σ' A' R => (ev2 G kx).1 σ' A' noX R) (fun σ' A' R => (ev2 G elt).1 σ' A' noX R) (wipeD σd' own1) L (fun A2 => R (ds.drop (i + 1)) A2) es A1), r', ra3, ⟨rfl, k⟩, fun bb A4 H4 q4 m4 ra4 => ?_, noW_fol⟩
      obtain ⟨rfl, q4⟩ := q4
      rw [if_pos rfl]
      refine ⟨σd', A4, noX, _, r'.mono m4, ra4, q4, fun es G1 A5 J1 H5 q5 m5 ra5 ix1 => ?_, noW_fol⟩
      have m15 := m2.trans (m3.trans (m4.trans m5))
      let R1 := fun es A2 => dcR G1 tg1 (fun _ A R => R true A) (fun σ' A' R => (ev2 G kx).1 σ' A' noX R) (fun σ' A' R => (ev2 G elt).1 σ' A' noX R) (wipeD σd' own1) L (fun A2 => R (ds.drop (i + 1)) A2) es A2
      refine ⟨fun j k H6 => k = es.length - j ∧ j ≤ es.length ∧ ∃ A6, Mono H5 H6 ∧ RelA c A6 H6 ∧ R1 (es.drop j) A6, ⟨es.length, by simp, Nat.zero_le _, A5, .refl, ra5, q5⟩, ?_⟩
      rintro j k H6 ⟨rfl, hj, A6, m6, ra6, q6⟩
      by_cases hlt1 : j < es.length
      · obtain ⟨e, ee⟩ : ∃ e, es[j]? = some e := ⟨_, List.getElem?_eq_getElem hlt1⟩
        have e2 : es.drop j = e :: es.drop (j + 1) := by
          rw [List.drop_eq_getElem_cons hlt1]
          rw [List.getElem?_eq_getElem hlt1] at ee
          cases ee
          rfl
        have q6 : dcR G1 tg1 _ _ _ _ L _ (es.drop j) A6 := q6
        rw [e2, dcR_cons] at q6
        obtain ⟨hg1, q6⟩ := q6
        obtain ⟨go1, yl1⟩ := (ix1 j H6 A6 m6 ra6 hg1).1 e ee
        refine .inr ⟨go1, fun H' => ∃ A2, Mono H5 H' ∧ RelA c A2 H' ∧ R1 (es.drop (j + 1)) A2,
          fun H' p => ⟨es.length - (j + 1), by omega, rfl, hlt1, p⟩, fun x1 H7 y1 => ?_⟩
        obtain ⟨m7, ra7, rd1⟩ := yl1 x1 H7 y1
        rw [← hK, hK]
        refine gOf_go rd1 ht1 ((r'.mono (m4.trans (m5.trans (m6.trans m7)))).wipe own1) q6 fun σd2 σ2 k2 r2 hw2 => ⟨?_, ?_⟩
        · rw [hw2 _ hown1, wipe_wipe]
        · refine ⟨σd2, A6, noX, fun b A8 => b = true ∧ (ev2 G kx).1 σd2 A8 noX fun y A2 => (ev2 G elt).1 σd2 A2 noX fun z A3 => match Py.rd A3 L, dkey y with
              | some (.dct acc), some k => acc.length < sizeLine ∧ R1 (es.drop (j + 1)) (put A3 L (.dct (setK acc k z)))
              | _, _ => False, r2, ra7, ⟨rfl, k2⟩, fun bb A8 H8 q8 m8 ra8 => ?_, noW_fol⟩
          obtain ⟨rfl, q8⟩ := q8
          rw [if_pos rfl]
          refine ⟨σd2, A8, noX, _, r2.mono m8, ra8, q8, fun y A9 w H9 q9 m9 ra9 rw' => ?_, noW_fol⟩
          refine ⟨σd2, A9, noX, _, r2.mono (m8.trans m9), ra9, q9, fun z A10 u H10 q10 m10 ra10 ru => ?_, noW_fol⟩
          dsimp only at q10
          split at q10
          · rename_i acc kk e5 ek
            obtain ⟨ws, h5, r5⟩ := ra10 _ _ e5
            have m11 : Mono H10 (L2.upd H10 L (.dK (putK ws kk u))) := Mono.at h5 fun _ _ z => nomatch z
            refine ⟨ws, kk, dkey_rel ek (RelD.mono m10 _ _ rw'), h5, by rw [r5.length]; exact q10.1, _, (((((m6.trans m7).trans m8).trans m9).trans m10).trans m11), ra10.put (o := .dct (setK acc kk z)) m11 ⟨_, upd_same, (r5.set kk ru).mono m11⟩, q10.2⟩
          · exact q10.elim
      · have e2 : j = es.length := by omega
        subst e2
        have q6 : dcR G1 tg1 _ _ _ _ L _ (es.drop es.length) A6 := q6
        rw [List.drop_length, dcR_nil] at q6
        exact .inl ⟨(ix1 _ H6 A6 m6 ra6 q6.1).2 rfl, A6, m15.trans m6, ra6, q6.2⟩
  · have e1 : i = ds.length := by omega
    subst e1
    have q : dc2R Gd tg _ _ _ _ _ _ L _ (ds.drop ds.length) A2 := q
    rw [List.drop_length, dc2R_nil] at q
    exact .inl ⟨(ix _ H2 A2 m2 ra2 q.1).2 rfl, hQ _ _ ((f.from (m1.trans m2)).outD q.2 ra2)⟩
/-- what such a comprehension is made of -/
structure Dc2Ok (c : RC) (G : GEnv) (X : Cx) (W : WX) (kx elt : Expr) (gens : List Comprehension) (scope : Scope) (ekx eelt : E) (etg : Tg) (eit : I) (etg1 : Tg) (eit1 : I) (own own1 : List (Str × Nat)) : Prop where
  ex : ∃ tg iter tg1 iter1, gens = [⟨tg, iter, [], 0⟩, ⟨tg1, iter1, [], 0⟩] ∧ (∀ i ∈ etg.ixs, i ∈ own.map (·.2)) ∧ (∀ i ∈ etg1.ixs, i ∈ own1.map (·.2)) ∧ (∀ i ∈ own1.map (·.2), i ∈ own.map (·.2)) ∧
    (∃ tup, (tup = true → ∃ xs, etg = .tup xs) ∧ L2.PI X tg iter (lI c tup (evI G eit) W)) ∧ BlkOk X.N X.env.scope scope own ∧ (InBlk X scope fun Y => TgIs Y etg tg) ∧
    (∃ tup1, (tup1 = true → ∃ xs, etg1 = .tup xs) ∧ InBlk X scope fun Y => L2.PI Y tg1 iter1 (lI c tup1 (evI G eit1) noW)) ∧ (InBlk X scope fun Y => TgIs Y etg1 tg1) ∧ (InBlk X scope fun Y => PTs Y [] (lT c (evC G .nil) noW)) ∧
    (InBlk X scope fun Y => PE Y kx (lE c (ev G ekx) noW)) ∧ (InBlk X scope fun Y => PE Y elt (lE c (ev G eelt) noW)) ∧ notSet iter = true ∧ notSet iter1 = true
theorem s_dc2 (hK : X.K = c.K) (hc : X.calm = true) (hN : X.N.Nodup) {kx elt : Expr} {gens : List Comprehension} {scope : Scope} {ekx eelt : E} {etg etg1 : Tg} {eit eit1 : I} {own own1 : List (Str × Nat)} {pos : Pos} (D : Dc2Ok c G X W kx elt gens scope ekx eelt etg eit etg1 eit1 own own1) :
    PE X (.DictComp kx elt gens scope pos) (lE c (ev G (.dc2 ekx eelt etg eit etg1 eit1 own own1)) W) := by
  obtain ⟨tg, iter, tg1, iter1, rfl, h1, h2, h3, ⟨tup, h4, h5⟩, h6, h7, ⟨tup1, h8, h9⟩, h10, h11, h12, h13, h14, h15⟩ := D.ex
  exact PE.imp (PE.fz (pe_dc2 hc hN h5 h6 h3 (fun s H C cl fp => TgIs.pg (X := X.blk s H scope (compEnvC scope cl C X.env) fp) hc hN (h7 s H C cl fp)) h11 h9 (fun s H C cl fp => TgIs.pg (X := X.blk s H scope (compEnvC scope cl C X.env) fp) hc hN (h10 s H C cl fp)) h11 h12 h13 (noFold h14) (fun env x => noFold h15 x))) fun _ _ _ h => dc2_lift hK h4 h8 h1 h2 (fun _ _ q => q) h
/-- name = {..} on one line -/
theorem ps_setDc2 {i : Nat} {y : Str} {py spos : Pos} {kx elt tg iter tg1 iter1 : Expr} {ifs ifs1 : List Expr} {scope : Scope} {own : List (Str × Nat)} {vs1 : List Nat} {pos : Pos} {wi wi1 : TI} {g g1 : TG} {tt tt1 : TT} {tk te : TE} (calm : X.calm = true) (nd : X.N.Nodup) (place : X.N[i]? = some y) (isLoc : X.env.scope.names.lookup y = some .local)
    (turned : swapsWith (twoFor kx elt tg iter tg1 iter1 ifs ifs1 scope pos) (some (.Name y py)) spos.line X.env = pure true) (source : L2.PI X tg iter wi) (blk : BlkOk X.N X.env.scope scope own) (hv : ∀ i ∈ vs1, i ∈ own.map (·.2))
    (target : InBlk X scope fun Y => PG Y tg g) (tests : InBlk X scope fun Y => PTs Y ifs tt) (source1 : InBlk X scope fun Y => L2.PI Y tg1 iter1 wi1) (target1 : InBlk X scope fun Y => PG Y tg1 g1) (tests1 : InBlk X scope fun Y => PTs Y ifs1 tt1) (key : InBlk X scope fun Y => PE Y kx tk) (val : InBlk X scope fun Y => PE Y elt te) (fold : ∀ x, foldedSetIterable iter X.env x = pure x) (fold1 : ∀ env x, foldedSetIterable iter1 env x = pure x) :
    PS X (.Assign [.Name y py] (twoFor kx elt tg iter tg1 iter1 ifs ifs1 scope pos) spos) (tAsg (tDc2 wi g tt wi1 g1 tt1 tk te (own.map (·.2)) vs1) (gName i)) := by
  constructor
  intro pins st σ H Z inv hyp
  have hyp : tDc2 wi g tt wi1 g1 tt1 tk te (own.map (·.2)) vs1 σ H (fun x H1 => gName i x σ H1 Z.nx) := hyp
  have core := dc2_core (X := X) (pins := pins) (pos := pos) (pos' := firstIterPos [⟨tg, iter, ifs, 0⟩, ⟨tg1, iter1, ifs1, 0⟩] pos) (use := some (assign (.Name y py) X.env)) (Qf := fun _ t => SP X pins Z .next t) calm nd inv source blk hv target tests source1 target1 tests1 key val fold fold1 hyp (by
    intro D C t m H' J q frame away
    refine wpAny_assign_Name (store_ok2 (x := y) (v := V.ref D) (hf := .inr isLoc) J nd place (.inl isLoc) rfl ?_)
    rintro t2 J2 ⟨b, same, at_⟩
    obtain ⟨n0, n1, n2, n3, n4, n5⟩ := away
    have apart : C ≠ b := by
      rcases at_ with z | z
      · exact z ▸ n1
      · exact Ne.symm (n4 y b z)
    exact ⟨m, frame.sameBut same apart, fun h3 sb3 => ⟨_, H', J2.turned (t' := t2.toks) (fun c o hc e => (sb3.2 c hc).trans e) n0 n1 n3 n4 n5, q⟩⟩)
  rw [exec_Assign_Name_used _ _ _ _ turned]
  apply wpAny_bind
  apply wpAny_standAt
  apply wpAny_bind
  apply wpAny_bind
  exact thn core fun _ t done => wpAny_pure (wpAny_pure done)
theorem s_setDc2 (hK : X.K = c.K) (hc : X.calm = true) (hN : X.N.Nodup) {i : Nat} {y : Str} {py spos : Pos} (hy : X.N[i]? = some y) (hyl : X.env.scope.names.lookup y = some .local) {kx elt : Expr} {gens : List Comprehension} {scope : Scope} {ekx eelt : E} {etg etg1 : Tg} {eit eit1 : I} {own own1 : List (Str × Nat)} {pos : Pos}
    (hsw : swapsWith (.DictComp kx elt gens scope pos) (some (.Name y py)) spos.line X.env = pure true) (D : Dc2Ok c G X W kx elt gens scope ekx eelt etg eit etg1 eit1 own own1) :
    PS X (.Assign [.Name y py] (.DictComp kx elt gens scope pos) spos) (tAsg (lE c (ev G (.dc2 ekx eelt etg eit etg1 eit1 own own1)) W) (gName i)) := by
  obtain ⟨tg, iter, tg1, iter1, rfl, h1, h2, h3, ⟨tup, h4, h5⟩, h6, h7, ⟨tup1, h8, h9⟩, h10, h11, h12, h13, h14, h15⟩ := D.ex
  exact PS.imp (PS.fzN (ps_setDc2 hc hN hy hyl hsw h5 h6 h3 (fun s H C cl fp => TgIs.pg (X := X.blk s H scope (compEnvC scope cl C X.env) fp) hc hN (h7 s H C cl fp)) h11 h9 (fun s H C cl fp => TgIs.pg (X := X.blk s H scope (compEnvC scope cl C X.env) fp) hc hN (h10 s H C cl fp)) h11 h12 h13 (noFold h14) (fun env x => noFold h15 x))) fun D σ H h => dc2_lift hK h4 h8 h1 h2 (Q' := fun x H1 => FzN D.nx (σ.set i (some x)) H1) (fun v H q => FzN.of q) h
end
end Py

namespace Py
open PySem PySem.Spec PyProof.Rows L2
/-! ### does the tree say what the text says? -/
/-- a form of a call by keyword: the def, values by place, the keyword; by a default: the def, values by place, the default -/
structure Names where
  defs : List Str
  cons : List Str
  excs : List Str
  kws : List (Str × Nat × Str)
  dfl : List (Str × Nat × Int)
def glB (sc : Scope) (x : Str) : Bool := decide (sc.names.lookup x = some .globalImplicit) && !(x == ("__debug__" : Str))
def visB (sc : Scope) (x : Str) : Bool := decide (sc.names.lookup x = some .local) || (decide (sc.names.lookup x = some .cell) || decide (sc.names.lookup x = some .free))
def locB (sc : Scope) (x : Str) : Bool := decide (sc.names.lookup x = some .local) || decide (sc.names.lookup x = some .cell)
/-- a built-in's name; is it a type; its id -/
def bfOf : BF → Option (Str × Bool × String)
  | .len => some ("len", false, "len") | .int => some ("int", true, "int") | .str => some ("str", true, "str") | .repr => some ("repr", false, "repr") | .sorted => some ("sorted", false, "sorted")
  | .min => some ("min", false, "min") | .max => some ("max", false, "max") | .all => some ("all", false, "all") | .any => some ("any", false, "any") | .sum => some ("sum", false, "sum")
  | .tuple => some ("tuple", true, "tuple") | .list => some ("list", true, "list") | .dict => some ("dict", true, "dict")
  | _ => none
def bltAll : List Str := ["len", "int", "str", "repr", "sorted", "min", "max", "all", "any", "sum", "tuple", "list", "dict", "set", "range", "isinstance", "bool", "enumerate", "zip"]
def clName : Cl → Str | .int => "int" | .bool => "bool" | .str => "str" | .tuple => "tuple" | .list => "list" | .dict => "dict" | .own x => x
def baseOk : Expr → Bool
  | .Call _ (_ :: _) _ _ => true
  | .Call _ [] _ _ => false
  | _ => true
theorem baseOk_eq {o : Expr} {m : Str} {env : Env} (h : baseOk o = true) (w : Sem Value) : attributeBase o m env w = w := by
  cases o with
  | Call f args kws pos =>
    cases args with
    | nil => cases h
    | cons a as => cases f <;> rfl
  | _ => rfl
def noComp : Expr → Bool
  | .ListComp .. => false
  | .SetComp .. => false
  | .DictComp .. => false
  | _ => true
theorem noComp_eq {e : Expr} {t : Option Expr} {l : Nat} {env : Env} (h : noComp e = true) : swapsWith e t l env = pure false := by
  cases e <;> first | rfl | cases h
def chCls (sc : Scope) : List Cl → List Expr → Bool
  | [], [] => true
  | c :: cs, .Name y _ :: es => (clT c).isSome && clName c == y && glB sc y && chCls sc cs es
  | _, _ => false
def chNames (N : List Str) (sc : Scope) : List (Nat × Str) → List Expr → Bool
  | [], [] => true
  | (i, x) :: xs, .Name y _ :: es => x == y && decide (N[i]? = some x) && locB sc x && chNames N sc xs es
  | _, _ => false
def tupI : I → Bool
  | .enum _ => true
  | .zip _ _ => true
  | .items _ => true
  | _ => false
def isTupE : Expr → Bool
  | .Tuple .. => true
  | _ => false
def tupOk (it : I) (t : Expr) : Bool := !tupI it || isTupE t
theorem tupOk_ex {it : I} {t : Expr} (h : tupOk it t = true) (q : tupI it = true) : ∃ es kk p, t = .Tuple es kk p := by
  unfold tupOk at h
  rw [q] at h
  cases t <;> first | exact ⟨_, _, _, rfl⟩ | (simp [isTupE] at h)
def chTg (N : List Str) (sc : Scope) : Tg → Expr → Bool
  | .name i x, .Name y _ => x == y && decide (N[i]? = some x) && locB sc x
  | .tup xs, .Tuple es _ _ => chNames N sc xs es
  | _, _ => false
variable (n : Names) (N : List Str)
mutual
def chE : Scope → E → Expr → Bool
  | sc, .var i x, .Name y _ => x == y && decide (N[i]? = some x) && visB sc x && !(x == ("__debug__" : Str)) && !(x == ("__classdict__" : Str))
  | sc, .gv x, .Name y _ => x == y && glB sc x && n.cons.contains x
  | _, .cst d, .Constant k _ _ => cstIs k d
  | sc, .bin o a b, .BinOp x op y _ => decide (bopOp o = op) && chE sc a x && chE sc b y
  | sc, .neg a, .UnaryOp .USub x _ => chE sc a x
  | sc, .cmp o a b, .Compare x [op] [y] _ => decide (copOp o = op) && chE sc a x && chE sc b y && !(behindInMarks op y)
  | sc, .chain o o' a b c, .Compare x [op, op'] [y, z] _ => decide (copOp o = op) && decide (copOp o' = op') && chE sc a x && chE sc b y && chE sc c z && !(lastMarks [op, op'] [y, z])
  | sc, .bop k es, .BoolOp op (x :: xs) _ => (match k, op with | true, .And => true | false, .Or => true | _, _ => false) && chEs sc es (x :: xs)
  | sc, .not a, .UnaryOp .Not x _ => chE sc a x
  | sc, .ite c a b, .IfExp z x y _ => chE sc c z && chE sc a x && chE sc b y
  | sc, .tup es, .Tuple xs _ _ => chEs sc es xs
  | sc, .lst es, .List xs _ => chEs sc es xs
  | sc, .idx a i, .Subscript x y _ => chE sc a x && chE sc i y && notSlice y
  | sc, .slc a lo hi, .Subscript x (.Slice l h none _) _ => chE sc a x && chO sc lo l && chO sc hi h
  | sc, .rev a, .Subscript x (.Slice none none (some (.UnaryOp .USub (.Constant (.int i) _ _) _)) _) _ => decide (i = 1) && chE sc a x
  | sc, .sset a, .Call (.Name y _) [.Call (.Name z _) [x] [] _] [] _ => y == ("sorted" : Str) && z == ("set" : Str) && glB sc "sorted" && glB sc "set" && chE sc a x && noStar x
  | sc, .lset a, .Call (.Name y _) [.Call (.Name z _) [x] [] _] [] _ => y == ("len" : Str) && z == ("set" : Str) && glB sc "len" && glB sc "set" && chE sc a x && noStar x
  | sc, .lrg it, .Call (.Name y _) [x] [] _ => y == ("list" : Str) && glB sc "list" && chR sc it x && noStar x
  | sc, .trg it, .Call (.Name y _) [x] [] _ => y == ("tuple" : Str) && glB sc "tuple" && chR sc it x && noStar x
  | sc, .callk f es ns ws dv, .Call (.Name y _) (x :: xs) kws _ => f == y && glB sc f && chEs sc es (x :: xs) && (match ns, ws, dv, kws with
      | [k], .cons w .nil, [], [⟨kn, v, _⟩] => kn == some k && n.kws.contains (f, xs.length + 1, k) && chE sc w v
      | [], .nil, [.int i], [] => n.dfl.contains (f, xs.length + 1, i)
      | _, _, _, _ => false)
  | _, .dnil, .Dict [] [] _ => true
  | sc, .dsp ps, .Dict (k :: ks) vs _ => chPs sc ps (k :: ks) vs && decide (ks.length < 15)
  | sc, .litems a, .Call (.Name y _) [.Call (.Attribute x m apos) [] [] cpos] [] _ => y == ("list" : Str) && m == ("items" : Str) && glB sc "list" && chE sc a x && baseOk x && (apos.endLine == cpos.line)
  | sc, .dc kx elt tg it cs own, .DictComp x v gens scope _ => (match gens with
      | [⟨t, iter, ifs, 0⟩] => chI sc it iter && blkC N sc scope own && chTg N scope tg t && tg.ixs.all (fun i => decide (i ∈ own.map (·.2))) && chC (relS scope sc) cs ifs && chE (relS scope sc) kx x && chE (relS scope sc) elt v && notSet iter && tupOk it t
      | _ => false)
  | sc, .dc2 kx elt tg it tg1 it1 own own1, .DictComp x v gens scope _ => (match gens with
      | [⟨t, iter, [], 0⟩, ⟨t1, iter1, [], 0⟩] => chI sc it iter && blkC N sc scope own && chTg N scope tg t && tg.ixs.all (fun i => decide (i ∈ own.map (·.2))) && chI (relS scope sc) it1 iter1 && chTg N scope tg1 t1 && tg1.ixs.all (fun i => decide (i ∈ own1.map (·.2))) && (own1.map (·.2)).all (fun i => decide (i ∈ own.map (·.2))) && chE (relS scope sc) kx x && chE (relS scope sc) elt v && notSet iter && notSet iter1 && tupOk it t && tupOk it1 t1
      | _ => false)
  | sc, .call f es, .Call (.Name y _) xs [] _ => f == y && glB sc f && n.defs.contains f && chEs sc es xs
  | sc, .bif f es, .Call (.Name y _) (x :: xs) [] _ => (match bfOf f with | some (m, _, _) => m == y && glB sc m | none => false) && chEs sc es (x :: xs)
  | sc, .mth m o es, .Call (.Attribute z y apos) xs [] cpos => mName m == y && chE sc o z && chEs sc es xs && baseOk z && (apos.endLine == cpos.line) && decide (xs.length < 30)
  | sc, .isis a cs, .Call (.Name f _) [x, .Tuple es _ _] [] _ => f == ("isinstance" : Str) && glB sc "isinstance" && chCls sc cs es && decide (0 < cs.length) && decide (cs.length < 30) && chE sc a x && noStar x
  | sc, .isi a cl, .Call (.Name f _) [x, .Name y _] [] _ => f == ("isinstance" : Str) && glB sc "isinstance" && (clT cl).isSome && clName cl == y && glB sc y && chE sc a x && noStar x
  | sc, .lc elt tg it cs own, .ListComp x gens scope _ => (match gens with
      | [⟨t, iter, ifs, 0⟩] => chI sc it iter && blkC N sc scope own && chTg N scope tg t && tg.ixs.all (fun i => decide (i ∈ own.map (·.2))) && chC (relS scope sc) cs ifs && chE (relS scope sc) elt x && notSet iter && tupOk it t
      | _ => false)
  | _, _, _ => false
def chPs : Scope → Ps → List (Option Expr) → List Expr → Bool
  | _, .nil, [], [] => true
  | sc, .cons a b ps, some x :: ks, y :: vs => chE sc a x && chE sc b y && chPs sc ps ks vs
  | _, _, _, _ => false
def chEs : Scope → Es → List Expr → Bool
  | _, .nil, [] => true
  | sc, .cons e es, x :: xs => chE sc e x && noStar x && chEs sc es xs
  | _, _, _ => false
def chC : Scope → Es → List Expr → Bool
  | _, .nil, [] => true
  | sc, .cons e .nil, [x] => chE sc e x
  | _, _, _ => false
def chO : Scope → Oe → Option Expr → Bool
  | _, .no, none => true
  | sc, .yes e, some x => chE sc e x
  | _, _, _ => false
def chR : Scope → I → Expr → Bool
  | sc, .rng1 a, .Call (.Name f _) [x] [] _ => f == ("range" : Str) && glB sc "range" && chE sc a x && noStar x
  | sc, .rng2 a b, .Call (.Name f _) [x, y] [] _ => f == ("range" : Str) && glB sc "range" && chE sc a x && chE sc b y && noStar x && noStar y
  | _, _, _ => false
def chI : Scope → I → Expr → Bool
  | sc, .seq e, x => chE sc e x
  | sc, .rng1 a, .Call (.Name f _) [x] [] _ => f == ("range" : Str) && glB sc "range" && chE sc a x && noStar x
  | sc, .rng2 a b, .Call (.Name f _) [x, y] [] _ => f == ("range" : Str) && glB sc "range" && chE sc a x && chE sc b y && noStar x && noStar y
  | sc, .items a, .Call (.Attribute x m apos) [] [] cpos => m == ("items" : Str) && chE sc a x && baseOk x && (apos.endLine == cpos.line)
  | sc, .values a, .Call (.Attribute x m apos) [] [] cpos => m == ("values" : Str) && chE sc a x && baseOk x && (apos.endLine == cpos.line)
  | sc, .zip a b, .Call (.Name f _) [x, y] [] _ => f == ("zip" : Str) && glB sc "zip" && chE sc a x && chE sc b y && noStar x && noStar y
  | sc, .enum a, .Call (.Name f _) [x] [] _ => f == ("enumerate" : Str) && glB sc "enumerate" && chE sc a x && noStar x
  | _, _, _ => false
end
end Py

set_option maxHeartbeats 8000000
namespace Py
open PySem PySem.Spec PyProof.Rows L2
/-- an exception's class of the text -/
def ExcOk (c : RC) (K : PySem.W.Frag) (mg : Str → Option Value) (x : Str) : Prop := ∃ C, c.cl x = some C ∧ mg x = some (.ref C) ∧
  PySem.W.excIn K C [.type "ValueError", .type "Exception", .type "BaseException", .type "object"] "ValueError.__new__" = true ∧ PySem.W.keepIn K (.ref C) = true ∧
  PySem.W.subIn K (.ref C) (.type "BaseException") = some true ∧ PySem.W.typeIn K (.ref C) = some (.type "type")
structure XOk (c : RC) (G : GEnv) (n : Names) (k : Nat) (N : List Str) (sc : Scope) (X : Cx) : Prop where
  hK : X.K = c.K
  calm : X.calm = true
  hN : X.N = N
  nd : X.N.Nodup
  hsc : X.env.scope = sc
  room : Room k X.A
  gd : X.A.guards = some []
  blt : ∀ x ∈ bltAll, X.mg x = none
  defs : ∀ f ∈ n.defs, DefOk c X.prog X.w X.K X.mg X.base k G.cal f
  con : ∀ x d, G.con x = some d → x ∈ n.cons → ∃ u v, X.mg x = some u ∧ RelV v u ∧ ∀ H, RelD c.K H d v
  exc : ∀ x ∈ n.excs, ExcOk c X.K X.mg x
  kws : ∀ f m kn, (f, m, kn) ∈ n.kws → KwOk c X.prog X.w X.K X.mg X.base k G.cal f m [kn] []
  dfl : ∀ f m i, (f, m, i) ∈ n.dfl → KwOk c X.prog X.w X.K X.mg X.base k G.cal f m [] [.int i]
section
variable {c : RC} {G : GEnv} {n : Names} {k : Nat} {N : List Str}
theorem glB_gl {sc : Scope} {X : Cx} {x : Str} (hsc : X.env.scope = sc) (h : glB sc x = true) : Gl X x ∧ (x == ("__debug__" : Str)) = false := by
  unfold glB at h
  simp only [Bool.and_eq_true, decide_eq_true_eq, Bool.not_eq_true'] at h
  refine ⟨?_, h.2⟩
  show X.env.scope.names.lookup x = _
  rw [hsc]
  exact h.1
theorem visB_vis {sc : Scope} {X : Cx} {x : Str} (hsc : X.env.scope = sc) (h : visB sc x = true) : Vis X.env.scope x := by
  unfold visB at h
  simp only [Bool.or_eq_true, decide_eq_true_eq] at h
  unfold Vis
  rw [hsc]
  exact h
theorem XOk.blk {sc : Scope} {X : Cx} (O : XOk c G n k N sc X) (s : Shared) (H : Hp) (scope : Scope) (C : Addr) (cl : List (Str × Addr)) (fp : List Addr) : XOk c G n k N (relS scope sc) (X.blk s H scope (compEnvC scope cl C X.env) fp) where
  hK := O.hK
  calm := O.calm
  hN := O.hN
  nd := O.nd
  hsc := by
    show relabel scope X.env = relS scope sc
    rw [← O.hsc]
    rfl
  room := O.room
  gd := O.gd
  blt := O.blt
  defs := O.defs
  con := O.con
  exc := O.exc
  kws := O.kws
  dfl := O.dfl
theorem blk_store {sc scope : Scope} {X : Cx} {x : Str} {i : Nat} (O : XOk c G n k N sc X) (h : locB scope x = true) (hi : N[i]? = some x) (s : Shared) (H : Hp) (C : Addr) (cl : List (Str × Addr)) (fp : List Addr) : StoreOk (X.blk s H scope (compEnvC scope cl C X.env) fp) i x := by
  have e : (X.blk s H scope (compEnvC scope cl C X.env) fp).env.scope = relS scope sc := (O.blk s H scope C cl fp).hsc
  unfold locB at h
  simp only [Bool.or_eq_true, decide_eq_true_eq] at h
  refine ⟨by rw [← O.hN] at hi; exact hi, ?_, ?_⟩
  · unfold L2.Loc
    rw [e]
    rcases h with h | h
    · exact .inl (lookup_relS_keep (by decide) h)
    · exact .inr (lookup_relS_keep (by decide) h)
  · rcases h with h | h
    · right
      rw [e]
      exact lookup_relS_keep (by decide) h
    · left
      show (scope.names.lookup x == some .cell) = true
      rw [h]
      rfl
theorem blk_names {sc scope : Scope} {X : Cx} (O : XOk c G n k N sc X) (s : Shared) (H : Hp) (C : Addr) (cl : List (Str × Addr)) (fp : List Addr) : ∀ {xs : List (Nat × Str)} {es : List Expr}, chNames N scope xs es = true → NamesAre (X.blk s H scope (compEnvC scope cl C X.env) fp) xs es
  | [], [], _ => .nil
  | (i, x) :: xs, e :: es, h => by
    cases e <;> simp only [chNames] at h <;> try (cases h; done)
    simp only [Bool.and_eq_true, beq_iff_eq, decide_eq_true_eq] at h
    obtain ⟨⟨⟨rfl, h1⟩, h2⟩, h3⟩ := h
    exact .cons (blk_store O h2 h1 s H C cl fp) (blk_names O s H C cl fp h3)
  | [], _ :: _, h => by simp [chNames] at h
  | (_, _) :: _, [], h => by simp [chNames] at h
theorem blk_tg {sc scope : Scope} {X : Cx} (O : XOk c G n k N sc X) {tg : Tg} {e : Expr} (h : chTg N scope tg e = true) (s : Shared) (H : Hp) (C : Addr) (cl : List (Str × Addr)) (fp : List Addr) : TgIs (X.blk s H scope (compEnvC scope cl C X.env) fp) tg e := by
  cases tg <;> cases e <;> simp only [chTg] at h <;> try (cases h; done)
  · simp only [Bool.and_eq_true, beq_iff_eq, decide_eq_true_eq] at h
    obtain ⟨⟨rfl, h1⟩, h2⟩ := h
    exact .name (blk_store O h2 h1 s H C cl fp)
  · exact .tup (blk_names O s H C cl fp h)
/-- what a list comprehension is made of -/
structure LcOk (c : RC) (G : GEnv) (X : Cx) (W : WX) (elt : Expr) (gens : List Comprehension) (scope : Scope) (eelt : E) (etg : Tg) (eit : I) (ecs : Es) (own : List (Str × Nat)) : Prop where
  ex : ∃ tg iter cs, gens = [⟨tg, iter, cs, 0⟩] ∧ (∀ i ∈ etg.ixs, i ∈ own.map (·.2)) ∧ (∃ tup, (tup = true → ∃ xs, etg = .tup xs) ∧ PI X tg iter (lI c tup (evI G eit) W)) ∧ BlkOk X.N X.env.scope scope own ∧
    (∀ (s : Shared) (H : Hp) (C : Addr) (cl : List (Str × Addr)) (fp : List Addr), TgIs (X.blk s H scope (compEnvC scope cl C X.env) fp) etg tg) ∧
    (∀ (s : Shared) (H : Hp) (C : Addr) (cl : List (Str × Addr)) (fp : List Addr), PTs (X.blk s H scope (compEnvC scope cl C X.env) fp) cs (lT c (evC G ecs) noW)) ∧
    (∀ (s : Shared) (H : Hp) (C : Addr) (cl : List (Str × Addr)) (fp : List Addr), PE (X.blk s H scope (compEnvC scope cl C X.env) fp) elt (lE c (ev G eelt) noW)) ∧ notSet iter = true
structure DcOk (c : RC) (G : GEnv) (X : Cx) (W : WX) (kx elt : Expr) (gens : List Comprehension) (scope : Scope) (ekx eelt : E) (etg : Tg) (eit : I) (ecs : Es) (own : List (Str × Nat)) : Prop where
  ex : ∃ tg iter cs, gens = [⟨tg, iter, cs, 0⟩] ∧ (∀ i ∈ etg.ixs, i ∈ own.map (·.2)) ∧ (∃ tup, (tup = true → ∃ xs, etg = .tup xs) ∧ PI X tg iter (lI c tup (evI G eit) W)) ∧ BlkOk X.N X.env.scope scope own ∧
    (∀ (s : Shared) (H : Hp) (C : Addr) (cl : List (Str × Addr)) (fp : List Addr), TgIs (X.blk s H scope (compEnvC scope cl C X.env) fp) etg tg) ∧
    (∀ (s : Shared) (H : Hp) (C : Addr) (cl : List (Str × Addr)) (fp : List Addr), PTs (X.blk s H scope (compEnvC scope cl C X.env) fp) cs (lT c (evC G ecs) noW)) ∧
    (∀ (s : Shared) (H : Hp) (C : Addr) (cl : List (Str × Addr)) (fp : List Addr), PE (X.blk s H scope (compEnvC scope cl C X.env) fp) kx (lE c (ev G ekx) noW)) ∧
    (∀ (s : Shared) (H : Hp) (C : Addr) (cl : List (Str × Addr)) (fp : List Addr), PE (X.blk s H scope (compEnvC scope cl C X.env) fp) elt (lE c (ev G eelt) noW)) ∧ notSet iter = true
theorem takes_no {X : Cx} : Takes X noW := fun u s' h => by
  obtain ⟨_, _, _, _, _, _, _, _, _, _, _, _, _, _, _, _, w⟩ := h
  exact w.elim
def bfRule {X : Cx} (hc : X.calm = true) (hK : X.K = c.K) (hg : X.A.guards = some []) (hu : X.A.units + 66 < cLine) : ∀ {f : BF} {m : Str} {id : String}, bfOf f = some (m, false, id) → CallR X (.builtin id) (lRs c (rB f)) ∧ bootBuiltins m = some (.builtin id) ∧ m ≠ "__name__" ∧ m ∈ bltAll := by
  intro f m id h
  cases f <;> simp only [bfOf] at h <;> try (cases h; done)
  · cases h; exact ⟨b_len hK, by decide +kernel, by decide, by decide⟩
  · cases h; exact ⟨b_repr hK hg hu, by decide +kernel, by decide, by decide⟩
  · cases h; exact ⟨b_sorted hc hK hu, by decide +kernel, by decide, by decide⟩
  · cases h; exact ⟨b_min hc hK, by decide +kernel, by decide, by decide⟩
  · cases h; exact ⟨b_max hc hK hu, by decide +kernel, by decide, by decide⟩
  · cases h; exact ⟨b_all hc hK, by decide +kernel, by decide, by decide⟩
  · cases h; exact ⟨b_any hc hK, by decide +kernel, by decide, by decide⟩
  · cases h; exact ⟨b_sum hc hK, by decide +kernel, by decide, by decide⟩
def bfRuleT {X : Cx} (hc : X.calm = true) (hK : X.K = c.K) : ∀ {f : BF} {m : Str} {id : String}, bfOf f = some (m, true, id) → CallR X (.type id) (lRs c (rB f)) ∧ bootBuiltins m = some (.type id) ∧ m ≠ "__name__" ∧ m ∈ bltAll := by
  intro f m id h
  cases f <;> simp only [bfOf] at h <;> try (cases h; done)
  · cases h; exact ⟨b_int, by decide +kernel, by decide, by decide⟩
  · cases h; exact ⟨b_str, by decide +kernel, by decide, by decide⟩
  · cases h; exact ⟨b_tuple hc hK, by decide +kernel, by decide, by decide⟩
  · cases h; exact ⟨b_list hc hK, by decide +kernel, by decide, by decide⟩
  · cases h; exact ⟨b_dict hc hK, by decide +kernel, by decide, by decide⟩
theorem cl_boot {cl : Cl} {T : String} (h : clT cl = some T) : bootBuiltins (clName cl) = some (.type T) ∧ clName cl ≠ "__name__" ∧ clName cl ∈ bltAll := by
  cases cl <;> cases h <;> exact ⟨by decide +kernel, by decide, by decide⟩
theorem cls_are {sc : Scope} {X : Cx} (O : XOk c G n k N sc X) : ∀ {cs : List Cl} {es : List Expr}, chCls sc cs es = true → ∃ Ts, ClsAre X es cs Ts
  | [], [], _ => ⟨[], rfl, pa_nil, fun e he => nomatch he⟩
  | cl :: cs, e :: es, h => by
    cases e <;> simp only [chCls] at h <;> try (cases h; done)
    simp only [Bool.and_eq_true, beq_iff_eq] at h
    obtain ⟨⟨⟨h2, rfl⟩, h4⟩, h5⟩ := h
    obtain ⟨g3, g4⟩ := glB_gl O.hsc h4
    obtain ⟨Ts, hT, hp, hn⟩ := cls_are O h5
    cases eT : clT cl with
    | none => rw [eT] at h2; cases h2
    | some T =>
      obtain ⟨b1, b2, b3⟩ := cl_boot eT
      refine ⟨T :: Ts, by rw [List.map_cons, List.map_cons, eT, hT], PA.imp (pa_cons (pe_bltn (v := .ty T) g3 (O.blt _ b3) b1 rfl b2 g4) hp) fun σ H Q q => q, fun e he => ?_⟩
      rcases List.mem_cons.mp he with rfl | he
      · rfl
      · exact hn e he
  | [], _ :: _, h => by simp [chCls] at h
  | _ :: _, [], h => by simp [chCls] at h
theorem es_ne {ees : Es} {x : Expr} {xs : List Expr} {sc : Scope} (h : chEs n N sc ees (x :: xs) = true) : noStar x = true ∧ xs.all noStar = true := by
  have gen : ∀ (ees : Es) (xs : List Expr), chEs n N sc ees xs = true → xs.all noStar = true := fun ees => by
    intro xs
    induction xs generalizing ees with
    | nil => intro _; rfl
    | cons y ys ih =>
      intro h
      cases ees with
      | nil => simp [chEs] at h
      | cons e es =>
        simp only [chEs, Bool.and_eq_true] at h
        rw [List.all_cons, h.1.2, ih es h.2]
        rfl
  have := gen ees (x :: xs) h
  rw [List.all_cons, Bool.and_eq_true] at this
  exact this
theorem tup_tg {N : List Str} {sc : Scope} {tg : Tg} {t : Expr} (h : chTg N sc tg t = true) (q : ∃ es kk p, t = .Tuple es kk p) : ∃ xs, tg = .tup xs := by
  obtain ⟨es, kk, p, rfl⟩ := q
  cases tg with
  | name i x => exact Bool.noConfusion (show false = true from h)
  | tup xs => exact ⟨xs, rfl⟩
theorem lcOk_mk {elt : E} {tg : Tg} {it : I} {cs : Es} {own : List (Str × Nat)} {sc : Scope} {x : Expr} {gens : List Comprehension} {scope : Scope} {pos : Pos} {X : Cx} {W : WX} (h : chE n N sc (.lc elt tg it cs own) (.ListComp x gens scope pos) = true) (O : XOk c G n k N sc X)
    (hI : ∀ (e t : Expr), chI n N sc it e = true → (tupI it = true → ∃ es kk p, t = .Tuple es kk p) → PI X t e (lI c (tupI it) (evI G it) W)) (hC : ∀ (sc : Scope) (es : List Expr) (X : Cx), chC n N sc cs es = true → XOk c G n k N sc X → PTs X es (lT c (evC G cs) noW))
    (hE : ∀ (sc : Scope) (e : Expr) (X : Cx), chE n N sc elt e = true → XOk c G n k N sc X → PE X e (lE c (ev G elt) noW)) : LcOk c G X W x gens scope elt tg it cs own := by
  rcases gens with _ | ⟨⟨t, iter, ifs, as⟩, _ | ⟨_, _⟩⟩ <;> try (simp [chE] at h; done)
  by_cases ha : as = 0
  · subst ha
    simp only [chE, Bool.and_eq_true, List.all_eq_true, decide_eq_true_eq] at h
    obtain ⟨⟨⟨⟨⟨⟨⟨h1, h2⟩, h3⟩, h4⟩, h5⟩, h6⟩, h7⟩, h8⟩ := h
    exact ⟨t, iter, ifs, rfl, h4, ⟨tupI it, ⟨fun z => tup_tg h3 (tupOk_ex h8 z), hI _ t h1 (tupOk_ex h8)⟩⟩, by rw [O.hN, O.hsc]; exact blkOk_by h2, blk_tg O h3, fun s H C cl fp => hC _ _ _ h5 (O.blk s H scope C cl fp), fun s H C cl fp => hE _ _ _ h6 (O.blk s H scope C cl fp), h7⟩
  · unfold chE at h
    split at h <;> simp_all
theorem dc2Ok_mk {kx elt : E} {tg tg1 : Tg} {it it1 : I} {own own1 : List (Str × Nat)} {sc : Scope} {x v : Expr} {gens : List Comprehension} {scope : Scope} {pos : Pos} {X : Cx} {W : WX} (h : chE n N sc (.dc2 kx elt tg it tg1 it1 own own1) (.DictComp x v gens scope pos) = true) (O : XOk c G n k N sc X)
    (hI : ∀ (e t : Expr), chI n N sc it e = true → (tupI it = true → ∃ es kk p, t = .Tuple es kk p) → PI X t e (lI c (tupI it) (evI G it) W))
    (hI1 : ∀ (sc : Scope) (e t : Expr) (X : Cx), chI n N sc it1 e = true → XOk c G n k N sc X → (tupI it1 = true → ∃ es kk p, t = .Tuple es kk p) → PI X t e (lI c (tupI it1) (evI G it1) noW))
    (hk : ∀ (sc : Scope) (e : Expr) (X : Cx), chE n N sc kx e = true → XOk c G n k N sc X → PE X e (lE c (ev G kx) noW))
    (hE : ∀ (sc : Scope) (e : Expr) (X : Cx), chE n N sc elt e = true → XOk c G n k N sc X → PE X e (lE c (ev G elt) noW)) : Dc2Ok c G X W x v gens scope kx elt tg it tg1 it1 own own1 := by
  rcases gens with _ | ⟨⟨t, iter, ifs, as⟩, _ | ⟨⟨t1, iter1, ifs1, as1⟩, _ | ⟨_, _⟩⟩⟩ <;> try (simp [chE] at h; done)
  cases ifs <;> try (simp [chE] at h; done)
  cases ifs1 <;> try (simp [chE] at h; done)
  by_cases ha : as = 0 ∧ as1 = 0
  · obtain ⟨rfl, rfl⟩ := ha
    simp only [chE, Bool.and_eq_true, List.all_eq_true, decide_eq_true_eq] at h
    obtain ⟨⟨⟨⟨⟨⟨⟨⟨⟨⟨⟨⟨⟨h1, h2⟩, h3⟩, h4⟩, h5⟩, h6⟩, h7⟩, h8⟩, h9⟩, h10⟩, h11⟩, h12⟩, h13⟩, h14⟩ := h
    exact ⟨t, iter, t1, iter1, rfl, h4, h7, h8, ⟨tupI it, fun z => tup_tg h3 (tupOk_ex h13 z), hI _ t h1 (tupOk_ex h13)⟩, by rw [O.hN, O.hsc]; exact blkOk_by h2, blk_tg O h3,
      ⟨tupI it1, fun z => tup_tg h6 (tupOk_ex h14 z), fun s H C cl fp => hI1 _ _ t1 _ h5 (O.blk s H scope C cl fp) (tupOk_ex h14)⟩, blk_tg O h6, fun s H C cl fp => pts_of (.inl ⟨rfl, rfl⟩), fun s H C cl fp => hk _ _ _ h9 (O.blk s H scope C cl fp), fun s H C cl fp => hE _ _ _ h10 (O.blk s H scope C cl fp), h11, h12⟩
  · unfold chE at h
    split at h <;> simp_all
mutual
theorem okE : ∀ (ir : E) (sc : Scope) (e : Expr) (X : Cx) (W : WX), chE n N sc ir e = true → XOk c G n k N sc X → Takes X W → PE X e (lE c (ev G ir) W) ∧ PT X e (lT c (evT G ir) W)
  | .var i x, sc, e, X, W, h, O, tk => by
    cases e <;> simp only [chE] at h <;> try (cases h; done)
    simp only [Bool.and_eq_true, beq_iff_eq, decide_eq_true_eq, Bool.not_eq_true'] at h
    obtain ⟨⟨⟨⟨rfl, h1⟩, h2⟩, h3⟩, h4⟩ := h
    have p := s_var (c := c) (W := W) (pos := by assumption) (by rw [O.hN]; exact h1) (visB_vis O.hsc h2) h3 h4 G
    exact ⟨p, t_val O.hK p fun _ => rfl⟩
  | .gv x, sc, e, X, W, h, O, tk => by
    cases e <;> simp only [chE] at h <;> try (cases h; done)
    simp only [Bool.and_eq_true, beq_iff_eq] at h
    obtain ⟨⟨rfl, h1⟩, h2⟩ := h
    obtain ⟨g1, g2⟩ := glB_gl O.hsc h1
    have p := s_gv (c := c) (W := W) (pos := by assumption) g1 g2 fun d e => O.con _ d e (by simpa using h2)
    exact ⟨p, t_val O.hK p fun _ => rfl⟩
  | .cst d, sc, e, X, W, h, O, tk => by
    cases e <;> simp only [chE] at h <;> try (cases h; done)
    have p := s_cst (c := c) (X := X) (W := W) (G := G) (pos := by assumption) (j := by assumption) h
    exact ⟨p, t_val O.hK p fun _ => rfl⟩
  | .bin o a b, sc, e, X, W, h, O, tk => by
    cases e <;> simp only [chE] at h <;> try (cases h; done)
    simp only [Bool.and_eq_true, decide_eq_true_eq] at h
    obtain ⟨⟨rfl, h1⟩, h2⟩ := h
    have p := s_bin (pos := by assumption) O.hK (o := o) (okE a sc _ X W h1 O tk).1 (okE b sc _ X W h2 O tk).1
    exact ⟨p, t_val O.hK p fun _ => rfl⟩
  | .neg a, sc, e, X, W, h, O, tk => by
    cases e with
    | UnaryOp op x pos =>
      cases op <;> simp only [chE] at h <;> try (cases h; done)
      have p := s_neg (pos := pos) (okE a sc _ X W h O tk).1
      exact ⟨p, t_val O.hK p fun _ => rfl⟩
    | _ => simp [chE] at h
  | .cmp o a b, sc, e, X, W, h, O, tk => by
    cases e with
    | Compare x ops ys pos =>
      rcases ops with _ | ⟨op, _ | ⟨_, _⟩⟩ <;> rcases ys with _ | ⟨y, _ | ⟨_, _⟩⟩ <;> try (simp [chE] at h; done)
      simp only [chE, Bool.and_eq_true, decide_eq_true_eq, Bool.not_eq_true'] at h
      obtain ⟨⟨⟨rfl, h1⟩, h2⟩, h3⟩ := h
      have pa := (okE a sc _ X W h1 O tk).1
      have pb := (okE b sc _ X W h2 O tk).1
      exact ⟨s_cmp O.hK O.room.units pa pb h3, t_cmp O.hK O.room.units pa pb h3⟩
    | _ => simp [chE] at h
  | .chain o o' a b d, sc, e, X, W, h, O, tk => by
    cases e with
    | Compare x ops ys pos =>
      rcases ops with _ | ⟨op, _ | ⟨op2, _ | ⟨_, _⟩⟩⟩ <;> rcases ys with _ | ⟨y, _ | ⟨z, _ | ⟨_, _⟩⟩⟩ <;> try (simp [chE] at h; done)
      simp only [chE, Bool.and_eq_true, decide_eq_true_eq, Bool.not_eq_true'] at h
      obtain ⟨⟨⟨⟨⟨rfl, rfl⟩, h1⟩, h2⟩, h3⟩, h4⟩ := h
      have pa := (okE a sc _ X W h1 O tk).1
      have pb := (okE b sc _ X W h2 O tk).1
      have pd := (okE d sc _ X W h3 O tk).1
      exact ⟨s_chain O.hK O.room.units pa pb pd h4, t_chain O.hK O.room.units pa pb pd h4⟩
    | _ => simp [chE] at h
  | .bop kk es, sc, e, X, W, h, O, tk => by
    cases e with
    | BoolOp op xs pos =>
      rcases xs with _ | ⟨x, xs⟩ <;> try (simp [chE] at h; done)
      simp only [chE, Bool.and_eq_true] at h
      cases kk <;> cases op <;> try (simp at h; done)
      · have p := okBo es sc x xs pos X W h.2 O tk
        exact ⟨p.1, p.2.pt⟩
      · have p := okBa es sc x xs pos X W h.2 O tk
        exact ⟨p.1, p.2.pt⟩
    | _ => simp [chE] at h
  | .not a, sc, e, X, W, h, O, tk => by
    cases e with
    | UnaryOp op x pos =>
      cases op <;> simp only [chE] at h <;> try (cases h; done)
      have p := okE a sc _ X W h O tk
      exact ⟨s_not O.hK p.1, t_not p.2⟩
    | _ => simp [chE] at h
  | .ite d a b, sc, e, X, W, h, O, tk => by
    cases e <;> simp only [chE] at h <;> try (cases h; done)
    simp only [Bool.and_eq_true] at h
    have pd := okE d sc _ X W h.1.1 O tk
    have pa := okE a sc _ X W h.1.2 O tk
    have pb := okE b sc _ X W h.2 O tk
    exact ⟨s_ite pd.2 pa.1 pb.1, t_ite pd.2 pa.2 pb.2⟩
  | .tup es, sc, e, X, W, h, O, tk => by
    cases e <;> simp only [chE] at h <;> try (cases h; done)
    have p := s_tup (pos := by assumption) (k := by assumption) (okEs es sc _ X W h O tk)
    exact ⟨p, t_val O.hK p fun _ => rfl⟩
  | .lst es, sc, e, X, W, h, O, tk => by
    cases e <;> simp only [chE] at h <;> try (cases h; done)
    have p := s_lst (pos := by assumption) (okEs es sc _ X W h O tk)
    exact ⟨p, t_val O.hK p fun _ => rfl⟩
  | .idx a i, sc, e, X, W, h, O, tk => by
    cases e <;> simp only [chE] at h <;> try (cases h; done)
    simp only [Bool.and_eq_true] at h
    have p := s_idx (pos := by assumption) O.hK (by have := O.room.units; omega) (okE a sc _ X W h.1.1 O tk).1 (okE i sc _ X W h.1.2 O tk).1 h.2
    exact ⟨p, t_val O.hK p fun _ => rfl⟩
  | .slc a lo hi, sc, e, X, W, h, O, tk => by
    cases e with
    | Subscript x y pos =>
      cases y with
      | Slice l hh st p2 =>
        cases st <;> simp only [chE] at h <;> try (cases h; done)
        simp only [Bool.and_eq_true] at h
        have p := s_slc (pos := pos) (p2 := p2) O.hK (okE a sc _ X W h.1.1 O tk).1 (okO lo sc _ X W h.1.2 O tk) (okO hi sc _ X W h.2 O tk)
        exact ⟨p, t_val O.hK p fun _ => rfl⟩
      | _ => simp [chE] at h
    | _ => simp [chE] at h
  | .rev a, sc, e, X, W, h, O, tk => by
    cases e with
    | Subscript x y pos =>
      cases y with
      | Slice l hh st p2 =>
        cases l <;> cases hh <;> cases st <;> try exact Bool.noConfusion (show false = true from h)
        rename_i st
        cases st with
        | UnaryOp op v p3 =>
          cases op <;> cases v <;> try exact Bool.noConfusion (show false = true from h)
          rename_i kk _ _
          cases kk <;> try exact Bool.noConfusion (show false = true from h)
          simp only [chE, Bool.and_eq_true, decide_eq_true_eq] at h
          obtain ⟨rfl, h⟩ := h
          exact ⟨s_rev O.hK (okE a sc _ X W h O tk).1, t_val O.hK (s_rev O.hK (okE a sc _ X W h O tk).1) fun _ => rfl⟩
        | _ => exact Bool.noConfusion (show false = true from h)
      | _ => exact Bool.noConfusion (show false = true from h)
    | _ => exact Bool.noConfusion (show false = true from h)
  | .call f es, sc, e, X, W, h, O, tk => by
    cases e with
    | Call g xs kws pos =>
      cases g with
      | Name y p =>
        cases kws <;> simp only [chE] at h <;> try (cases h; done)
        simp only [Bool.and_eq_true, beq_iff_eq] at h
        obtain ⟨⟨⟨rfl, h1⟩, h2⟩, h3⟩ := h
        obtain ⟨g1, g2⟩ := glB_gl O.hsc h1
        have D := O.defs f (by simpa using h2)
        cases xs with
        | nil =>
          cases es with
          | nil =>
            have p := s_call0 (pos := pos) (p := p) tk D O.room O.gd g1 g2
            exact ⟨p, t_val O.hK p fun _ => rfl⟩
          | cons _ _ => simp [chEs] at h3
        | cons x xs =>
          obtain ⟨n1, n2⟩ := es_ne h3
          have p := s_call (pos := pos) (p := p) tk D O.room O.gd g1 g2 (okEs es sc _ X W h3 O tk) n1 n2
          exact ⟨p, t_val O.hK p fun _ => rfl⟩
      | _ => simp [chE] at h
    | _ => simp [chE] at h
  | .bif f es, sc, e, X, W, h, O, tk => by
    cases e with
    | Call g xs kws pos =>
      cases g with
      | Name y p =>
        rcases xs with _ | ⟨x, xs⟩ <;> cases kws <;> simp only [chE] at h <;> try (cases h; done)
        simp only [Bool.and_eq_true] at h
        obtain ⟨h1, h3⟩ := h
        obtain ⟨n1, n2⟩ := es_ne h3
        cases eb : bfOf f with
        | none => rw [eb] at h1; cases h1
        | some q =>
          obtain ⟨m, ty, id⟩ := q
          rw [eb] at h1
          simp only [Bool.and_eq_true, beq_iff_eq] at h1
          obtain ⟨rfl, h1⟩ := h1
          obtain ⟨g1, g2⟩ := glB_gl O.hsc h1
          cases ty with
          | false =>
            obtain ⟨r1, r2, r3, r4⟩ := bfRule (c := c) O.calm O.hK O.gd (by have := O.room.un; omega) eb
            have p := s_bifB (pos := pos) (p := p) f r1 g1 (O.blt _ r4) r2 r3 g2 (okEs es sc _ X W h3 O tk) n1 n2
            exact ⟨p, t_val O.hK p fun _ => rfl⟩
          | true =>
            obtain ⟨r1, r2, r3, r4⟩ := bfRuleT (c := c) (X := X) O.calm O.hK eb
            have p := s_bifT (pos := pos) (p := p) f r1 g1 (O.blt _ r4) r2 r3 g2 (okEs es sc _ X W h3 O tk) n1 n2
            exact ⟨p, t_val O.hK p fun _ => rfl⟩
      | _ => cases xs <;> simp [chE] at h
    | _ => simp [chE] at h
  | .mth m o es, sc, e, X, W, h, O, tk => by
    cases e with
    | Call g xs kws cpos =>
      cases g with
      | Attribute z y apos =>
        cases kws <;> simp only [chE] at h <;> try (cases h; done)
        simp only [Bool.and_eq_true, beq_iff_eq, decide_eq_true_eq] at h
        obtain ⟨⟨⟨⟨⟨rfl, h1⟩, h2⟩, h3⟩, h4⟩, h5⟩ := h
        have po := (okE o sc _ X W h1 O tk).1
        have hline : (apos.endLine == cpos.line) = true := by simpa using h4
        cases xs with
        | nil =>
          cases es with
          | nil =>
            have p := s_mth0 (m := m) (apos := apos) (cpos := cpos) O.hK (by have := O.room.units; omega) po (baseOk_eq h3 _) hline
            exact ⟨p, t_val O.hK p fun _ => rfl⟩
          | cons _ _ => simp [chEs] at h2
        | cons x xs =>
          obtain ⟨n1, n2⟩ := es_ne h2
          have p := s_mth (m := m) (apos := apos) (cpos := cpos) O.hK (by have := O.room.units; omega) po (okEs es sc _ X W h2 O tk) (baseOk_eq h3 _) (by rw [List.all_cons, n1, n2]; rfl) h5 hline
          exact ⟨p, t_val O.hK p fun _ => rfl⟩
      | _ => simp [chE] at h
    | _ => simp [chE] at h
  | .isis a cs, sc, e, X, W, h, O, tk => by
    cases e with
    | Call g xs kws pos =>
      cases g with
      | Name f p =>
        rcases xs with _ | ⟨x, _ | ⟨y, _ | ⟨_, _⟩⟩⟩ <;> try (simp [chE] at h; done)
        cases y <;> try (simp [chE] at h; done)
        rename_i es kt pt
        cases kws <;> simp only [chE] at h <;> try (cases h; done)
        simp only [Bool.and_eq_true, beq_iff_eq, decide_eq_true_eq] at h
        obtain ⟨⟨⟨⟨⟨⟨rfl, h1⟩, h2⟩, h3⟩, h4⟩, h5⟩, h6⟩ := h
        obtain ⟨g1, g2⟩ := glB_gl O.hsc h1
        obtain ⟨Ts, hC⟩ := cls_are O h2
        have p := s_isis (pos := pos) (p := p) (kt := kt) (pt := pt) O.hK hC h3 h4 (okE a sc _ X W h5 O tk).1 h6 g1 (O.blt _ (by decide))
        exact ⟨p, t_val O.hK p fun _ => rfl⟩
      | _ => simp [chE] at h
    | _ => simp [chE] at h
  | .isi a cl, sc, e, X, W, h, O, tk => by
    cases e with
    | Call g xs kws pos =>
      cases g with
      | Name f p =>
        rcases xs with _ | ⟨x, _ | ⟨y, _ | ⟨_, _⟩⟩⟩ <;> try (simp [chE] at h; done)
        cases y <;> try (simp [chE] at h; done)
        rename_i y py
        cases kws <;> simp only [chE] at h <;> try (cases h; done)
        simp only [Bool.and_eq_true, beq_iff_eq] at h
        obtain ⟨⟨⟨⟨⟨⟨rfl, h1⟩, h2⟩, rfl⟩, h4⟩, h5⟩, h6⟩ := h
        obtain ⟨g1, g2⟩ := glB_gl O.hsc h1
        obtain ⟨g3, g4⟩ := glB_gl O.hsc h4
        cases eT : clT cl with
        | none => rw [eT] at h2; cases h2
        | some T =>
          obtain ⟨b1, b2, b3⟩ := cl_boot eT
          have p := s_isi (pos := pos) (px := py) (p := p) O.hK eT (okE a sc _ X W h5 O tk).1 h6 g1 (O.blt _ (by decide)) g3 (O.blt _ b3) b1 b2 g4
          exact ⟨p, t_val O.hK p fun _ => rfl⟩
      | _ => simp [chE] at h
    | _ => simp [chE] at h
  | .lc elt tg it cs own, sc, e, X, W, h, O, tk => by
    cases e with
    | ListComp x gens scope pos =>
      obtain ⟨t, iter, ifs, rfl, h1, ⟨tup, h2, h3⟩, h4, h5, h6, h7, h8⟩ := (lcOk_mk h O (W := W) (fun e t h' q => okI it sc e t X W h' O tk q) (fun sc' es' X' h' O' => okC cs sc' es' X' noW h' O' takes_no) (fun sc' e' X' h' O' => (okE elt sc' e' X' noW h' O' takes_no).1)).ex
      have p := s_lc (pos := pos) O.hK O.calm O.nd h2 h1 h3 h4 h5 h6 h7 h8
      exact ⟨p, t_val O.hK p fun _ => rfl⟩
    | _ => simp [chE] at h
  | .dc2 kx elt tg it tg1 it1 own own1, sc, e, X, W, h, O, tk => by
    cases e with
    | DictComp x v gens scope pos =>
      have D := dc2Ok_mk h O (W := W) (fun e t h' q => okI it sc e t X W h' O tk q) (fun sc' e t X' h' O' q => okI it1 sc' e t X' noW h' O' takes_no q) (fun sc' e' X' h' O' => (okE kx sc' e' X' noW h' O' takes_no).1) (fun sc' e' X' h' O' => (okE elt sc' e' X' noW h' O' takes_no).1)
      have p := s_dc2 (pos := pos) O.hK O.calm O.nd D
      exact ⟨p, t_val O.hK p fun _ => rfl⟩
    | _ => simp [chE] at h
  | .dnil, sc, e, X, W, h, O, tk => by
    cases e with
    | Dict ks vs pos =>
      cases ks <;> cases vs <;> try exact Bool.noConfusion (show false = true from h)
      exact ⟨s_dnil, t_val O.hK (s_dnil (G := G)) fun _ => rfl⟩
    | _ => exact Bool.noConfusion (show false = true from h)
  | .dsp ps, sc, e, X, W, h, O, tk => by
    cases e with
    | Dict ks vs pos =>
      cases ks with
      | nil => exact Bool.noConfusion (show false = true from h)
      | cons k ks =>
        simp only [chE, Bool.and_eq_true, decide_eq_true_eq] at h
        obtain ⟨trs, hp⟩ := okPs ps sc (k :: ks) vs X W h.1 O tk
        have p := s_dsp (pos := pos) hp (by simp) (by have := h.2; simp only [List.length_cons]; omega)
        exact ⟨p, t_val O.hK p fun _ => rfl⟩
    | _ => exact Bool.noConfusion (show false = true from h)
  | .litems a, sc, e, X, W, h, O, tk => by
    cases e with
    | Call g xs kws pos =>
      cases g with
      | Name f p =>
        rcases xs with _ | ⟨x, xr⟩
        · exact Bool.noConfusion (show false = true from h)
        · cases x with
          | Call g2 ys kw2 pos2 =>
            cases g2 with
            | Attribute x m apos =>
              cases ys <;> cases kw2 <;> cases xr <;> cases kws <;> try exact Bool.noConfusion (show false = true from h)
              simp only [chE, Bool.and_eq_true, beq_iff_eq] at h
              obtain ⟨⟨⟨⟨⟨rfl, rfl⟩, h1⟩, h2⟩, h3⟩, h4⟩ := h
              have hl : (apos.endLine == pos2.line) = true := by simpa using h4
              have p := s_litems (pos := pos) (p := p) (apos := apos) (cpos := pos2) O.calm (okE a sc _ X W h2 O tk).1 (glB_gl O.hsc h1).1 (O.blt _ (by decide)) (baseOk_eq h3 _) hl
              exact ⟨p, t_val O.hK p fun _ => rfl⟩
            | _ => exact Bool.noConfusion (show false = true from h)
          | _ => exact Bool.noConfusion (show false = true from h)
      | _ => exact Bool.noConfusion (show false = true from h)
    | _ => exact Bool.noConfusion (show false = true from h)
  | .dc kx elt tg it cs own, sc, e, X, W, h, O, tk => by
    cases e with
    | DictComp x v gens scope pos =>
      rcases gens with _ | ⟨⟨t, iter, ifs, as⟩, _ | ⟨_, _⟩⟩ <;> try (simp [chE] at h; done)
      by_cases ha : as = 0
      · subst ha
        simp only [chE, Bool.and_eq_true, List.all_eq_true, decide_eq_true_eq] at h
        obtain ⟨⟨⟨⟨⟨⟨⟨⟨h1, h2⟩, h3⟩, h4⟩, h5⟩, h6⟩, h6'⟩, h7⟩, h8⟩ := h
        have p := s_dc (pos := pos) O.hK O.calm O.nd (tup := tupI it) (fun z => tup_tg h3 (tupOk_ex h8 z)) h4 (okI it sc _ t X W h1 O tk (tupOk_ex h8)) (by rw [O.hN, O.hsc]; exact blkOk_by h2) (blk_tg O h3) (fun s H C cl fp => okC cs _ _ _ noW h5 (O.blk s H scope C cl fp) takes_no) (fun s H C cl fp => (okE kx _ _ _ noW h6 (O.blk s H scope C cl fp) takes_no).1) (fun s H C cl fp => (okE elt _ _ _ noW h6' (O.blk s H scope C cl fp) takes_no).1) h7
        exact ⟨p, t_val O.hK p fun _ => rfl⟩
      · unfold chE at h
        split at h <;> simp_all
    | _ => simp [chE] at h
  | .callk f es ns ws dv, sc, e, X, W, h, O, tk => by
    cases e with
    | Call g xs kws pos =>
      cases g with
      | Name y p =>
        cases xs with
        | nil => exact Bool.noConfusion (show false = true from h)
        | cons x xs =>
          unfold chE at h
          simp only [Bool.and_eq_true, beq_iff_eq] at h
          obtain ⟨⟨⟨rfl, h1⟩, h2⟩, h3⟩ := h
          obtain ⟨g1, g2⟩ := glB_gl O.hsc h1
          obtain ⟨n1, n2⟩ := es_ne h2
          have pa := okEs es sc _ X W h2 O tk
          split at h3
          · rename_i k0 w0 kn v0 kp0
            simp only [Bool.and_eq_true, beq_iff_eq] at h3
            obtain ⟨⟨rfl, h4⟩, h5⟩ := h3
            have D := O.kws _ _ _ (by simpa using h4)
            have pk : PK X [⟨some k0, v0, kp0⟩] (lA c (evs G (.cons w0 .nil)) W) := k_one (okE w0 sc _ X W h5 O tk).1
            have p := s_callk (pos := pos) (p := p) tk D O.room O.gd g1 g2 pa pk n1 n2 rfl rfl rfl
            exact ⟨p, t_val O.hK p fun _ => rfl⟩
          · rename_i i0
            have D := O.dfl _ _ _ (by simpa using h3)
            have pk : PK X [] (lA c (evs G .nil) W) := k_nil
            have p := s_callk (pos := pos) (p := p) tk D O.room O.gd g1 g2 pa pk n1 n2 rfl rfl rfl
            exact ⟨p, t_val O.hK p fun _ => rfl⟩
          · cases h3
      | _ => cases xs <;> exact Bool.noConfusion (show false = true from h)
    | _ => exact Bool.noConfusion (show false = true from h)
  | .lrg it, sc, e, X, W, h, O, tk => by
    cases e with
    | Call g xs kws pos =>
      cases g with
      | Name f p =>
        rcases xs with _ | ⟨x, _ | ⟨_, _⟩⟩ <;> cases kws <;> try exact Bool.noConfusion (show false = true from h)
        simp only [chE, Bool.and_eq_true, beq_iff_eq] at h
        obtain ⟨⟨⟨rfl, h1⟩, h2⟩, h3⟩ := h
        have p := s_lrg (pos := pos) (p := p) O.calm (glB_gl O.hsc h1).1 (O.blt _ (by decide)) (okR it sc _ X W h2 O tk) h3
        exact ⟨p, t_val O.hK p fun _ => rfl⟩
      | _ => exact Bool.noConfusion (show false = true from h)
    | _ => exact Bool.noConfusion (show false = true from h)
  | .trg it, sc, e, X, W, h, O, tk => by
    cases e with
    | Call g xs kws pos =>
      cases g with
      | Name f p =>
        rcases xs with _ | ⟨x, _ | ⟨_, _⟩⟩ <;> cases kws <;> try exact Bool.noConfusion (show false = true from h)
        simp only [chE, Bool.and_eq_true, beq_iff_eq] at h
        obtain ⟨⟨⟨rfl, h1⟩, h2⟩, h3⟩ := h
        have p := s_trg (pos := pos) (p := p) O.calm (glB_gl O.hsc h1).1 (O.blt _ (by decide)) (okR it sc _ X W h2 O tk) h3
        exact ⟨p, t_val O.hK p fun _ => rfl⟩
      | _ => exact Bool.noConfusion (show false = true from h)
    | _ => exact Bool.noConfusion (show false = true from h)
  | .lset a, sc, e, X, W, h, O, tk => by
    cases e with
    | Call g xs kws pos =>
      cases g with
      | Name f p =>
        rcases xs with _ | ⟨x, xr⟩
        · exact Bool.noConfusion (show false = true from h)
        · cases x with
          | Call g2 ys kw2 pos2 =>
            cases g2 with
            | Name f2 p2 =>
              rcases ys with _ | ⟨y, _ | ⟨_, _⟩⟩ <;> cases kw2 <;> cases xr <;> cases kws <;> try exact Bool.noConfusion (show false = true from h)
              simp only [chE, Bool.and_eq_true, beq_iff_eq] at h
              obtain ⟨⟨⟨⟨⟨rfl, rfl⟩, h1⟩, h2⟩, h3⟩, h4⟩ := h
              have p := s_lset (pos := pos) (p := p) (p2 := p2) (q := pos2) O.hK O.calm (glB_gl O.hsc h1).1 (O.blt _ (by decide)) (glB_gl O.hsc h2).1 (O.blt _ (by decide)) (okE a sc _ X W h3 O tk).1 h4
              exact ⟨p, t_val O.hK p fun _ => rfl⟩
            | _ => exact Bool.noConfusion (show false = true from h)
          | _ => exact Bool.noConfusion (show false = true from h)
      | _ => exact Bool.noConfusion (show false = true from h)
    | _ => exact Bool.noConfusion (show false = true from h)
  | .sset a, sc, e, X, W, h, O, tk => by
    cases e with
    | Call g xs kws pos =>
      cases g with
      | Name f p =>
        rcases xs with _ | ⟨x, xr⟩
        · exact Bool.noConfusion (show false = true from h)
        · cases x with
          | Call g2 ys kw2 pos2 =>
            cases g2 with
            | Name f2 p2 =>
              rcases ys with _ | ⟨y, _ | ⟨_, _⟩⟩ <;> cases kw2 <;> cases xr <;> cases kws <;> try exact Bool.noConfusion (show false = true from h)
              simp only [chE, Bool.and_eq_true, beq_iff_eq] at h
              obtain ⟨⟨⟨⟨⟨rfl, rfl⟩, h1⟩, h2⟩, h3⟩, h4⟩ := h
              have p := s_sset (pos := pos) (p := p) (p2 := p2) (q := pos2) O.hK O.calm (glB_gl O.hsc h1).1 (O.blt _ (by decide)) (glB_gl O.hsc h2).1 (O.blt _ (by decide)) (okE a sc _ X W h3 O tk).1 h4
              exact ⟨p, t_val O.hK p fun _ => rfl⟩
            | _ => exact Bool.noConfusion (show false = true from h)
          | _ => exact Bool.noConfusion (show false = true from h)
      | _ => exact Bool.noConfusion (show false = true from h)
    | _ => exact Bool.noConfusion (show false = true from h)
theorem okC : ∀ (ees : Es) (sc : Scope) (es : List Expr) (X : Cx) (W : WX), chC n N sc ees es = true → XOk c G n k N sc X → Takes X W → PTs X es (lT c (evC G ees) W)
  | .nil, sc, es, X, W, h, O, tk => by
    cases es with
    | nil => exact pts_of (.inl ⟨rfl, rfl⟩)
    | cons _ _ => simp [chC] at h
  | .cons e .nil, sc, es, X, W, h, O, tk => by
    rcases es with _ | ⟨x, _ | ⟨_, _⟩⟩ <;> try (simp [chC] at h; done)
    simp only [chC] at h
    exact pts_of (.inr ⟨x, e, rfl, rfl, (okE e sc _ X W h O tk).2⟩)
  | .cons e (.cons _ _), sc, es, X, W, h, O, tk => by simp [chC] at h
theorem okPs : ∀ (ps : Ps) (sc : Scope) (ks : List (Option Expr)) (vs : List Expr) (X : Cx) (W : WX), chPs n N sc ps ks vs = true → XOk c G n k N sc X → Takes X W → ∃ trs, PsOk c G X W ps ks vs trs
  | .nil, sc, ks, vs, X, W, h, O, tk => by
    cases ks <;> cases vs <;> try exact Bool.noConfusion (show false = true from h)
    exact ⟨_, .nil⟩
  | .cons a b ps, sc, ks, vs, X, W, h, O, tk => by
    rcases ks with _ | ⟨k, ks⟩
    · exact Bool.noConfusion (show false = true from h)
    · cases k with
      | none => exact Bool.noConfusion (show false = true from h)
      | some x =>
        rcases vs with _ | ⟨y, vs⟩
        · exact Bool.noConfusion (show false = true from h)
        · simp only [chPs, Bool.and_eq_true] at h
          obtain ⟨trs, q⟩ := okPs ps sc ks vs X W h.2 O tk
          exact ⟨_, .cons (okE a sc _ X W h.1.1 O tk).1 (okE b sc _ X W h.1.2 O tk).1 q⟩
theorem okEs : ∀ (ees : Es) (sc : Scope) (es : List Expr) (X : Cx) (W : WX), chEs n N sc ees es = true → XOk c G n k N sc X → Takes X W → PA X es (lA c (evs G ees) W)
  | .nil, sc, es, X, W, h, O, tk => by
    cases es with
    | nil => exact a_nil
    | cons _ _ => simp [chEs] at h
  | .cons e es, sc, xs, X, W, h, O, tk => by
    cases xs with
    | nil => simp [chEs] at h
    | cons x xs =>
      simp only [chEs, Bool.and_eq_true] at h
      exact a_cons (okE e sc _ X W h.1.1 O tk).1 (okEs es sc _ X W h.2 O tk) h.1.2
theorem okBa : ∀ (ees : Es) (sc : Scope) (x : Expr) (xs : List Expr) (pos : Pos) (X : Cx) (W : WX), chEs n N sc ees (x :: xs) = true → XOk c G n k N sc X → Takes X W →
    PE X (.BoolOp .And (x :: xs) pos) (lE c (evB2 G true ees).1 W) ∧ PW X (.BoolOp .And (x :: xs) pos) (lT c (evB2 G true ees).2 W)
  | .nil, _, _, _, _, _, _, h, _, _ => by simp [chEs] at h
  | .cons e .nil, sc, x, xs, pos, X, W, h, O, tk => by
    simp only [chEs, Bool.and_eq_true] at h
    cases xs with
    | nil =>
      have p := okE e sc _ X W h.1.1 O tk
      exact ⟨s_bop1 p.1, t_and1 p.2⟩
    | cons _ _ => simp [chEs] at h
  | .cons e (.cons e2 es), sc, x, xs, pos, X, W, h, O, tk => by
    rw [chEs, Bool.and_eq_true, Bool.and_eq_true] at h
    cases xs with
    | nil => simp [chEs] at h
    | cons y ys =>
      have p := okE e sc _ X W h.1.1 O tk
      have q := okBa (.cons e2 es) sc y ys pos X W h.2 O tk
      exact ⟨s_and p.1 q.1, t_and p.2 q.2⟩
theorem okBo : ∀ (ees : Es) (sc : Scope) (x : Expr) (xs : List Expr) (pos : Pos) (X : Cx) (W : WX), chEs n N sc ees (x :: xs) = true → XOk c G n k N sc X → Takes X W →
    PE X (.BoolOp .Or (x :: xs) pos) (lE c (evB2 G false ees).1 W) ∧ PW X (.BoolOp .Or (x :: xs) pos) (lT c (evB2 G false ees).2 W)
  | .nil, _, _, _, _, _, _, h, _, _ => by simp [chEs] at h
  | .cons e .nil, sc, x, xs, pos, X, W, h, O, tk => by
    simp only [chEs, Bool.and_eq_true] at h
    cases xs with
    | nil =>
      have p := okE e sc _ X W h.1.1 O tk
      exact ⟨s_bop1 p.1, t_or1 p.2⟩
    | cons _ _ => simp [chEs] at h
  | .cons e (.cons e2 es), sc, x, xs, pos, X, W, h, O, tk => by
    rw [chEs, Bool.and_eq_true, Bool.and_eq_true] at h
    cases xs with
    | nil => simp [chEs] at h
    | cons y ys =>
      have p := okE e sc _ X W h.1.1 O tk
      have q := okBo (.cons e2 es) sc y ys pos X W h.2 O tk
      exact ⟨s_or p.1 q.1, t_or p.2 q.2⟩
theorem okO : ∀ (eo : Oe) (sc : Scope) (e : Option Expr) (X : Cx) (W : WX), chO n N sc eo e = true → XOk c G n k N sc X → Takes X W → PO X e (lO c (evo G eo) W)
  | .no, sc, e, X, W, h, O, tk => by
    cases e with
    | none => exact o_no
    | some _ => simp [chO] at h
  | .yes a, sc, e, X, W, h, O, tk => by
    cases e with
    | none => simp [chO] at h
    | some x =>
      simp only [chO] at h
      exact o_yes (okE a sc _ X W h O tk).1
theorem okR : ∀ (it : I) (sc : Scope) (e : Expr) (X : Cx) (W : WX), chR n N sc it e = true → XOk c G n k N sc X → Takes X W → PRg X e (lR c (evI G it) W)
  | .seq a, sc, e, X, W, h, O, tk => Bool.noConfusion (show false = true from h)
  | .enum a, sc, e, X, W, h, O, tk => Bool.noConfusion (show false = true from h)
  | .zip a b, sc, e, X, W, h, O, tk => Bool.noConfusion (show false = true from h)
  | .items a, sc, e, X, W, h, O, tk => Bool.noConfusion (show false = true from h)
  | .values a, sc, e, X, W, h, O, tk => Bool.noConfusion (show false = true from h)
  | .rng1 a, sc, e, X, W, h, O, tk => by
    cases e with
    | Call g xs kws pos =>
      cases g with
      | Name f p =>
        rcases xs with _ | ⟨x, _ | ⟨_, _⟩⟩ <;> cases kws <;> try exact Bool.noConfusion (show false = true from h)
        simp only [chR, Bool.and_eq_true, beq_iff_eq] at h
        obtain ⟨⟨⟨rfl, h1⟩, h2⟩, h3⟩ := h
        exact r_1 (glB_gl O.hsc h1).1 (O.blt _ (by decide)) (okE a sc _ X W h2 O tk).1 h3
      | _ => exact Bool.noConfusion (show false = true from h)
    | _ => exact Bool.noConfusion (show false = true from h)
  | .rng2 a b, sc, e, X, W, h, O, tk => by
    cases e with
    | Call g xs kws pos =>
      cases g with
      | Name f p =>
        rcases xs with _ | ⟨x, _ | ⟨y, _ | ⟨_, _⟩⟩⟩ <;> cases kws <;> try exact Bool.noConfusion (show false = true from h)
        simp only [chR, Bool.and_eq_true, beq_iff_eq] at h
        obtain ⟨⟨⟨⟨⟨rfl, h1⟩, h2⟩, h3⟩, h4⟩, h5⟩ := h
        exact r_2 (glB_gl O.hsc h1).1 (O.blt _ (by decide)) (okE a sc _ X W h2 O tk).1 (okE b sc _ X W h3 O tk).1 h4 h5
      | _ => exact Bool.noConfusion (show false = true from h)
    | _ => exact Bool.noConfusion (show false = true from h)
theorem okI : ∀ (it : I) (sc : Scope) (e : Expr) (tg : Expr) (X : Cx) (W : WX), chI n N sc it e = true → XOk c G n k N sc X → Takes X W → (tupI it = true → ∃ es kk p, tg = .Tuple es kk p) → PI X tg e (lI c (tupI it) (evI G it) W)
  | .seq a, sc, e, tg, X, W, h, O, tk, ht => by
    simp only [chI] at h
    exact i_seq O.hK (okE a sc _ X W h O tk).1
  | .enum a, sc, e, tg, X, W, h, O, tk, ht => by
    obtain ⟨els, kk, tp, rfl⟩ := ht rfl
    cases e with
    | Call g xs kws pos =>
      cases g with
      | Name f p =>
        rcases xs with _ | ⟨x, _ | ⟨_, _⟩⟩ <;> cases kws <;> try exact Bool.noConfusion (show false = true from h)
        simp only [chI, Bool.and_eq_true, beq_iff_eq] at h
        obtain ⟨⟨⟨rfl, h1⟩, h2⟩, h3⟩ := h
        exact i_enum O.hK (glB_gl O.hsc h1).1 (O.blt _ (by decide)) (okE a sc _ X W h2 O tk).1 h3
      | _ => exact Bool.noConfusion (show false = true from h)
    | _ => exact Bool.noConfusion (show false = true from h)
  | .items a, sc, e, tg, X, W, h, O, tk, ht => by
    obtain ⟨els, kk, tp, rfl⟩ := ht rfl
    cases e with
    | Call g xs kws pos =>
      cases g with
      | Attribute x m apos =>
        cases xs <;> cases kws <;> try exact Bool.noConfusion (show false = true from h)
        simp only [chI, Bool.and_eq_true, beq_iff_eq] at h
        obtain ⟨⟨⟨rfl, h2⟩, h3⟩, h4⟩ := h
        exact i_items (okE a sc _ X W h2 O tk).1 (baseOk_eq h3 _) (by simpa using h4)
      | _ => exact Bool.noConfusion (show false = true from h)
    | _ => exact Bool.noConfusion (show false = true from h)
  | .values a, sc, e, tg, X, W, h, O, tk, ht => by
    cases e with
    | Call g xs kws pos =>
      cases g with
      | Attribute x m apos =>
        cases xs <;> cases kws <;> try exact Bool.noConfusion (show false = true from h)
        simp only [chI, Bool.and_eq_true, beq_iff_eq] at h
        obtain ⟨⟨⟨rfl, h2⟩, h3⟩, h4⟩ := h
        exact i_values (okE a sc _ X W h2 O tk).1 (baseOk_eq h3 _) (by simpa using h4)
      | _ => exact Bool.noConfusion (show false = true from h)
    | _ => exact Bool.noConfusion (show false = true from h)
  | .zip a b, sc, e, tg, X, W, h, O, tk, ht => by
    obtain ⟨els, kk, tp, rfl⟩ := ht rfl
    cases e with
    | Call g xs kws pos =>
      cases g with
      | Name f p =>
        rcases xs with _ | ⟨x, _ | ⟨y, _ | ⟨_, _⟩⟩⟩ <;> cases kws <;> try exact Bool.noConfusion (show false = true from h)
        simp only [chI, Bool.and_eq_true, beq_iff_eq] at h
        obtain ⟨⟨⟨⟨⟨rfl, h1⟩, h2⟩, h3⟩, h4⟩, h5⟩ := h
        exact i_zip O.hK (glB_gl O.hsc h1).1 (O.blt _ (by decide)) (okE a sc _ X W h2 O tk).1 (okE b sc _ X W h3 O tk).1 h4 h5
      | _ => exact Bool.noConfusion (show false = true from h)
    | _ => exact Bool.noConfusion (show false = true from h)
  | .rng1 a, sc, e, tg, X, W, h, O, tk, ht => by
    cases e with
    | Call g xs kws pos =>
      cases g with
      | Name f p =>
        rcases xs with _ | ⟨x, _ | ⟨_, _⟩⟩ <;> cases kws <;> try (simp [chI] at h; done)
        simp only [chI, Bool.and_eq_true, beq_iff_eq] at h
        obtain ⟨⟨⟨rfl, h1⟩, h2⟩, h3⟩ := h
        exact i_rng1 (glB_gl O.hsc h1).1 (O.blt _ (by decide)) (okE a sc _ X W h2 O tk).1 h3
      | _ => simp [chI] at h
    | _ => simp [chI] at h
  | .rng2 a b, sc, e, tg, X, W, h, O, tk, ht => by
    cases e with
    | Call g xs kws pos =>
      cases g with
      | Name f p =>
        rcases xs with _ | ⟨x, _ | ⟨y, _ | ⟨_, _⟩⟩⟩ <;> cases kws <;> try (simp [chI] at h; done)
        simp only [chI, Bool.and_eq_true, beq_iff_eq] at h
        obtain ⟨⟨⟨⟨⟨rfl, h1⟩, h2⟩, h3⟩, h4⟩, h5⟩ := h
        exact i_rng2 (glB_gl O.hsc h1).1 (O.blt _ (by decide)) (okE a sc _ X W h2 O tk).1 (okE b sc _ X W h3 O tk).1 h4 h5
      | _ => simp [chI] at h
    | _ => simp [chI] at h
end
theorem okLc {elt : E} {tg : Tg} {it : I} {cs : Es} {own : List (Str × Nat)} {sc : Scope} {x : Expr} {gens : List Comprehension} {scope : Scope} {pos : Pos} {X : Cx} {W : WX} (h : chE n N sc (.lc elt tg it cs own) (.ListComp x gens scope pos) = true) (O : XOk c G n k N sc X) (tk : Takes X W) : LcOk c G X W x gens scope elt tg it cs own :=
  lcOk_mk h O (fun e t h' q => okI it sc e t X W h' O tk q) (fun sc' es' X' h' O' => okC cs sc' es' X' noW h' O' takes_no) (fun sc' e' X' h' O' => (okE elt sc' e' X' noW h' O' takes_no).1)
theorem okDc {kx elt : E} {tg : Tg} {it : I} {cs : Es} {own : List (Str × Nat)} {sc : Scope} {x v : Expr} {gens : List Comprehension} {scope : Scope} {pos : Pos} {X : Cx} {W : WX} (h : chE n N sc (.dc kx elt tg it cs own) (.DictComp x v gens scope pos) = true) (O : XOk c G n k N sc X) (tk : Takes X W) : DcOk c G X W x v gens scope kx elt tg it cs own := by
  rcases gens with _ | ⟨⟨t, iter, ifs, as⟩, _ | ⟨_, _⟩⟩ <;> try (simp [chE] at h; done)
  by_cases ha : as = 0
  · subst ha
    simp only [chE, Bool.and_eq_true, List.all_eq_true, decide_eq_true_eq] at h
    obtain ⟨⟨⟨⟨⟨⟨⟨⟨h1, h2⟩, h3⟩, h4⟩, h5⟩, h6⟩, h6'⟩, h7⟩, h8⟩ := h
    exact ⟨t, iter, ifs, rfl, h4, ⟨tupI it, ⟨fun z => tup_tg h3 (tupOk_ex h8 z), okI it sc _ t X W h1 O tk (tupOk_ex h8)⟩⟩, by rw [O.hN, O.hsc]; exact blkOk_by h2, blk_tg O h3, fun s H C cl fp => okC cs _ _ _ noW h5 (O.blk s H scope C cl fp) takes_no, fun s H C cl fp => (okE kx _ _ _ noW h6 (O.blk s H scope C cl fp) takes_no).1, fun s H C cl fp => (okE elt _ _ _ noW h6' (O.blk s H scope C cl fp) takes_no).1, h7⟩
  · unfold chE at h
    split at h <;> simp_all
theorem okDc2 {kx elt : E} {tg tg1 : Tg} {it it1 : I} {own own1 : List (Str × Nat)} {sc : Scope} {x v : Expr} {gens : List Comprehension} {scope : Scope} {pos : Pos} {X : Cx} {W : WX} (h : chE n N sc (.dc2 kx elt tg it tg1 it1 own own1) (.DictComp x v gens scope pos) = true) (O : XOk c G n k N sc X) (tk : Takes X W) : Dc2Ok c G X W x v gens scope kx elt tg it tg1 it1 own own1 :=
  dc2Ok_mk h O (W := W) (fun e t h' q => okI it sc e t X W h' O tk q) (fun sc' e t X' h' O' q => okI it1 sc' e t X' noW h' O' takes_no q) (fun sc' e' X' h' O' => (okE kx sc' e' X' noW h' O' takes_no).1) (fun sc' e' X' h' O' => (okE elt sc' e' X' noW h' O' takes_no).1)
end
end Py

set_option maxHeartbeats 8000000
namespace Py
open PySem PySem.Spec PyProof.Rows L2
/-! ### stores that the compiler turns about -/
def swS (sc : Scope) (ts vs : List Expr) : Option (Option (List Str)) :=
  if (!(ts.length == 2 || ts.length == 3) || vs.length != ts.length) = true then some none
  else if (vs.any fun | .Starred .. => true | _ => false) = true then some none
  else
    let line := (ts.head?.map (·.pos.line)).getD 0
    let names := ts.filterMap fun
      | .Name id pos => if (sc.names.lookup id == some .local && pos.line == line) = true then some id else none
      | _ => none
    if (names.length != ts.length || names.eraseDups.length != names.length) = true then some none
    else if vs.all (foldedForSure 8) = true then some none
    else if vs.all (constantsAlone 8) = true then none
    else some (some names)
theorem swS_eq {env : Env} {sc : Scope} (hsc : env.scope = sc) (hk : sc.kind = .function) {ts vs : List Expr} {k k2 : Nat} {p p2 : Pos} {r : Option (List Str)} (h : swS sc ts vs = some r) : swappedStores [.Tuple ts k p] (.Tuple vs k2 p2) env = pure r := by
  have hb : (env.blockKind != .function) = false := by unfold Env.blockKind; rw [hsc, hk]; rfl
  have hkd : ∀ id, env.kindOf id = sc.names.lookup id := fun id => by unfold Env.kindOf; rw [hsc]
  unfold swS at h
  unfold swappedStores
  simp only [hb, hkd, Bool.or_false]
  split at h
  · rename_i h1
    cases h
    exact (if_pos h1).trans rfl
  · rename_i h1
    refine (if_neg h1).trans ?_
    split at h
    · rename_i h2
      cases h
      exact (if_pos h2).trans rfl
    · rename_i h2
      refine (if_neg h2).trans ?_
      dsimp only at h
      split at h
      · rename_i h3
        cases h
        exact (if_pos h3).trans rfl
      · rename_i h3
        refine (if_neg h3).trans ?_
        split at h
        · rename_i h4
          cases h
          exact (if_pos h4).trans rfl
        · rename_i h4
          refine (if_neg h4).trans ?_
          split at h
          · cases h
          · rename_i h5
            cases h
            refine (if_neg h5).trans ?_
            rfl
def notTup : Expr → Bool
  | .Tuple .. => false
  | _ => true
theorem noSwap {t e : Expr} {env : Env} (h : notTup e = true) : swappedStores [t] e env = pure none := by
  cases e <;> first | (cases h; done) | (cases t <;> rfl)
theorem noSwapSub {o i e : Expr} {p : Pos} {env : Env} : swappedStores [.Subscript o i p] e env = pure none := by
  cases e <;> rfl
/-- name = [..]: are the list's block and the store turned about -/
def swB (sc scope : Scope) (y : Str) (py lpos : Pos) : Bool := sc.names.lookup y == some .local && py.line == lpos.line && !(scope.names.any fun (n, k) => n == y && (k == .local || k == .cell))
theorem swB_eq {env : Env} {sc : Scope} (hsc : env.scope = sc) (hk : sc.kind = .function) {elt : Expr} {gens : List Comprehension} {scope : Scope} {lpos py : Pos} {y : Str} {l : Nat} : swapsWith (.ListComp elt gens scope lpos) (some (.Name y py)) l env = pure (swB sc scope y py lpos) := by
  have hb : (env.blockKind == .function) = true := by unfold Env.blockKind; rw [hsc, hk]; rfl
  have hkd : env.kindOf y = sc.names.lookup y := by unfold Env.kindOf; rw [hsc]
  unfold swapsWith swB
  simp only [hb, hkd, Expr.pos, Bool.true_and]
theorem swB_eqD {env : Env} {sc : Scope} (hsc : env.scope = sc) (hk : sc.kind = .function) {kx elt : Expr} {gens : List Comprehension} {scope : Scope} {lpos py : Pos} {y : Str} {l : Nat} : swapsWith (.DictComp kx elt gens scope lpos) (some (.Name y py)) l env = pure (swB sc scope y py lpos) := by
  have hb : (env.blockKind == .function) = true := by unfold Env.blockKind; rw [hsc, hk]; rfl
  have hkd : env.kindOf y = sc.names.lookup y := by unfold Env.kindOf; rw [hsc]
  unfold swapsWith swB
  simp only [hb, hkd, Expr.pos, Bool.true_and]
theorem soleNo {t e : Expr} {l : Nat} {env : Env} (h : noComp e = true) : swapsWithSole [t] e l env = pure false := by
  cases e <;> first | (cases h; done) | rfl
/-- no code stands behind it -/
def ghost : S → Bool
  | .frz _ => true
  | .wipe _ => true
  | _ => false
variable (n : Names) (N : List Str)
def chPar (sc : Scope) : List (Nat × Str) → Bool
  | [(i, x), (j, y)] => decide (i ≠ j) && decide (sc.names.lookup x = some .local) && decide (sc.names.lookup y = some .local)
  | [(i, x), (j, y), (l, z)] => decide (i ≠ j) && decide (i ≠ l) && decide (j ≠ l) && decide (sc.names.lookup x = some .local) && decide (sc.names.lookup y = some .local) && decide (sc.names.lookup z = some .local)
  | _ => false
def chRaise (sc : Scope) (x : Str) : Expr → Bool
  | .Call (.Name y _) [.Constant (.str _) _ _] [] _ => x == y && glB sc x && n.excs.contains x
  | _ => false
mutual
def chS (sc : Scope) : S → Stmt → Bool
  | .asg i x e, .Assign [.Name y p] v pos => x == y && decide (N[i]? = some x) && locB sc x && chE n N sc e v && (noComp v || (match v with | .ListComp .. => true | .DictComp .. => true | _ => false))
  | .unp xs e, .Assign [.Tuple ts _ _] v _ => chNames N sc xs ts && chE n N sc e v && noComp v && (notTup v || (match v with | .Tuple vs _ _ => decide (swS sc ts vs = some none) | _ => false))
  | .par xs es, .Assign [.Tuple ts _ _] (.Tuple vs _ _) _ => chNames N sc xs ts && chPar sc xs && decide (vs.length = xs.length) && chEs n N sc es vs && decide (swS sc ts vs = some (some (xs.map (·.2))))
  | .sto o i e, .Assign [.Subscript x k _] v _ => chE n N sc o x && chE n N sc i k && chE n N sc e v && notSlice k && noComp v
  | .aug i x o e, .AugAssign (.Name y _) op v _ => x == y && decide (N[i]? = some x) && locB sc x && decide (bopOp o = op) && augOk o && chE n N sc e v
  | .exp e, .Expr v _ => chE n N sc e v && noComp v
  | .ret e, .Return (some v) _ => chE n N sc e v
  | .ret0, .Return none _ => true
  | .if_ c a b, .If t x y _ => chE n N sc c t && chSs sc a x && chSs sc b y
  | .whl c b _, .While t x [] _ => chE n N sc c t && chSs sc b x
  | .for_ tg it b _, .For t iter x [] _ => chTg N sc tg t && chI n N sc it iter && chSs sc b x && notSet iter && tupOk it t
  | .raise x, .Raise (some e) none _ => chRaise n sc x e
  | .pass, .Pass _ => true
  | .brk, .Break _ => true
  | .cnt, .Continue _ => true
  | _, _ => false
def chSs (sc : Scope) : Ss → List Stmt → Bool
  | .nil, xs => xs.isEmpty
  | .cons s ss, xs => match ghost s with
    | true => chSs sc ss xs
    | false => match xs with
      | x :: xs => chS sc s x && chSs sc ss xs
      | [] => false
end

/-- where statements stand: a def's body -/
structure StOk (X : Cx) : Prop where
  fn : ∀ x, X.fn x = true
  pass : PassesOwn (model X.prog X.w) X.A X.env X.xe
section
variable {c : RC} {G : GEnv} {n : Names} {k : Nat} {N : List Str}
theorem st_store {sc : Scope} {X : Cx} {x : Str} {i : Nat} (O : XOk c G n k N sc X) (F : StOk X) (h : locB sc x = true) (hi : N[i]? = some x) : StoreOk X i x := by
  unfold locB at h
  simp only [Bool.or_eq_true, decide_eq_true_eq] at h
  refine ⟨by rw [O.hN]; exact hi, ?_, .inl (F.fn x)⟩
  unfold L2.Loc
  rw [O.hsc]
  exact h
theorem st_names {sc : Scope} {X : Cx} (O : XOk c G n k N sc X) (F : StOk X) : ∀ {xs : List (Nat × Str)} {es : List Expr}, chNames N sc xs es = true → NamesAre X xs es
  | [], [], _ => .nil
  | (i, x) :: xs, e :: es, h => by
    cases e <;> simp only [chNames] at h <;> try (cases h; done)
    simp only [Bool.and_eq_true, beq_iff_eq, decide_eq_true_eq] at h
    obtain ⟨⟨⟨rfl, h1⟩, h2⟩, h3⟩ := h
    exact .cons (st_store O F h2 h1) (st_names O F h3)
  | [], _ :: _, h => by simp [chNames] at h
  | (_, _) :: _, [], h => by simp [chNames] at h
theorem st_tg {sc : Scope} {X : Cx} (O : XOk c G n k N sc X) (F : StOk X) {tg : Tg} {e : Expr} (h : chTg N sc tg e = true) : TgIs X tg e := by
  cases tg <;> cases e <;> simp only [chTg] at h <;> try (cases h; done)
  · simp only [Bool.and_eq_true, beq_iff_eq, decide_eq_true_eq] at h
    obtain ⟨⟨rfl, h1⟩, h2⟩ := h
    exact .name (st_store O F h2 h1)
  · exact .tup (st_names O F h)
theorem ok_asg {sc : Scope} (hk : sc.kind = .function) {i : Nat} {x y : Str} {e : E} {p pos : Pos} {v : Expr} {X : Cx} {W : WX} (h : chS n N sc (.asg i x e) (.Assign [.Name y p] v pos) = true) (O : XOk c G n k N sc X) (tk : Takes X W) (F : StOk X) : PS X (.Assign [.Name y p] v pos) (lS c (evS G (.asg i x e)) W) := by
  simp only [chS, Bool.and_eq_true, beq_iff_eq, decide_eq_true_eq] at h
  obtain ⟨⟨⟨⟨rfl, h1⟩, h2⟩, h3⟩, h4⟩ := h
  have S := st_store O F h2 h1
  have pe := (okE e sc _ X W h3 O tk).1
  by_cases hv : noComp v = true
  · exact st_asg O.nd S pe (noComp_eq hv)
  · rw [Bool.or_eq_true] at h4
    have h4 := h4.resolve_left hv
    cases v <;> simp only at h4 <;> try (cases h4; done)
    case ListComp elt gens scope lpos _ =>
      cases hb : swB sc scope x p lpos with
      | false => exact st_asg O.nd S pe (by rw [swB_eq O.hsc hk, hb])
      | true =>
        cases e <;> try (simp [chE] at h3; done)
        rename_i eelt tg it cs own
        obtain ⟨t, iter, ifs, rfl, k1, ⟨tup, k2, k3⟩, k4, k5, k6, k7, k8⟩ := (okLc h3 O tk).ex
        have hl : X.env.scope.names.lookup x = some .local := by
          rw [O.hsc]
          unfold swB at hb
          simp only [Bool.and_eq_true, beq_iff_eq] at hb
          exact hb.1.1
        exact st_asgLc (s_setLc O.hK O.calm O.nd S.1 hl (by rw [swB_eq O.hsc hk, hb]) k2 k1 k3 k4 k5 k6 k7 k8)
    case DictComp kx elt gens scope lpos _ =>
      cases hb : swB sc scope x p lpos with
      | false => exact st_asg O.nd S pe (by rw [swB_eqD O.hsc hk, hb])
      | true =>
        have hl : X.env.scope.names.lookup x = some .local := by
          rw [O.hsc]
          unfold swB at hb
          simp only [Bool.and_eq_true, beq_iff_eq] at hb
          exact hb.1.1
        cases e <;> try (simp [chE] at h3; done)
        rotate_left
        · exact st_asgLc (s_setDc2 O.hK O.calm O.nd S.1 hl (by rw [swB_eqD O.hsc hk, hb]) (okDc2 h3 O tk))
        rename_i ekx eelt tg it cs own
        obtain ⟨t, iter, ifs, rfl, k1, ⟨tup, k2, k3⟩, k4, k5, k6, k6', k7, k8⟩ := (okDc h3 O tk).ex
        have hl : X.env.scope.names.lookup x = some .local := by
          rw [O.hsc]
          unfold swB at hb
          simp only [Bool.and_eq_true, beq_iff_eq] at hb
          exact hb.1.1
        exact st_asgLc (s_setDc O.hK O.calm O.nd S.1 hl (by rw [swB_eqD O.hsc hk, hb]) k2 k1 k3 k4 k5 k6 k6' k7 k8)
theorem ok_par {sc : Scope} (hk : sc.kind = .function) {xs : List (Nat × Str)} {es : Es} {us vs : List Expr} {kk k2 : Nat} {p p2 pos : Pos} {X : Cx} {W : WX} (h1 : chNames N sc xs us = true) (h2 : chPar sc xs = true) (h3 : vs.length = xs.length) (h4 : chEs n N sc es vs = true) (h5 : swS sc us vs = some (some (xs.map (·.2)))) (O : XOk c G n k N sc X) (tk : Takes X W) (F : StOk X) :
    PS X (.Assign [.Tuple us kk p] (.Tuple vs k2 p2) pos) (lS c (evS G (.par xs es)) W) := by
  have lk : ∀ {x}, sc.names.lookup x = some .local → X.env.scope.names.lookup x = some .local := fun {x} q => by rw [O.hsc]; exact q
  have A := st_names O F h1
  have pa := okEs es sc _ X W h4 O tk
  have sw := swS_eq (k := kk) (k2 := k2) (p := p) (p2 := p2) O.hsc hk h5
  unfold chPar at h2
  split at h2
  · simp only [Bool.and_eq_true, decide_eq_true_eq] at h2
    obtain ⟨⟨g1, g2⟩, g3⟩ := h2
    cases A with
    | cons a1 A =>
      cases A with
      | cons a2 A =>
        cases A
        rcases vs with _ | ⟨a, _ | ⟨b, _ | _⟩⟩ <;> try (simp at h3; done)
        exact st_par2 O.calm O.nd a1.1 a2.1 g1 (lk g2) (lk g3) pa sw
  · simp only [Bool.and_eq_true, decide_eq_true_eq] at h2
    obtain ⟨⟨⟨⟨⟨g1, g2⟩, g3⟩, g4⟩, g5⟩, g6⟩ := h2
    cases A with
    | cons a1 A =>
      cases A with
      | cons a2 A =>
        cases A with
        | cons a3 A =>
          cases A
          rcases vs with _ | ⟨a, _ | ⟨b, _ | ⟨d, _ | _⟩⟩⟩ <;> try (simp at h3; done)
          exact st_par3 O.calm O.nd a1.1 a2.1 a3.1 g1 g2 g3 (lk g4) (lk g5) (lk g6) pa sw
  · cases h2
theorem ok_raise {sc : Scope} {x : Str} {e : Expr} {pos : Pos} {X : Cx} {W : WX} (h : chRaise n sc x e = true) (O : XOk c G n k N sc X) (tk : Takes X W) : PS X (.Raise (some e) none pos) (lS c (evS G (.raise x)) W) := by
  unfold chRaise at h
  split at h
  · simp only [Bool.and_eq_true, beq_iff_eq] at h
    obtain ⟨⟨rfl, h1⟩, h2⟩ := h
    obtain ⟨g1, g2⟩ := glB_gl O.hsc h1
    obtain ⟨C, e1, e2, e3, e4, e5, e6⟩ := O.exc x (by simpa using h2)
    exact st_raise O.calm tk PySem.F.excBase_ValueError e3 e2 e4 (raises_own e5 e6) g1 g2 e1
  · cases h
mutual
theorem okS (sc : Scope) (hk : sc.kind = .function) : ∀ (s : S) (st : Stmt) (X : Cx) (W : WX), chS n N sc s st = true → XOk c G n k N sc X → Takes X W → StOk X → PS X st (lS c (evS G s) W)
  | .asg i x e, st, X, W, h, O, tk, F => by
    cases st with
    | Assign ts v pos =>
      rcases ts with _ | ⟨t, _ | ⟨_, _⟩⟩ <;> try exact Bool.noConfusion (show false = true from h)
      rotate_left
      · cases t <;> exact Bool.noConfusion (show false = true from h)
      · cases t <;> try exact Bool.noConfusion (show false = true from h)
        exact ok_asg hk h O tk F
    | _ => exact Bool.noConfusion (show false = true from h)
  | .unp xs e, st, X, W, h, O, tk, F => by
    cases st with
    | Assign ts v pos =>
      rcases ts with _ | ⟨t, _ | ⟨_, _⟩⟩ <;> try exact Bool.noConfusion (show false = true from h)
      rotate_left
      · cases t <;> exact Bool.noConfusion (show false = true from h)
      · cases t <;> try exact Bool.noConfusion (show false = true from h)
        simp only [chS, Bool.and_eq_true] at h
        obtain ⟨⟨⟨h1, h2⟩, h3⟩, h4⟩ := h
        refine st_unp O.calm O.hK O.nd (st_names O F h1) (okE e sc _ X W h2 O tk).1 (soleNo h3) ?_
        by_cases hv : notTup v = true
        · exact noSwap hv
        · rw [Bool.or_eq_true] at h4
          have h4 := h4.resolve_left hv
          cases v <;> simp only at h4 <;> try (cases h4; done)
          exact swS_eq O.hsc hk (by simpa using h4)
    | _ => exact Bool.noConfusion (show false = true from h)
  | .par xs es, st, X, W, h, O, tk, F => by
    cases st with
    | Assign ts v pos =>
      rcases ts with _ | ⟨t, _ | ⟨_, _⟩⟩ <;> try exact Bool.noConfusion (show false = true from h)
      rotate_left
      · cases t <;> exact Bool.noConfusion (show false = true from h)
      · cases t <;> try exact Bool.noConfusion (show false = true from h)
        cases v <;> try exact Bool.noConfusion (show false = true from h)
        simp only [chS, Bool.and_eq_true, decide_eq_true_eq] at h
        obtain ⟨⟨⟨⟨h1, h2⟩, h3⟩, h4⟩, h5⟩ := h
        exact ok_par hk h1 h2 h3 h4 h5 O tk F
    | _ => exact Bool.noConfusion (show false = true from h)
  | .sto o i e, st, X, W, h, O, tk, F => by
    cases st with
    | Assign ts v pos =>
      rcases ts with _ | ⟨t, _ | ⟨_, _⟩⟩ <;> try exact Bool.noConfusion (show false = true from h)
      rotate_left
      · cases t <;> exact Bool.noConfusion (show false = true from h)
      · cases t <;> try exact Bool.noConfusion (show false = true from h)
        simp only [chS, Bool.and_eq_true] at h
        obtain ⟨⟨⟨⟨h1, h2⟩, h3⟩, h4⟩, h5⟩ := h
        exact st_sto (by have := O.room.units; omega) (okE o sc _ X W h1 O tk).1 (okE i sc _ X W h2 O tk).1 (okE e sc _ X W h3 O tk).1 h4 (soleNo h5) noSwapSub
    | _ => exact Bool.noConfusion (show false = true from h)
  | .aug i x o e, st, X, W, h, O, tk, F => by
    cases st with
    | AugAssign t op v pos =>
      cases t <;> try exact Bool.noConfusion (show false = true from h)
      simp only [chS, Bool.and_eq_true, beq_iff_eq, decide_eq_true_eq] at h
      obtain ⟨⟨⟨⟨⟨rfl, h1⟩, h2⟩, rfl⟩, h4⟩, h5⟩ := h
      exact st_aug O.hK O.nd (st_store O F h2 h1) h4 (okE e sc _ X W h5 O tk).1
    | _ => exact Bool.noConfusion (show false = true from h)
  | .exp e, st, X, W, h, O, tk, F => by
    cases st with
    | Expr v pos =>
      simp only [chS, Bool.and_eq_true] at h
      exact st_exp (okE e sc _ X W h.1 O tk).1 (noComp_eq h.2)
    | _ => exact Bool.noConfusion (show false = true from h)
  | .ret e, st, X, W, h, O, tk, F => by
    cases st with
    | Return v pos =>
      cases v with
      | none => exact Bool.noConfusion (show false = true from h)
      | some v =>
        simp only [chS] at h
        exact st_ret (okE e sc _ X W h O tk).1
    | _ => exact Bool.noConfusion (show false = true from h)
  | .ret0, st, X, W, h, O, tk, F => by
    cases st with
    | Return v pos =>
      cases v with
      | none => exact st_ret0
      | some v => exact Bool.noConfusion (show false = true from h)
    | _ => exact Bool.noConfusion (show false = true from h)
  | .if_ d a b, st, X, W, h, O, tk, F => by
    cases st with
    | If t x y pos =>
      simp only [chS, Bool.and_eq_true] at h
      exact st_if (okE d sc _ X W h.1.1 O tk).2 (okSs sc hk a x X W h.1.2 O tk F) (okSs sc hk b y X W h.2 O tk F)
    | _ => exact Bool.noConfusion (show false = true from h)
  | .whl d b _, st, X, W, h, O, tk, F => by
    cases st with
    | While t x y pos =>
      cases y with
      | nil =>
        simp only [chS, Bool.and_eq_true] at h
        exact st_whl F.pass (okE d sc _ X W h.1 O tk).2 (okSs sc hk b x X W h.2 O tk F)
      | cons _ _ => exact Bool.noConfusion (show false = true from h)
    | _ => exact Bool.noConfusion (show false = true from h)
  | .for_ tg it b _, st, X, W, h, O, tk, F => by
    cases st with
    | For t iter x y pos =>
      cases y with
      | nil =>
        simp only [chS, Bool.and_eq_true] at h
        obtain ⟨⟨⟨⟨h1, h2⟩, h3⟩, h4⟩, h5⟩ := h
        exact st_for O.hK O.calm O.nd (tup := tupI it) (fun z => tup_tg h1 (tupOk_ex h5 z)) F.pass (okI it sc _ t X W h2 O tk (tupOk_ex h5)) (st_tg O F h1) (okSs sc hk b x X W h3 O tk F) h4
      | cons _ _ => exact Bool.noConfusion (show false = true from h)
    | _ => exact Bool.noConfusion (show false = true from h)
  | .frz _, st, X, W, h, O, tk, F => Bool.noConfusion (show false = true from h)
  | .wipe _, st, X, W, h, O, tk, F => Bool.noConfusion (show false = true from h)
  | .raise x, st, X, W, h, O, tk, F => by
    cases st with
    | Raise e cc pos =>
      cases e <;> cases cc <;> try exact Bool.noConfusion (show false = true from h)
      simp only [chS] at h
      exact ok_raise h O tk
    | _ => exact Bool.noConfusion (show false = true from h)
  | .pass, st, X, W, h, O, tk, F => by
    cases st with
    | Pass pos => exact st_pass
    | _ => exact Bool.noConfusion (show false = true from h)
  | .brk, st, X, W, h, O, tk, F => by
    cases st with
    | Break pos => exact st_brk
    | _ => exact Bool.noConfusion (show false = true from h)
  | .cnt, st, X, W, h, O, tk, F => by
    cases st with
    | Continue pos => exact st_cnt
    | _ => exact Bool.noConfusion (show false = true from h)
theorem okSs (sc : Scope) (hk : sc.kind = .function) : ∀ (s : Ss) (st : List Stmt) (X : Cx) (W : WX), chSs n N sc s st = true → XOk c G n k N sc X → Takes X W → StOk X → PSs X st (lS c (evSs G s) W)
  | .nil, st, X, W, h, O, tk, F => by
    cases st with
    | nil => exact ss_nil
    | cons _ _ => exact Bool.noConfusion (show false = true from h)
  | .cons s ss, st, X, W, h, O, tk, F => by
    unfold chSs at h
    cases g : ghost s with
    | true =>
      rw [g] at h
      have p := okSs sc hk ss st X W h O tk F
      cases s <;> first | (cases g; done) | exact ss_frz p | exact ss_wipe p
    | false =>
      rw [g] at h
      cases st with
      | nil => exact Bool.noConfusion (show false = true from h)
      | cons x xs =>
        have h : (chS n N sc s x && chSs n N sc ss xs) = true := h
        rw [Bool.and_eq_true] at h
        exact ss_cons (okS sc hk s x X W h.1 O tk F) (okSs sc hk ss xs X W h.2 O tk F)
end
end
end Py

namespace Py
open PySem PySem.Spec PyProof.Rows L2
/-! ### a table of defs; calls by levels -/
structure Fd where
  ar : Nat
  n : Nat
  body : Ss
def calN0 (T : Str → Option Fd) (con : Str → Option D) (sub : Str → Str → Bool) : Nat → Cal
  | 0, _, _, _, _, _ => False
  | k + 1, f, ds, A, X, Q => match T f with
    | some d => ds.length = d.ar ∧ runD ⟨calN0 T con sub k, con, sub⟩ d.n d.body ds A X Q
    | none => False
@[irreducible] def calN : (Str → Option Fd) → (Str → Option D) → (Str → Str → Bool) → Nat → Cal := calN0
theorem calN_eq0 : calN = calN0 := by unfold calN; rfl
section
variable {T : Str → Option Fd} {con : Str → Option D} {sub : Str → Str → Bool} {k : Nat} {f : Str} {ds : List D} {A : AH} {X : Dx} {Q : Dk}
theorem calN_zero : calN T con sub 0 f ds A X Q = False := by rw [calN_eq0]; rfl
theorem calN_succ : calN T con sub (k + 1) f ds A X Q = (match T f with
    | some d => ds.length = d.ar ∧ runD ⟨calN T con sub k, con, sub⟩ d.n d.body ds A X Q
    | none => False) := by rw [calN_eq0]; rfl
end
/-- the base of the defs: what holds of every world that stands behind the top -/
structure Base (c : RC) (n : Names) (con : Str → Option D) (P : Program) (w : World) (K : PySem.W.Frag) (mg : Str → Option Value) : Prop where
  hK : K = c.K
  blt : ∀ x ∈ bltAll, mg x = none
  con : ∀ x ∈ n.cons, ∃ d u v, con x = some d ∧ mg x = some u ∧ RelV v u ∧ ∀ H, RelD c.K H d v
  exc : ∀ x ∈ n.excs, ExcOk c K mg x
/-! ### a def's end -/
section
variable {c : RC} {A : AH} {H0 : Hp}
/-- some of the changing things are frozen -/
def FzTo (ps : List Addr) (H0 H : Hp) : Prop := ∀ b, H b = H0 b ∨ (b ∈ ps ∧ ∃ o u, H0 b = some u ∧ Mut (some u) ∧ H b = some (.frz o u))
theorem FzTo.mono {ps : List Addr} {H : Hp} (z : FzTo ps H0 H) : Mono H0 H := fun a o u _ e => by
  rcases z a with q | ⟨_, o', u', q, mu, _⟩
  · rw [q]; exact e
  · rw [e] at q
    cases q
    exact mu.elim
theorem frz_all {all : List Addr} {Q : VK} {v : V} : ∀ (ps : List Addr) (H : Hp), (∀ p ∈ ps, p ∈ all ∧ ∃ u, H0 p = some u ∧ Mut (some u)) → FzTo all H0 H →
    (∀ H', FzTo all H0 H' → (∀ p ∈ ps, ∃ o u, H0 p = some u ∧ H' p = some (.frz o u)) → (∀ b o u, H b = some (.frz o u) → H' b = some (.frz o u)) → FzS Q v H') → FzS Q v H
  | [], H, _, z, k => k H z (fun _ h => nomatch h) fun _ _ _ h => h
  | p :: ps, H, hp, z, k => by
    obtain ⟨pin, u, hu, mu⟩ := hp p List.mem_cons_self
    have go : ∀ H1, FzTo all H0 H1 → (∃ o, H1 p = some (.frz o u)) → (∀ b o u, H b = some (.frz o u) → H1 b = some (.frz o u)) → FzS Q v H1 := fun H1 z1 ⟨o, e1⟩ kp => by
      refine frz_all ps H1 (fun q hq => hp q (List.mem_cons_of_mem _ hq)) z1 fun H' z' a' kp' => k H' z' (fun q hq => ?_) fun b o u h => kp' b o u (kp b o u h)
      rcases List.mem_cons.mp hq with rfl | hq
      · exact ⟨o, u, hu, kp' _ _ _ e1⟩
      · exact a' q hq
    rcases z p with q | ⟨_, o, u', q1, mu', q2⟩
    · refine .step mu (q.trans hu) fun o => ?_
      refine go _ (fun b => ?_) ⟨o, upd_same⟩ fun b o' u' h => ?_
      · by_cases hb : b = p
        · subst hb
          exact .inr ⟨pin, o, u, hu, mu, upd_same⟩
        · rw [upd_ne hb]
          exact z b
      · have hb : b ≠ p := fun w => by
          rw [w, q, hu] at h
          cases h
          exact mu
        rw [upd_ne hb]
        exact h
    · rw [hu] at q1
      cases q1
      exact go H z ⟨o, q2⟩ fun _ _ _ h => h
mutual
theorem Thaw.rel {H : Hp} (ra : RelA c A H0) (m : Mono H0 H) : ∀ {d e : D} {ps : List Addr} {v : V}, Thaw A d e ps → (∀ p ∈ ps, ∃ o u, H0 p = some u ∧ H p = some (.frz o u)) → RelD c.K H0 d v → RelD c.K H e v
  | _, _, _, _, .same d, _, r => RelD.mono m _ _ r
  | _, _, _, _, .lst (p := p) e t, f, r => by
    cases r
    obtain ⟨vs, h, q⟩ := ra _ _ e
    obtain ⟨o, u, h1, h2⟩ := f p List.mem_cons_self
    rw [h] at h1
    cases h1
    exact ⟨p, vs, rfl, .inl ⟨o, h2⟩, Thaws.rel ra m t (fun q hq => f q (List.mem_cons_of_mem _ hq)) q⟩
  | _, _, _, _, .dct (p := p) e t, f, r => by
    cases r
    obtain ⟨ws, h, q⟩ := ra _ _ e
    obtain ⟨o, u, h1, h2⟩ := f p List.mem_cons_self
    rw [h] at h1
    cases h1
    exact ⟨p, ws, rfl, ⟨o, h2⟩, q.keys, Thaws.rel ra m t (fun q hq => f q (List.mem_cons_of_mem _ hq)) q.vals⟩
  | _, _, _, _, .tup t, f, r => by
    obtain ⟨a, vs, e, h, q⟩ := r
    exact ⟨a, vs, e, m.tup h, Thaws.rel ra m t f q⟩
theorem Thaws.rel {H : Hp} (ra : RelA c A H0) (m : Mono H0 H) : ∀ {ds es : List D} {ps : List Addr} {vs : List V}, Thaws A ds es ps → (∀ p ∈ ps, ∃ o u, H0 p = some u ∧ H p = some (.frz o u)) → RelDs c.K H0 ds vs → RelDs c.K H es vs
  | _, _, _, _, .same ds, _, r => RelDs.mono m _ _ r
  | _, _, _, _, .cons t ts, f, ⟨v, r, e, h, q⟩ => ⟨v, r, e, Thaw.rel ra m t (fun p hp => f p (List.mem_append_left _ hp)) h, Thaws.rel ra m ts (fun p hp => f p (List.mem_append_right _ hp)) q⟩
end
mutual
theorem Thaw.mut (ra : RelA c A H0) : ∀ {d e : D} {ps : List Addr}, Thaw A d e ps → ∀ p ∈ ps, ∃ u, H0 p = some u ∧ Mut (some u)
  | _, _, _, .same d, p, hp => nomatch hp
  | _, _, _, .lst e t, p, hp => by
    rcases List.mem_cons.mp hp with rfl | hp
    · obtain ⟨vs, h, q⟩ := ra _ _ e
      exact ⟨.lst vs, h, trivial⟩
    · exact Thaws.mut ra t p hp
  | _, _, _, .dct e t, p, hp => by
    rcases List.mem_cons.mp hp with rfl | hp
    · obtain ⟨ws, h, q⟩ := ra _ _ e
      exact ⟨.dK ws, h, trivial⟩
    · exact Thaws.mut ra t p hp
  | _, _, _, .tup t, p, hp => Thaws.mut ra t p hp
theorem Thaws.mut (ra : RelA c A H0) : ∀ {ds es : List D} {ps : List Addr}, Thaws A ds es ps → ∀ p ∈ ps, ∃ u, H0 p = some u ∧ Mut (some u)
  | _, _, _, .same ds, p, hp => nomatch hp
  | _, _, _, .cons t ts, p, hp => by
    rcases List.mem_append.mp hp with hp | hp
    · exact Thaw.mut ra t p hp
    · exact Thaws.mut ra ts p hp
end
theorem EndOk.fz {d : D} {v : V} {Qd : Dk} {Q : VK} (h : EndOk A d Qd) (ra : RelA c A H0) (r : RelD c.K H0 d v) (k : ∀ d2 A2 H, Qd d2 A2 → Mono H0 H → RelA c A2 H → RelD c.K H d2 v → Q v H) : FzS Q v H0 := by
  rw [EndOk_eq] at h
  obtain ⟨A2, d2, ps, t, sb, hn, q⟩ := h
  refine frz_all (all := ps) ps H0 (fun p hp => ⟨hp, t.mut ra p hp⟩) (fun b => .inl rfl) fun H z f _ => .here (k d2 A2 H q z.mono (fun b o e => ?_) (t.rel ra z.mono f r))
  have e2 := sb b o e
  rcases z b with w | ⟨w, _⟩
  · exact (ra b o e2).keep z.mono w
  · rw [hn b w] at e
    cases e
end
/-- a def of the table stands in the written part -/
structure StandsAt (n : Names) (d : Fd) (K : PySem.W.Frag) (mg : Str → Option Value) (x : Str) (f : Addr) (fd : FuncData) (ps : List Str) : Prop where
  hm : mg x = some (.ref f)
  ex : ∃ (qual : Str) (st : Stmt) (N : List Str), Fun K x qual st f fd ∧ FnScope N ps (defScope st) ∧
    d.ar = ps.length ∧ d.n = N.length ∧ chSs n N (defScope st) d.body (defBody st) = true
def Stands (n : Names) (d : Fd) (K : PySem.W.Frag) (mg : Str → Option Value) (x : Str) : Prop := ∃ (f : Addr) (fd : FuncData) (ps : List Str), StandsAt n d K mg x f fd ps ∧ Binds K fd ps []
/-- the same, called by a keyword, or by a default -/
def StandsF (n : Names) (d : Fd) (K : PySem.W.Frag) (mg : Str → Option Value) (x : Str) (m : Nat) (ks : List Str) (is : List Int) : Prop := ∃ (f : Addr) (fd : FuncData) (ps : List Str) (dv : List Value), StandsAt n d K mg x f fd ps ∧ Form K fd ps m ks dv ∧ Vals (is.map V.int) dv
structure Table (n : Names) (T : Str → Option Fd) (K : PySem.W.Frag) (mg : Str → Option Value) : Prop where
  defs : ∀ x ∈ n.defs, ∃ d, T x = some d ∧ Stands n d K mg x
  kws : ∀ q ∈ n.kws, ∃ d, T q.1 = some d ∧ StandsF n d K mg q.1 q.2.1 [q.2.2] []
  dfl : ∀ q ∈ n.dfl, ∃ d, T q.1 = some d ∧ StandsF n d K mg q.1 q.2.1 [] [q.2.2]
section
variable {c : RC} {P : Program} {w : World} {K : PySem.W.Frag} {mg : Str → Option Value} {base : Heap} {n : Names} {T : Str → Option Fd} {con : Str → Option D} {sub : Str → Str → Bool}
theorem fn_ok (B : Base c n con P w K mg) (hT : Table n T K mg) : ∀ (k : Nat) (x : Str) (d : Fd) (f : Addr) (fd : FuncData) (ps : List Str), T x = some d → StandsAt n d K mg x f fd ps →
    FnG P w K mg base (L2.CX P w) k f fd ps (lSp c (calN T con sub k x))
  | 0, x, d, f, fd, ps, hd, hx => by
    refine ⟨fun vs H Q E h => ?_, fun A outer s H args us vs Q E _ _ _ _ _ h => ?_⟩
    · obtain ⟨_, _, _, _, _, _, z, _⟩ := h
      exact (cast calN_zero z).elim
    · obtain ⟨_, _, _, _, _, _, z, _⟩ := h
      exact (cast calN_zero z).elim
  | k + 1, x, d, f, fd, ps, hd, ⟨_, qual, st, N, F, S, e1, e2, ch⟩ => by
    refine fn_G F S (fun vs H Q E h => ?_) fun cdv A outer s H vs Q E hr hg h => ?_
    · obtain ⟨A, ds, Xd, Qd, ra, rd, z, _⟩ := h
      have z : calN T con sub (k + 1) x ds A Xd Qd := z
      rw [calN_succ] at z
      rw [hd] at z
      rw [rd.length, z.1, e1]
    · obtain ⟨A0, ds, Xd, Qd, ra, rd, z, fq, fw⟩ := h
      have z : calN T con sub (k + 1) x ds A0 Xd Qd := z
      rw [calN_succ] at z
      rw [hd] at z
      obtain ⟨z1, z2⟩ := z
      have O : XOk c ⟨calN T con sub k, con, sub⟩ n k N (defScope st) (cxOf (L2.CX P w) P w K mg base N qual (defScope st) f cdv A outer s H E) :=
        { hK := B.hK, calm := rfl, hN := rfl, nd := S.nd, hsc := rfl, room := hr, gd := hg, blt := B.blt, defs := fun y hy => let ⟨d1, hd1, f1, fd1, ps1, S1, bd⟩ := hT.defs y hy; let ⟨_, _, _, F1, _⟩ := S1.ex; ⟨f1, fd1, ps1, S1.hm, F1.kp, bd, fn_ok B hT k y d1 f1 fd1 ps1 hd1 S1⟩,
          kws := fun y m kn hy => let ⟨d1, hd1, f1, fd1, ps1, dv, S1, bd, hv⟩ := hT.kws (y, m, kn) hy; let ⟨_, _, _, F1, _⟩ := S1.ex; ⟨f1, fd1, ps1, dv, _, S1.hm, F1.kp, bd, hv, fun _ => rfl, fn_ok B hT k y d1 f1 fd1 ps1 hd1 S1⟩,
          dfl := fun y m i hy => let ⟨d1, hd1, f1, fd1, ps1, dv, S1, bd, hv⟩ := hT.dfl (y, m, i) hy; let ⟨_, _, _, F1, _⟩ := S1.ex; ⟨f1, fd1, ps1, dv, _, S1.hm, F1.kp, bd, hv, fun _ => ⟨_, _, rfl, rfl, rfl⟩, fn_ok B hT k y d1 f1 fd1 ps1 hd1 S1⟩, con := fun x d e hx => (by obtain ⟨d', u, v, e', r⟩ := B.con x hx; cases (show con x = some d from e).symm.trans e'; exact ⟨u, v, r⟩), exc := B.exc }
      refine ⟨_, okSs (defScope st) S.kind d.body (defBody st) _ _ ch O (takes_of rfl rfl rfl rfl) ⟨fun _ => rfl, passes_of rfl⟩, ?_⟩
      refine ⟨ds.map some ++ List.replicate (d.n - ds.length) none, A0, _, ?_, ra, z2, ?_⟩
      · have rl := rd.length
        refine ⟨by simp [L2.start, rl, e2], fun i dd q => ?_⟩
        unfold L2.start
        by_cases hi : i < ds.length
        · rw [List.getElem?_append_left (by simpa using hi), List.getElem?_map] at q
          cases q1 : ds[i]? with
          | none => rw [q1] at q; cases q
          | some y =>
            rw [q1] at q
            cases q
            obtain ⟨v, e3, e4⟩ := (by rw [← B.hK] at rd; exact rd : RelDs K H ds vs).get q1
            refine ⟨v, ?_, by rw [← B.hK]; exact e4⟩
            rw [List.getElem?_append_left (by simpa [rl] using hi), List.getElem?_map, e3]
            rfl
        · rw [List.getElem?_append_right (by simpa using hi)] at q
          rw [List.getElem?_replicate] at q
          split at q <;> cases q
      · refine ⟨fun σd A' σ H' q m' ra' rs' => ?_, fun dd A' v H' q m' ra' rv => ?_, fun σd A' σ H' q => q.elim, fun σd A' σ H' q => q.elim, fun σd y A' C σ H' q cl m' ra' rs' => ?_⟩
        · exact EndOk.fz (c := c) q ra' (v := .non) rfl fun d2 A2 H q m2 ra2 r2 => fq d2 A2 .non H q (m'.trans m2) ra2 r2
        · exact EndOk.fz (c := c) q ra' rv fun d2 A2 H q m2 ra2 r2 => fq d2 A2 v H q (m'.trans m2) ra2 r2
        · obtain ⟨A2, sb, q⟩ := q
          exact fw y A2 C H' q cl m' (sb.rel ra')
end
end Py

namespace Py
open PySem PySem.Spec PyProof.Rows L2
/-! ### the law is called from without: no __repr__ is under way -/
/-- the script, as it is tracked: frozen, or not at all where it is an object of the module -/
def scriptH (K : PySem.W.Frag) (a : Addr) (o : Obj) (vs : List V) : Hp := fun b => if b = a ∧ K.lookup a = none then some (.frz o (.lst vs)) else none
section
variable {P : Program} {w : World} {K : PySem.W.Frag} {mg mb : Str → Option Value} {CX : CXT} {k : Nat} {fa a : Addr} {fd : FuncData} {x : Str} {sp : Sp} {s : Shared} {vs : List Value} {ns : List Int}
theorem law_G (KX : K.In s.heap) (g1 : s.heap.Ns mainGlobals mg) (g2 : s.heap.Ns builtinsNs mb) (g3 : ∀ x : Str, x ≠ "__name__" → mb x = bootBuiltins x) (g4 : s.heap.NoLimit) (g5 : s.gens = #[])
    (ha : s.heap.get? a = some { cls := .type "list", data := .seq vs.toArray }) (hi : IntsAre vs ns) (hl : ns.length ≤ sizeLine) (hr : Room k callerA)
    (F : ∀ base : Heap, K.In base → base.Ns mainGlobals mg → FnG P w K mg base CX k fa fd [x] sp) (hb : ∀ (s : Shared) (u : Value), BindsTo s fd ⟨[u], []⟩ [(x, u)])
    (hsp : ∀ H : Hp, FlAt K H a (ns.map V.int) → sp [.ref a] H (fun v _ => v = .bl true) fun _ _ _ => False) (hCX : ∀ H e s', CX [] H s (fun _ _ _ => False) e s' → False) :
    codeAny (model P w) callerA (.call (.ref fa) ⟨[.ref a], []⟩) (fun r s' => r = .ok (.ret (.bool true)) ∧ OldK s.heap s'.heap ∧ s'.os = s.os ∧ AllBare s'.gens) s := by
  have rv := vals_ints hi
  have n1 := hi.length
  let ob : Obj := { cls := .type "list", data := .seq vs.toArray }
  let H := scriptH K a ob (ns.map V.int)
  have at_ : ∀ b u, H b = some u → b = a ∧ K.lookup a = none ∧ u = .frz ob (.lst (ns.map V.int)) := fun b u z => by
    have z : (if b = a ∧ K.lookup a = none then some (HO.frz ob (.lst (ns.map V.int))) else none) = some u := z
    by_cases q : b = a ∧ K.lookup a = none
    · rw [if_pos q] at z
      cases z
      exact ⟨q.1, q.2, rfl⟩
    · rw [if_neg q] at z
      cases z
  have fl : FlAt K H a (ns.map V.int) := by
    cases q : K.lookup a with
    | none => exact .inl ⟨ob, if_pos ⟨rfl, q⟩⟩
    | some o =>
      have e := KX a o q
      rw [ha] at e
      cases e
      exact .inr ⟨_, vs.toArray, _, q, rfl, rfl, rfl, by rw [List.size_toArray, n1]; exact hl, by simpa using rv, rfl⟩
  have ok : HOk P w H s.heap := fun b u z => by
    obtain ⟨rfl, _, rfl⟩ := at_ b u z
    exact ⟨ha, by rw [List.length_map]; exact hl, vs, _, rv, ha⟩
  have none_of : ∀ {b : Addr} {o : Obj}, s.heap.get? b = some o → (b = a → K.lookup a = none → False) → H b = none := fun {b o} e n => by
    cases q : H b with
    | none => rfl
    | some u => obtain ⟨h1, h2, _⟩ := at_ b u q; exact (n h1 h2).elim
  have nsB : ∀ {b : Addr} {m : Str → Option Value}, s.heap.Ns b m → (hidT s.heap H).Ns b m := fun {b m} ⟨o, es, ep, e, d, r⟩ => by
    refine ⟨o, es, ep, hidT_get e (none_of e fun z _ => ?_), d, r⟩
    rw [z, ha] at e
    cases e
    have d' : Data.seq vs.toArray _ = Data.dict es ep := d
    cases d'
  have inB : K.In (hidT s.heap H) := fun b o e => hidT_get (KX b o e) (none_of (KX b o e) fun z q => by rw [z, q] at e; cases e)
  have md : Mod K mg (hidT s.heap H) := ⟨inB, nsB g1, ⟨mb, nsB g2, g3⟩, let ⟨mc, h1, h2⟩ := g4; ⟨mc, nsB h1, h2⟩⟩
  have e0 : Env0 P w K mg (hidT s.heap H) callerA [] s H := ⟨rfl, md, fun b o e => of_hidT e, Nat.le_of_eq (hidT_size _ _), trivial, fun b hb => absurd (show b ∈ ([] : List Addr) from hb) (by simp), ok, .of_eq g5⟩
  apply codeAny_mono ((F _ inB (nsB g1)).run callerA [] s H ⟨[.ref a], []⟩ [.ref a] [.ref a] _ _ hr rfl e0 (hb s (.ref a)) (.cons rfl .nil) (hsp H fl))
  intro r s' h
  cases r with
  | error e => exact (hCX H e s' h).elim
  | ok f =>
    cases f with
    | ret u =>
      obtain ⟨v, H', os, bare, un, ok', r', q⟩ := h
      cases (show v = .bl true from q)
      cases (show u = Value.bool true from r')
      refine ⟨rfl, OldK.of_keep fun b o e => ?_, os, bare⟩
      cases z : H b with
      | none => exact un.keep b o e z (by intro z; exact absurd (show b ∈ ([] : List Addr) from z) (by simp)) (by simp)
      | some t =>
        obtain ⟨h1, h2, rfl⟩ := at_ b t z
        obtain ⟨e1, _⟩ := ok b _ z
        obtain ⟨e2, _⟩ := ok' b _ (un.frzs b ob _ z)
        rw [e] at e1
        cases e1
        exact e2
    | _ => exact h.elim
end
theorem walk_G {l : PySem.W.OpenLaw} {n k : Nat} {q : Program} {loose : List Str} {XP : (Str → Option Value) → Heap → Prop} {YP : World → Heap → Prop} {d : DefRec} {K : Params → PySem.W.Frag} {CX : World → CXT} {sp : World → Sp} {x : Str}
    (hn : l.most = some n) (hn2 : n ≤ sizeLine) (hdf : d.params.defaults = []) (hr : Room k callerA) (hY : ∀ (w : World) (h : Heap), YP w h → (K w.params).In h)
    (F : ∀ (w : World) (mg : Str → Option Value) (fa : Addr) (h : Heap), (K w.params).In h → h.Ns mainGlobals mg → mg d.name = some (.ref fa) →
      ∃ fd : FuncData, (∀ (s : Shared) (u : Value), BindsTo s fd ⟨[u], []⟩ [(x, u)]) ∧ ∀ base : Heap, (K w.params).In base → base.Ns mainGlobals mg → FnG l.prog w (K w.params) mg base (CX w) k fa fd [x] (sp w))
    (hsp : ∀ (w : World) (H : Hp) (a : Addr) (ns : List Int), ns.length ≤ n → (∀ z ∈ ns, Builtin.Int.intBits z ≤ 1048576) → FlAt (K w.params) H a (ns.map V.int) → sp w [.ref a] H (fun v _ => v = .bl true) fun _ _ _ => False)
    (hCX : ∀ (w : World) (H : Hp) (s : Shared) (e : Value) (s' : Shared), CX w [] H s (fun _ _ _ => False) e s' → False) :
    PySem.W.WalkO q loose XP YP l.row.toRowW d [] (fun f vs => PySem.call f vs) :=
  Att.attach_callB hn hdf fun w s₀ s₁ mg mb fa o pm cd doc a vs ns G Y ho hd hcd hmg hobj hints hlen hbits hg =>
    have KX := hY w _ Y
    let ⟨fd, hb, hF⟩ := F w mg fa _ KX G.T.g hmg
    law_G KX G.T.g G.T.b G.T.builtins G.T.nolimit hg hobj hints (Nat.le_trans hlen hn2) hr hF hb (fun H hS => hsp w H a ns hlen hbits hS) fun H e s' => hCX w H s₁ e s'
end Py

namespace Py
open PySem PySem.Spec PyProof.Rows L2
/-- nothing that the script holds is great -/
def Small (ns : List Int) : Prop := ns.length ≤ 63 ∧ ∀ z ∈ ns, Builtin.Int.intBits z ≤ 1048576
abbrev A0 : AH := fun _ => none
/-- what a law says, plain: at every script its def answers True -/
def LawIs (cal : Cal) (law : Str) : Prop := ∀ ns : List Int, Small ns → cal law [.fl (ns.map .int)] A0 noX (fun d _ => d = .bl true)
/-- behind the top: the base, the table's defs, the law's own object -/
def Behind (l : PySem.W.OpenLaw) (n : Names) (con : Str → Option D) (T : Str → Option Fd) (law : Str) (w : World) (K : PySem.W.Frag) (mg : Str → Option Value) (fa : Addr) : Prop :=
  ∃ cl : Str → Option Addr, Base ⟨K, cl⟩ n con l.prog w K mg ∧ Table n T K mg ∧
    ∃ (d : Fd) (fd : FuncData), T law = some d ∧ StandsAt n d K mg law fa fd ["script"] ∧ ∀ (s : Shared) (u : Value), BindsTo s fd ⟨[u], []⟩ [("script", u)]
theorem walk_py {l : PySem.W.OpenLaw} {q : Program} {loose : List Str} {XP : (Str → Option Value) → Heap → Prop} {YP : World → Heap → Prop} {d : DefRec} {K : Params → PySem.W.Frag}
    {n : Names} {con : Str → Option D} {sub : Str → Str → Bool} {T : Str → Option Fd} {law : Str} (k : Nat) (hk : k ≤ 200) (hn : l.most = some 63) (hdf : d.params.defaults = [])
    (hY : ∀ (w : World) (h : Heap), YP w h → (K w.params).In h)
    (F : ∀ (w : World) (mg : Str → Option Value) (fa : Addr) (h : Heap), (K w.params).In h → h.Ns mainGlobals mg → mg d.name = some (.ref fa) → Behind l n con T law w (K w.params) mg fa)
    (spec : LawIs (calN T con sub k) law) :
    PySem.W.WalkO q loose XP YP l.row.toRowW d [] (fun f vs => PySem.call f vs) := by
  refine walk_G (n := 63) (k := k) (x := "script") (K := K) (CX := fun w => L2.CX l.prog w) (sp := fun w => fun vs H Q E => ∀ cl, lSp ⟨K w.params, cl⟩ (calN T con sub k law) vs H Q E) hn (by decide) hdf ?_ hY ?_ ?_ ?_
  · exact ⟨rfl, Nat.lt_of_le_of_lt (Nat.add_le_add_right (Nat.add_le_add_left (Nat.mul_le_mul_left 3 hk) _) 5) (by decide), Nat.lt_of_le_of_lt (Nat.add_le_add_right (Nat.add_le_add_left (Nat.mul_le_mul_left 16 hk) _) 200) (by decide)⟩
  · intro w mg fa h KX G hmg
    obtain ⟨cl, B, hT, d, fd, hd, S, hb⟩ := F w mg fa h KX G hmg
    exact ⟨fd, hb, fun base _ _ => (fn_ok B hT k law d fa fd ["script"] hd S).weaken fun vs H Q E z => z cl⟩
  · intro w H a ns hl hb hS cl
    refine ⟨A0, [.fl (ns.map .int)], noX, fun d _ => d = .bl true, (fun b o z => by cases z), ⟨.ref a, [], rfl, ⟨a, ns.map V.int, rfl, hS, ?_⟩, rfl⟩, spec ns ⟨hl, hb⟩, fun d A' v H' q _ _ r => ?_, fun y A' C H' q => q.elim⟩
    · refine RelDs.mk (by simp) fun i d v e1 e2 => ?_
      rw [List.getElem?_map] at e1 e2
      cases e : ns[i]? with
      | none => rw [e] at e1; cases e1
      | some z => rw [e] at e1 e2; cases e1; cases e2; rfl
    · subst q
      exact r
  · intro w H s e s' h
    obtain ⟨_, _, _, _, _, _, _, _, _, _, _, _, z⟩ := h
    exact z.elim

/-! ### words for what the written part says -/
theorem al_nil {α : Type} {p : α → Prop} : ∀ x ∈ ([] : List α), p x := fun _ h => nomatch h
theorem al_cons {α : Type} {p : α → Prop} {a : α} {l : List α} (h : p a) (t : ∀ x ∈ l, p x) : ∀ x ∈ a :: l, p x := fun x hx => by
  rcases List.mem_cons.mp hx with rfl | hx
  · exact h
  · exact t x hx
section
variable {K : PySem.W.Frag} {h : Heap} {mg : Str → Option Value} {n : Names} {d : Fd} {x : Str} {f : Addr} {st : Stmt} {N ps : List Str}
theorem stands_mk {oc kV dc pm cd ct : Value} {od an : Option Addr} {sl : Array (Option Value)} (X : K.In h) (G : h.Ns mainGlobals mg) (S : FnScope N ps (defScope st))
    (b : ∀ (kV doc pm : Value) (an : Option Addr) (cdv ct : Value) (us : List Value), us.length = ps.length → bindArgs (PySem.W.fnOf x x (defArgs st) (defBody st) (defScope st) .none kV doc pm an cdv ct) ⟨us, []⟩ = pure (ps.zip us))
    (e1 : d.ar = ps.length) (e2 : d.n = N.length) (ch : chSs n N (defScope st) d.body (defBody st) = true)
    (a : PySem.W.nsIn K mainGlobals x = some (some (.ref f))) (l : K.lookup f = some ⟨oc, od, .func (PySem.W.fnOf x x (defArgs st) (defBody st) (defScope st) .none kV dc pm an cd ct), sl⟩)
    (c : PySem.W.codeIn K cd x = true) (k : PySem.W.keepIn K (.ref f) = true) :
    ∃ fd : FuncData, StandsAt n d K mg x f fd ps ∧ Binds K fd ps [] ∧ ∀ (s : Shared) (us : List Value), us.length = ps.length → BindsTo s fd ⟨us, []⟩ (ps.zip us) := by
  have F := fun_mk (st := st) l c k
  exact ⟨_, ⟨PySem.W.mg_of X G a, x, st, N, F, S, e1, e2, ch⟩, F.binds b, fun s us hu => .of_eq (b _ _ _ _ _ _ us hu)⟩
def clOf (mg : Str → Option Value) (x : Str) : Option Addr := match mg x with
  | some (.ref C) => some C
  | _ => none
theorem exc_mk (X : K.In h) (G : h.Ns mainGlobals mg) (a : PySem.W.nsIn K mainGlobals x = some (some (.ref f))) (q : PySem.W.excIn K f [.type "ValueError", .type "Exception", .type "BaseException", .type "object"] "ValueError.__new__" = true)
    (k : PySem.W.keepIn K (.ref f) = true) (s : PySem.W.subIn K (.ref f) (.type "BaseException") = some true) (t : PySem.W.typeIn K (.ref f) = some (.type "type")) : ExcOk ⟨K, clOf mg⟩ K mg x :=
  ⟨f, by show clOf mg x = _; unfold clOf; rw [PySem.W.mg_of X G a], PySem.W.mg_of X G a, q, k, s, t⟩
theorem con_int {i : Int} {t : Nat} {con : Str → Option D} (X : K.In h) (G : h.Ns mainGlobals mg) (e : con x = some (.int i)) (a : PySem.W.nsIn K mainGlobals x = some (some (.int i t))) : ∃ d u v, con x = some d ∧ mg x = some u ∧ RelV v u ∧ ∀ H, RelD K H d v :=
  ⟨_, _, .int i, e, PySem.W.mg_of X G a, ⟨t, rfl⟩, fun _ => rfl⟩
theorem con_str {s : Str} {t : Nat} {con : Str → Option D} (X : K.In h) (G : h.Ns mainGlobals mg) (e : con x = some (.str s)) (a : PySem.W.nsIn K mainGlobals x = some (some (.str s t))) : ∃ d u v, con x = some d ∧ mg x = some u ∧ RelV v u ∧ ∀ H, RelD K H d v :=
  ⟨_, _, .str s, e, PySem.W.mg_of X G a, ⟨t, rfl⟩, fun _ => rfl⟩
theorem stands_kw {q : Str} {D : Addr} {m : Nat} {i : Int} {tk : Nat} {oc dc pm cd ct : Value} {od an : Option Addr} {sl : Array (Option Value)} (X : K.In h) (G : h.Ns mainGlobals mg) (S : FnScope N ps (defScope st))
    (b1 : ∀ (doc pm : Value) (an : Option Addr) (cdv ct : Value) (us : List Value) (w : Value), us.length = m → bindArgs (PySem.W.fnOf x x (defArgs st) (defBody st) (defScope st) .none (.ref D) doc pm an cdv ct) ⟨us, [(q, w)]⟩ = pure (ps.zip (us ++ [w])))
    (b2 : ∀ (doc pm : Value) (an : Option Addr) (cdv ct : Value) (us : List Value) (w : Value), us.length = m → KwChain D [(q, w)] (bindArgs (PySem.W.fnOf x x (defArgs st) (defBody st) (defScope st) .none (.ref D) doc pm an cdv ct) ⟨us, []⟩) (ps.zip (us ++ [w])))
    (hl : m + 1 = ps.length) (e1 : d.ar = ps.length) (e2 : d.n = N.length) (ch : chSs n N (defScope st) d.body (defBody st) = true)
    (a : PySem.W.nsIn K mainGlobals x = some (some (.ref f))) (l : K.lookup f = some ⟨oc, od, .func (PySem.W.fnOf x x (defArgs st) (defBody st) (defScope st) .none (.ref D) dc pm an cd ct), sl⟩)
    (c : PySem.W.codeIn K cd x = true) (k : PySem.W.keepIn K (.ref f) = true) (g : PySem.W.nsIn K D q = some (some (.int i tk))) :
    StandsF n d K mg x m [q] [] ∧ StandsF n d K mg x m [] [i] := by
  have F := fun_mk (st := st) l c k
  have A : StandsAt n d K mg x f _ ps := ⟨PySem.W.mg_of X G a, x, st, N, F, S, e1, e2, ch⟩
  refine ⟨⟨f, _, ps, [], A, ⟨fun s us ws X2 n1 n2 => ?_, by simpa using hl⟩, .nil⟩, ⟨f, _, ps, [.int i tk], A, ⟨fun s us ws X2 n1 n2 => ?_, by simpa using hl⟩, .cons ⟨tk, rfl⟩ .nil⟩⟩
  · match ws, n2 with
    | [w], _ => exact .of_eq (by rw [List.append_nil]; exact b1 _ _ _ _ _ us w n1)
  · match ws, n2 with
    | [], _ =>
      rw [List.append_nil]
      refine BindsTo.of_looks fun M => KwChain.looks X2 (l := [(q, .int i tk)]) (fun p hp => ?_) (b2 _ _ _ _ _ us (.int i tk) n1)
      cases List.mem_singleton.mp hp
      exact g
theorem con_strs {l : List Str} {T : Addr} {its : Array Value} {m : Nat} {con : Str → Option D} (X : K.In h) (G : h.Ns mainGlobals mg) (e : con x = some (.tup (l.map .str))) (a : PySem.W.nsIn K mainGlobals x = some (some (.ref T)))
    (lk : K.lookup T = some ⟨.type "tuple", none, .seq its m, #[]⟩) (hs : its.size ≤ sizeLine) (hv : Vals (l.map V.str) its.toList) : ∃ d u v, con x = some d ∧ mg x = some u ∧ RelV v u ∧ ∀ H, RelD K H d v := by
  refine ⟨_, _, .ref T, e, PySem.W.mg_of X G a, rfl, fun H => ⟨T, l.map V.str, rfl, .inr ⟨_, its, m, lk, rfl, ⟨rfl, rfl⟩, rfl, hs, hv⟩, ?_⟩⟩
  have go : ∀ l : List Str, RelDs K H (l.map .str) (l.map V.str) := fun l => by
    induction l with
    | nil => rfl
    | cons s l ih => exact ⟨_, _, rfl, rfl, ih⟩
  exact go l
end
end Py

namespace Py
open PySem PySem.Spec PyProof.Rows L2
/-- a table of defs and constants -/
structure Tb where
  T : Str → Option Fd
  C : Str → Option D
abbrev tp (x : Str) (d : Fd) : Str × Fd := (x, d)
abbrev cp (x : Str) (d : D) : Str × D := (x, d)
def noSub : Str → Str → Bool := fun _ _ => false
abbrev cal (t : Tb) (k : Nat) : Cal := calN t.T t.C noSub k
theorem put_same {A : AH} {a : Addr} {o : AO} : put A a o a = some o := by unfold put; simp
theorem put_ne {A : AH} {a b : Addr} {o : AO} (h : b ≠ a) : put A a o b = A b := by unfold put; simp [h]
theorem put_old {A : AH} {p a : Addr} {o o' : AO} (hp : A p = none) (ha : A a = some o) : put A p o' a = some o := by
  rw [put_ne (fun e => by rw [e, hp] at ha; cases ha)]
  exact ha
theorem put_ne1 {A : AH} {p a : Addr} {o' : AO} {v : Option AO} (hn : a ≠ p) (ha : A a = v) : put A p o' a = v := by rw [put_ne hn]; exact ha
theorem put_ne2 {A : AH} {p a : Addr} {o' : AO} {v : Option AO} (hn : p ≠ a) (ha : A a = v) : put A p o' a = v := by rw [put_ne (Ne.symm hn)]; exact ha
theorem put_none {A : AH} {p a : Addr} {o : AO} (hp : A p = none) (h : put A a o p = none → False) : p = a := by
  apply Classical.byContradiction
  intro e
  exact h (by rw [put_ne e]; exact hp)
theorem put_put {A : AH} {a : Addr} {o o' : AO} : put (put A a o) a o' = put A a o' := by
  funext b
  unfold put
  by_cases h : b = a
  · simp [h]
  · simp [h]
theorem put_id {A : AH} {a : Addr} {o : AO} (h : A a = some o) : put A a o = A := by
  funext b
  unfold put
  by_cases e : b = a
  · simp [e, h]
  · simp [e]
theorem put_comm {A : AH} {a b : Addr} {o u : AO} (h : a ≠ b) : put (put A a o) b u = put (put A b u) a o := by
  funext x
  unfold put
  by_cases h1 : x = a
  · by_cases h2 : x = b
    · exact absurd (h1.symm.trans h2) h
    · simp [h1, h]
  · simp [h1]
theorem rem_put {A : AH} {p : Addr} {o : AO} (h : A p = none) : rem (put A p o) p = A := by
  funext b
  unfold rem put
  by_cases e : b = p
  · simp [e, h]
  · simp [e]
theorem ne_of_at {A : AH} {a p : Addr} {o : AO} (h : A a = some o) (hp : A p = none) : a ≠ p := fun e => by rw [e, hp] at h; cases h
theorem outL.fz {L : Addr} {A : AH} {ds : List D} {Q : Dk} (h : A L = some (.lst ds)) (q : Q (.fl ds) (rem A L)) : outL L A Q := by rw [outL_eq]; exact .inr ⟨ds, h, q⟩
theorem outL.keep {L : Addr} {A : AH} {Q : Dk} (q : Q (.ref L) A) : outL L A Q := by rw [outL_eq]; exact .inl q
theorem outD.fz {L : Addr} {A : AH} {kvs : List (Key × D)} {Q : Dk} (h : A L = some (.dct kvs)) (q : Q (.fd (kvs.map (·.1)) (kvs.map (·.2))) (rem A L)) : outD L A Q := by rw [outD_eq]; exact .inr ⟨kvs, h, q⟩
theorem outD.keep {L : Addr} {A : AH} {Q : Dk} (q : Q (.ref L) A) : outD L A Q := by rw [outD_eq]; exact .inl q
theorem Sub.refl {A : AH} : Sub A A := fun _ _ h => h
theorem Sub.trans {A B C : AH} (h : Sub A B) (k : Sub B C) : Sub A C := fun a o e => k a o (h a o e)
theorem Sub.fresh {A : AH} {p : Addr} {o : AO} (h : A p = none) : Sub A (put A p o) := fun a o' e => put_old h e
/-! a def's end -/
theorem EndOk.of {A A' : AH} {d : D} {Q : Dk} (h : Sub A A') (q : Q d A) : EndOk A' d Q := by rw [EndOk_eq]; exact ⟨A, d, [], .same d, h, (by simp), q⟩
theorem EndOk.id {A : AH} {d : D} {Q : Dk} (q : Q d A) : EndOk A d Q := .of .refl q
/-- a list comes out, no more changed -/
theorem EndOk.lst {A A' : AH} {p : Addr} {ds : List D} {Q : Dk} (h : A' p = some (.lst ds)) (hs : Sub A A') (hn : A p = none) (q : Q (.fl ds) A) : EndOk A' (.ref p) Q := by
  rw [EndOk_eq]
  exact ⟨A, .fl ds, [p], .lst h (.same ds), hs, fun x hx => by cases List.mem_singleton.mp hx; exact hn, q⟩
theorem EndOk.dct {A A' : AH} {p : Addr} {kvs : List (Key × D)} {Q : Dk} (h : A' p = some (.dct kvs)) (hs : Sub A A') (hn : A p = none) (q : Q (.fd (kvs.map (·.1)) (kvs.map (·.2))) A) : EndOk A' (.ref p) Q := by
  rw [EndOk_eq]
  exact ⟨A, _, [p], .dct h (.same _), hs, fun x hx => by cases List.mem_singleton.mp hx; exact hn, q⟩
/-! ### what the head waits for -/
theorem rd_of {A : AH} {a : Addr} {o : AO} (h : A a = some o) : rd A a = some o := h
theorem seqD_lst {A : AH} {a : Addr} {ds : List D} (h : A a = some (.lst ds)) : seqD A (.ref a) = some ds := by simp only [seqD, getL, h]
theorem lstD_lst {A : AH} {a : Addr} {ds : List D} (h : A a = some (.lst ds)) : lstD A (.ref a) = some ds := by simp only [lstD, getL, h]
theorem mapD_lst {A : AH} {a : Addr} {ds : List D} (h : A a = some (.lst ds)) : mapD A (.ref a) = none := by simp only [mapD, h]
theorem mapD_dct {A : AH} {a : Addr} {kvs : List (Key × D)} (h : A a = some (.dct kvs)) : mapD A (.ref a) = some kvs := by simp only [mapD, h]
theorem zip_unzip {α β : Type} : ∀ l : List (α × β), (l.map (·.1)).zip (l.map (·.2)) = l
  | [] => rfl
  | p :: l => by simp [zip_unzip l]
/-- a dict that stands still, by its pairs -/
abbrev fdD (kvs : List (Key × D)) : D := .fd (kvs.map (·.1)) (kvs.map (·.2))
theorem mapD_fdD {A : AH} {kvs : List (Key × D)} : mapD A (fdD kvs) = some kvs := by simp only [mapD, fdD, zip_unzip]
theorem mapD_fd {A : AH} {kvs : List (Key × D)} : mapD A (.fd (kvs.map (·.1)) (kvs.map (·.2))) = some kvs := mapD_fdD
theorem getL_lst {A : AH} {a : Addr} {ds : List D} (h : A a = some (.lst ds)) : getL A a = some ds := by simp only [getL, h]
theorem recv_lst {A : AH} {a : Addr} {ds : List D} (h : A a = some (.lst ds)) : recv A (.ref a) = some .list := by simp only [recv, h]
theorem recv_dct {A : AH} {a : Addr} {ds : List (Key × D)} (h : A a = some (.dct ds)) : recv A (.ref a) = some .dict := by simp only [recv, h]
theorem truD_lst {A : AH} {a : Addr} {ds : List D} (h : A a = some (.lst ds)) : truD A (.ref a) = some (!ds.isEmpty) := by simp only [truD, h]
theorem intsD_map : ∀ (ns : List Int), intsD (ns.map D.int) = some ns
  | [] => rfl
  | n :: ns => by rw [List.map_cons, intsD, intsD_map ns]; rfl
theorem boolsD_map {α : Type} (f : α → Bool) : ∀ (ns : List α), boolsD (ns.map fun x => D.bl (f x)) = some (ns.map f)
  | [] => rfl
  | n :: ns => by rw [List.map_cons, boolsD, boolsD_map f ns]; rfl
theorem intsD_mapf {α : Type} (f : α → Int) (ns : List α) : intsD (ns.map fun x => D.int (f x)) = some (ns.map f) := by
  have := intsD_map (ns.map f)
  rwa [List.map_map] at this
theorem calN_eq {t : Tb} {k : Nat} {f : Str} {d : Fd} {ds : List D} {A : AH} {X : Dx} {Q : Dk} (h : t.T f = some d) (hl : ds.length = d.ar)
    (hr : runD ⟨cal t k, t.C, noSub⟩ d.n d.body ds A X Q) : cal t (k + 1) f ds A X Q := by
  show calN t.T t.C noSub (k + 1) f ds A X Q
  rw [calN_succ, h]
  exact ⟨hl, hr⟩
theorem log2_of {n k : Nat} (h : n < 2 ^ k) (hk : 0 < k) : n.log2 < k := by
  by_cases h0 : n = 0
  · subst h0
    simpa using hk
  · exact (Nat.log2_lt h0).mpr h
theorem cmulw {i j : Int} (a b : Nat) (h1 : i.natAbs < 2 ^ a) (h2 : j.natAbs < 2 ^ b) (ha : 0 < a) (hb : 0 < b) (h : a + b ≤ 1000000) : CMulW i j := by
  have e1 := log2_of h1 ha
  have e2 := log2_of h2 hb
  show i.natAbs.log2 + j.natAbs.log2 < 1000000
  omega
theorem cpoww {i j : Int} (a : Nat) (h1 : i.natAbs < 2 ^ a) (ha : 0 < a) (h : a ≤ 10000) (h2 : 0 ≤ j) (h3 : j ≤ 1000) : CPowW i j := ⟨h2, h3, Nat.lt_of_lt_of_le (log2_of h1 ha) h⟩
theorem cdivw {i j : Int} (a : Nat) (h0 : 0 < j) (h1 : j.natAbs < 2 ^ a) (ha : 0 < a) (h : a ≤ 9000) : CDivW i j := ⟨h0, Nat.lt_of_lt_of_le (log2_of h1 ha) h⟩
/-! ### loops -/
theorem holds_nil {A : AH} : holds [] A := fun _ h => nomatch h
theorem holds_one {A : AH} {a : Addr} {o : AO} (h : A a = some o) : holds [(a, o)] A := fun p hp => by
  cases List.mem_singleton.mp hp
  exact h
/-- by an invariant over the turn's number -/
theorem for_inv {G : Gd} {tg : Tg} {ws : List Nat} {tb : DEnds → DSt → AH → Prop} {Z : DEnds} (I : Nat → DSt → AH → Prop) : ∀ {ds : List D} {σ : DSt} {A : AH}, I 0 (wipN σ ws) A → (∀ j σ A, j ≤ ds.length → I j σ A → holds G A) →
    (∀ j d σ A nx, ds[j]? = some d → I j σ A → (∀ σ' A', I (j + 1) (wipN σ' ws) A' → nx σ' A') → bindT tg d σ fun σ' => tb (Z.loop nx) σ' A) → (∀ σ A, I ds.length σ A → Z.nx σ A) → forR G tg ws tb Z ds σ A
  | [], σ, A, h0, hG, _, hE => by rw [forR_nil]; exact ⟨hG 0 _ A (Nat.zero_le _) h0, hE _ A h0⟩
  | d :: ds, σ, A, h0, hG, hS, hE => by rw [forR_cons]; exact ⟨hG 0 _ A (Nat.zero_le _) h0, hS 0 d _ A _ rfl h0 fun σ' A' h1 =>
      for_inv (fun j => I (j + 1)) h1 (fun j σ A hj => hG (j + 1) σ A (by simpa using hj)) (fun j d σ A nx e h k => hS (j + 1) d σ A nx (by simpa using e) h k) hE⟩
/-- by a state of one's own, item by item; the source is a list of something -/
theorem for_st {α β : Type} {G : Gd} {tg : Tg} {ws : List Nat} {tb : DEnds → DSt → AH → Prop} {Z : DEnds} (e : α → D) (I : β → List α → DSt → AH → Prop) (f : β → α → β) : ∀ (xs : List α) {b : β} {σ : DSt} {A : AH}, I b xs (wipN σ ws) A → (∀ b r σ A, I b r σ A → holds G A) →
    (∀ b x r σ A nx, x ∈ xs → I b (x :: r) σ A → (∀ σ' A', I (f b x) r (wipN σ' ws) A' → nx σ' A') → bindT tg (e x) σ fun σ' => tb (Z.loop nx) σ' A) → (∀ σ A, I (xs.foldl f b) [] σ A → Z.nx σ A) → forR G tg ws tb Z (xs.map e) σ A
  | [], b, σ, A, h0, hG, _, hE => by rw [List.map_nil, forR_nil]; exact ⟨hG _ _ _ A h0, hE _ A h0⟩
  | x :: xs, b, σ, A, h0, hG, hS, hE => by
    rw [List.map_cons, forR_cons]
    exact ⟨hG _ _ _ A h0, hS _ _ _ _ _ _ List.mem_cons_self h0 fun σ' A' h1 => for_st e I f xs h1 hG (fun b x r σ A nx hx => hS b x r σ A nx (List.mem_cons_of_mem _ hx)) hE⟩
/-- the state is told by b alone, the heap stays -/
theorem for_fold {α β : Type} {tg : Tg} {ws : List Nat} {tb : DEnds → DSt → AH → Prop} {Z : DEnds} (e : α → D) (st : β → DSt) (f : β → α → β) : ∀ (xs : List α) {b : β} {σ : DSt} {A : AH}, wipN σ ws = st b →
    (∀ b x (nx : DSt → AH → Prop), x ∈ xs → (∀ σ', wipN σ' ws = st (f b x) → nx σ' A) → bindT tg (e x) (st b) fun σ' => tb (Z.loop nx) σ' A) → Z.nx (st (xs.foldl f b)) A → forR [] tg ws tb Z (xs.map e) σ A
  | [], b, σ, A, h0, _, hE => by rw [List.map_nil, forR_nil, h0]; exact ⟨holds_nil, hE⟩
  | x :: xs, b, σ, A, h0, hS, hE => by
    rw [List.map_cons, forR_cons, h0]
    exact ⟨holds_nil, hS _ _ _ List.mem_cons_self fun σ' h1 => for_fold e st f xs h1 (fun b x nx hx => hS b x nx (List.mem_cons_of_mem _ hx)) hE⟩
theorem rng_eq {lo : Int} {n : Nat} : rngD lo n = (List.range n).map fun k : Nat => D.int (lo + (k : Nat)) := rfl
theorem rngD_len {lo : Int} {n : Nat} : (rngD lo n).length = n := by simp [rngD]
/-- over a range -/
theorem for_rng {tg : Tg} {ws : List Nat} {tb : DEnds → DSt → AH → Prop} {Z : DEnds} {lo : Int} {n : Nat} {σ : DSt} {A : AH} (I : Nat → DSt → AH → Prop) (h0 : I 0 (wipN σ ws) A)
    (step : ∀ j σ A nx, j < n → I j σ A → (∀ σ' A', I (j + 1) (wipN σ' ws) A' → nx σ' A') → bindT tg (.int (lo + (j : Nat))) σ fun σ' => tb (Z.loop nx) σ' A) (hE : ∀ σ A, I n σ A → Z.nx σ A) : forR [] tg ws tb Z (rngD lo n) σ A :=
  for_inv I h0 (fun _ _ _ _ _ => holds_nil) (fun j d σ A nx e h k => by
    obtain ⟨hj, rfl⟩ := rng_get e
    exact step j σ A nx hj h k) (by rw [rngD_len]; exact hE)
/-- a while by a measure -/
theorem whl_by {c : DSt → AH → Dx → (Bool → AH → Prop) → Prop} {ws : List Nat} {tb : DEnds → DSt → AH → Prop} {Z : DEnds} (I : Nat → DSt → AH → Prop)
    (step : ∀ m σ A (nx : DSt → AH → Prop), I m σ A → (∀ m' σ' A', m = m' + 1 → I m' (wipN σ' ws) A' → nx σ' A') → c σ A (Z.ex σ) fun b A1 => match b with
      | true => tb (Z.loop nx) σ A1
      | false => Z.nx σ A1) : ∀ (m : Nat) {σ : DSt} {A : AH}, I m (wipN σ ws) A → ∃ n, whlR c ws tb Z n σ A := by
  have go : ∀ (m : Nat) {σ : DSt} {A : AH}, I m (wipN σ ws) A → whlR c ws tb Z (m + 1) σ A := fun m => by
    induction m with
    | zero => intro σ A h; rw [whlR_succ]; exact step 0 _ A _ h fun m' _ _ e _ => by omega
    | succ m ih => intro σ A h; rw [whlR_succ]; exact step (m + 1) _ A _ h fun m' σ' A' e h' => by cases e; exact ih h'
  exact fun m σ A h => ⟨m + 1, go m h⟩
/-! ### comprehensions -/
/-- tests and elements that only read; the list comes out frozen -/
theorem lc_map {α : Type} {G : Gd} {tg : Tg} {tt : DSt → AH → (Bool → AH → Prop) → Prop} {te : DSt → AH → Dk → Prop} {σ : DSt} {L : Addr} {A : AH} {Q : Dk} (e : α → D) (p : α → Bool) (g : α → D) (hL : A L = none) (xs : List α) (hz : xs.length ≤ sizeLine) (hG : ∀ acc, holds G (put A L (.lst acc)))
    (hS : ∀ x ∈ xs, ∃ σ', (∀ k : DSt → Prop, k σ' → bindT tg (e x) σ k) ∧ (∀ A' R, R (p x) A' → Sub A A' → tt σ' A' R) ∧ (p x = true → ∀ A' R, R (g x) A' → Sub A A' → te σ' A' R))
    (hQ : Q (.fl ((xs.filter p).map g)) A) : lcR G tg tt te σ L (fun A2 => outL L A2 Q) (xs.map e) (put A L (.lst [])) := by
  have go : ∀ (ys : List α) (acc : List D), acc.length + ys.length ≤ sizeLine → (∀ y ∈ ys, y ∈ xs) → (outL L (put A L (.lst (acc ++ (ys.filter p).map g))) Q) → lcR G tg tt te σ L (fun A2 => outL L A2 Q) (ys.map e) (put A L (.lst acc)) := fun ys => by
    induction ys with
    | nil => intro acc _ _ h; rw [List.map_nil, lcR_nil]; exact ⟨hG acc, by simpa using h⟩
    | cons y ys ih =>
      intro acc hl hy h
      obtain ⟨σ', h1, h2, h3⟩ := hS y (hy y List.mem_cons_self)
      have hl' : acc.length + (ys.length + 1) ≤ sizeLine := by simpa using hl
      rw [List.map_cons, lcR_cons]
      refine ⟨hG acc, h1 _ (h2 _ _ ?_ (Sub.fresh hL))⟩
      cases ep : p y with
      | true =>
        refine h3 ep _ _ ?_ (Sub.fresh hL)
        rw [rd_of put_same]
        refine ⟨by omega, ?_⟩
        rw [put_put]
        refine ih _ (by simp; omega) (fun z hz => hy z (List.mem_cons_of_mem _ hz)) ?_
        simpa [ep] using h
      | false =>
        refine ih _ (by omega) (fun z hz => hy z (List.mem_cons_of_mem _ hz)) ?_
        simpa [ep] using h
  refine go xs [] (by simpa using hz) (fun _ h => h) ?_
  refine outL.fz put_same ?_
  rw [rem_put hL]
  simpa using hQ
/-- by an invariant over what has come and the heap -/
theorem lc_inv {α : Type} {G : Gd} {tg : Tg} {tt : DSt → AH → (Bool → AH → Prop) → Prop} {te : DSt → AH → Dk → Prop} {σ : DSt} {L : Addr} {Q : AH → Prop} (e : α → D) (I : List α → List D → AH → Prop) : ∀ (xs : List α) (acc : List D) {A : AH}, I xs acc A → (∀ r acc A, I r acc A → holds G A) →
    (∀ x r acc A (nx : AH → Prop), x ∈ xs → I (x :: r) acc A → (∀ acc' A', I r acc' A' → nx A') → bindT tg (e x) σ fun σ' => tt σ' A fun b A1 => match b with
      | true => te σ' A1 fun y A2 => match rd A2 L with
        | some (.lst acc) => acc.length < sizeLine ∧ nx (put A2 L (.lst (acc ++ [y])))
        | _ => False
      | false => nx A1) →
    (∀ acc A, I [] acc A → Q A) → lcR G tg tt te σ L Q (xs.map e) A
  | [], acc, A, h0, hG, _, hE => by rw [List.map_nil, lcR_nil]; exact ⟨hG _ _ _ h0, hE _ _ h0⟩
  | x :: xs, acc, A, h0, hG, hS, hE => by
    rw [List.map_cons, lcR_cons]
    exact ⟨hG _ _ _ h0, hS x xs acc A _ List.mem_cons_self h0 fun acc' A' h => lc_inv e I xs acc' h hG (fun y r acc A nx hy => hS y r acc A nx (List.mem_cons_of_mem _ hy)) hE⟩
/-- a dict comprehension that only reads; it comes out frozen -/
theorem dc_map {α : Type} {G : Gd} {tg : Tg} {tt : DSt → AH → (Bool → AH → Prop) → Prop} {tk te : DSt → AH → Dk → Prop} {σ : DSt} {L : Addr} {A : AH} {Q : Dk} (e : α → D) (p : α → Bool) (gk : α → Key) (g : α → D) (hL : A L = none) (xs : List α) (hz : xs.length ≤ sizeLine) (hG : ∀ acc, holds G (put A L (.dct acc)))
    (hS : ∀ x ∈ xs, ∃ σ', (∀ k : DSt → Prop, k σ' → bindT tg (e x) σ k) ∧ (∀ A' R, R (p x) A' → Sub A A' → tt σ' A' R) ∧ (p x = true → ∀ A' R, R (keyD (gk x)) A' → Sub A A' → tk σ' A' R) ∧ (p x = true → ∀ A' R, R (g x) A' → Sub A A' → te σ' A' R))
    (hQ : outD L (put A L (.dct (mergK [] ((xs.filter p).map fun x => (gk x, g x))))) Q) : dcR G tg tt tk te σ L (fun A2 => outD L A2 Q) (xs.map e) (put A L (.dct [])) := by
  have hset : ∀ (acc : List (Key × D)) k d, (setK acc k d).length ≤ acc.length + 1 := fun acc k d => by
    unfold setK
    split
    · simp
    · simp
  have hdk : ∀ k : Key, dkey (keyD k) = some k := fun k => by cases k <;> rfl
  have go : ∀ (ys : List α) (acc : List (Key × D)), acc.length + ys.length ≤ sizeLine → (∀ y ∈ ys, y ∈ xs) → (outD L (put A L (.dct (mergK acc ((ys.filter p).map fun x => (gk x, g x))))) Q) → dcR G tg tt tk te σ L (fun A2 => outD L A2 Q) (ys.map e) (put A L (.dct acc)) := fun ys => by
    induction ys with
    | nil => intro acc _ _ h; rw [List.map_nil, dcR_nil]; exact ⟨hG acc, by simpa [mergK] using h⟩
    | cons y ys ih =>
      intro acc hl hy h
      obtain ⟨σ', h1, h2, h3, h4⟩ := hS y (hy y List.mem_cons_self)
      have hl' : acc.length + (ys.length + 1) ≤ sizeLine := by simpa using hl
      rw [List.map_cons, dcR_cons]
      refine ⟨hG acc, h1 _ (h2 _ _ ?_ (Sub.fresh hL))⟩
      cases ep : p y with
      | true =>
        refine h3 ep _ _ (h4 ep _ _ ?_ (Sub.fresh hL)) (Sub.fresh hL)
        rw [rd_of put_same, hdk]
        refine ⟨by omega, ?_⟩
        rw [put_put]
        refine ih _ (by have := hset acc (gk y) (g y); omega) (fun z hz => hy z (List.mem_cons_of_mem _ hz)) ?_
        simpa [ep, mergK] using h
      | false =>
        refine ih _ (by omega) (fun z hz => hy z (List.mem_cons_of_mem _ hz)) ?_
        simpa [ep] using h
  exact go xs [] (by simpa using hz) (fun _ h => h) hQ
/-! ### dicts by pairs -/
theorem lookK_cons {p : Key × D} {l : List (Key × D)} {k : Key} : lookK (p :: l) k = if p.1 = k then some p.2 else lookK l k := by
  unfold lookK
  by_cases h : p.1 = k <;> simp [h]
theorem setK_new : ∀ {l : List (Key × D)} {k : Key} {d : D}, k ∉ l.map (·.1) → setK l k d = l ++ [(k, d)] := fun {l k d} h => by
  unfold setK
  rw [if_neg]
  intro q
  obtain ⟨p, hp, e⟩ := List.any_eq_true.mp q
  exact h (List.mem_map.mpr ⟨p, hp, by simpa using e⟩)
theorem setK_at {l1 l2 : List (Key × D)} {k : Key} {d d' : D} (h1 : k ∉ l1.map (·.1)) (h2 : k ∉ l2.map (·.1)) : setK (l1 ++ (k, d) :: l2) k d' = l1 ++ (k, d') :: l2 := by
  unfold setK
  rw [if_pos (by simp)]
  have same : ∀ l : List (Key × D), k ∉ l.map (·.1) → (l.map fun p => if p.1 = k then (p.1, d') else p) = l := fun l h => by
    induction l with
    | nil => rfl
    | cons p l ih =>
      have h3 : p.1 ≠ k := fun e => h (by simp [e])
      rw [List.map_cons, if_neg h3, ih fun z => h (by simp at z ⊢; exact .inr z)]
  rw [List.map_append, List.map_cons, same l1 h1, same l2 h2]
  simp
theorem mergK_new : ∀ (more acc : List (Key × D)), (acc.map (·.1) ++ more.map (·.1)).Nodup → mergK acc more = acc ++ more
  | [], acc, _ => by simp [mergK]
  | p :: more, acc, h => by
    have hp : p.1 ∉ acc.map (·.1) := fun z => by
      rw [List.nodup_append] at h
      exact h.2.2 _ z _ (by simp) rfl
    show mergK (setK acc p.1 p.2) more = _
    rw [setK_new hp, mergK_new more _ (by simpa using h)]
    simp
end Py
namespace Py
theorem all_true {α : Type} {f : α → Bool} {xs : List α} (h : ∀ x ∈ xs, f x = true) : (xs.map f).all id = true := by
  rw [List.all_eq_true]
  intro b hb
  obtain ⟨x, hx, rfl⟩ := List.mem_map.mp hb
  exact h x hx
theorem filter_yes {α : Type} {xs : List α} : xs.filter (fun _ => true) = xs := by simp
end Py
namespace Py
section
variable {α : Type} {A : AH} {ds : List D} {p : PySem.Addr} {f : List D → Option α}
theorem bl_fl : (lstD A (.fl ds)).bind f = f ds := rfl
theorem bl_ref (h : A p = some (.lst ds)) : (lstD A (.ref p)).bind f = f ds := by rw [lstD_lst h]; rfl
theorem bs_tup : (seqD A (.tup ds)).bind f = f ds := rfl
theorem bs_fl : (seqD A (.fl ds)).bind f = f ds := rfl
theorem bs_ref (h : A p = some (.lst ds)) : (seqD A (.ref p)).bind f = f ds := by rw [seqD_lst h]; rfl
end
end Py
namespace Py
open PySem
theorem lookup_apart {t u : List (Str × Fd)} (h : u.all (fun p => (t.lookup p.1).isNone) = true) {x : Str} {d : Fd} (e : u.lookup x = some d) : t.lookup x = none := by
  have mem : ∀ {l : List (Str × Fd)}, l.lookup x = some d → ∃ p ∈ l, p.1 = x := fun {l} => by
    induction l with
    | nil => intro e; cases e
    | cons a l ih =>
      intro e
      obtain ⟨y, z⟩ := a
      rw [List.lookup_cons] at e
      by_cases c : x = y
      · exact ⟨_, List.mem_cons_self, c.symm⟩
      · rw [beq_eq_false_iff_ne.mpr c] at e
        obtain ⟨p, hp, q⟩ := ih e
        exact ⟨p, List.mem_cons_of_mem _ hp, q⟩
  obtain ⟨p, hp, rfl⟩ := mem e
  have := List.all_eq_true.mp h p hp
  exact Option.isNone_iff_eq_none.mp this
end Py

namespace Py
open PySem PySem.Spec PyProof.Rows L2
/-! ### == on plain data -/
mutual
/-- no bools, no dicts -/
def nb : PyData → Bool
  | .none => true
  | .int _ => true
  | .str x => PyData.strOk x
  | .list xs => nbs xs
  | .tuple xs => nbs xs
  | .bool _ => false
  | .dict _ => false
def nbs : List PyData → Bool
  | [] => true
  | x :: xs => nb x && nbs xs
end
mutual
theorem canLay_nb : ∀ p : PyData, nb p = true → p.canLay0 = true
  | .none, _ => by simp only [PyData.canLay0]
  | .int _, _ => by simp only [PyData.canLay0]
  | .str x, h => by simpa only [PyData.canLay0, nb] using h
  | .list xs, h => by
    simp only [PyData.canLay0]
    exact canLays_nb xs (by simpa only [nb] using h)
  | .tuple xs, h => by
    simp only [PyData.canLay0]
    exact canLays_nb xs (by simpa only [nb] using h)
  | .bool _, h => by simp [nb] at h
  | .dict _, h => by simp [nb] at h
theorem canLays_nb : ∀ p : List PyData, nbs p = true → PyData.canLayAll0 p = true
  | [], _ => by simp only [PyData.canLayAll0]
  | x :: xs, h => by
    simp only [nbs, Bool.and_eq_true] at h
    simp only [PyData.canLayAll0, Bool.and_eq_true]
    exact ⟨canLay_nb x h.1, canLays_nb xs h.2⟩
end
mutual
theorem eqv_nb : ∀ p q : PyData, nb p = true → nb q = true → (PyData.eqv p q = true ↔ p = q)
  | .none, q, _, hq => by cases q <;> simp [PyData.eqv]
  | .int i, q, _, hq => by cases q <;> simp [PyData.eqv, nb] at hq ⊢
  | .str x, q, _, hq => by cases q <;> simp [PyData.eqv, nb] at hq ⊢
  | .list xs, q, hp, hq => by
    cases q with
    | list ys =>
      simp only [nb] at hp hq
      have := eqvs_nb xs ys hp hq
      simp [PyData.eqv, this]
    | _ => simp [PyData.eqv, nb] at hq ⊢
  | .tuple xs, q, hp, hq => by
    cases q with
    | tuple ys =>
      simp only [nb] at hp hq
      have := eqvs_nb xs ys hp hq
      simp [PyData.eqv, this]
    | _ => simp [PyData.eqv, nb] at hq ⊢
  | .bool _, _, h, _ => by simp [nb] at h
  | .dict _, _, h, _ => by simp [nb] at h
theorem eqvs_nb : ∀ p q : List PyData, nbs p = true → nbs q = true → (PyData.eqvAll p q = true ↔ p = q)
  | [], [], _, _ => by simp [PyData.eqvAll]
  | [], _ :: _, _, _ => by simp [PyData.eqvAll]
  | _ :: _, [], _, _ => by simp [PyData.eqvAll]
  | x :: xs, y :: ys, hp, hq => by
    simp only [nbs, Bool.and_eq_true] at hp hq
    have h1 := eqv_nb x y hp.1 hq.1
    have h2 := eqvs_nb xs ys hp.2 hq.2
    simp [PyData.eqvAll, h1, h2]
end
theorem shaped_nb {p : PyData} (h : nb p = true) (hd : p.depth ≤ 64) : SeqAt.shaped p = true := by
  unfold SeqAt.shaped
  rw [canLay_nb p h, decide_eq_true hd]
  rfl
theorem eqD_of {A : AH} {x y : D} {p q : PyData} (hs : isScal x = false ∨ isScal y = false) (hx : snap A 60 x = some p) (hy : snap A 60 y = some q) (np : nb p = true) (nq : nb q = true) (dp : p.depth ≤ 64) (dq : q.depth ≤ 64) [Decidable (p = q)] :
    eqD A x y = some (decide (p = q)) := by
  have e : eqD A x y = (match snap A 60 x, snap A 60 y with
    | some p, some q => if SeqAt.shaped p && SeqAt.shaped q then some (PyData.eqv p q) else none
    | _, _ => none) := by
    cases x <;> cases y <;> first | rfl | (rcases hs with h | h <;> cases h)
  rw [e, hx, hy]
  simp only [shaped_nb np dp, shaped_nb nq dq, Bool.and_self, if_true]
  congr 1
  have := eqv_nb p q np nq
  by_cases h : p = q
  · rw [decide_eq_true h]
    exact this.mpr h
  · rw [decide_eq_false h]
    cases e2 : PyData.eqv p q with
    | false => rfl
    | true => exact absurd (this.mp e2) h
/-! ### lists of ints -/
theorem allSome_map {α β : Type} {f : α → Option β} {g : α → β} : ∀ {l : List α}, (∀ x ∈ l, f x = some (g x)) → allSome (l.map f) = some (l.map g)
  | [], _ => rfl
  | x :: l, h => by
    have ih := allSome_map (l := l) fun y hy => h y (List.mem_cons_of_mem _ hy)
    simp only [List.map_cons, h x List.mem_cons_self, allSome, ih, Option.map_some]
theorem nbs_all : ∀ {l : List PyData}, (∀ x ∈ l, nb x = true) → nbs l = true
  | [], _ => by simp [nbs]
  | x :: l, h => by simp only [nbs, h x List.mem_cons_self, nbs_all (l := l) fun y hy => h y (List.mem_cons_of_mem _ hy), Bool.and_self]
theorem depths_le {n : Nat} : ∀ {l : List PyData}, (∀ x ∈ l, x.depth ≤ n) → PyData.depthAll l ≤ n
  | [], _ => by simp [PyData.depthAll]
  | x :: l, h => by
    have h1 := h x List.mem_cons_self
    have h2 := depths_le (l := l) fun y hy => h y (List.mem_cons_of_mem _ hy)
    simp only [PyData.depthAll]
    omega
theorem map_int_inj {ns ms : List Int} : ns.map PyData.int = ms.map PyData.int ↔ ns = ms := by
  constructor
  · intro h
    induction ns generalizing ms with
    | nil => cases ms with | nil => rfl | cons _ _ => simp at h
    | cons a l ih => cases ms with | nil => simp at h | cons b m => simp only [List.map_cons, List.cons.injEq, PyData.int.injEq] at h; rw [h.1, ih h.2]
  · rintro rfl; rfl
/-- lists of ints -/
theorem eqD_ints {A : AH} {a b : Addr} {ns ms : List Int} (ha : A a = some (.lst (ns.map .int))) (hb : A b = some (.lst (ms.map .int))) : eqD A (.ref a) (.ref b) = some (decide (ns = ms)) := by
  have sn : ∀ (c : Addr) (l : List Int), A c = some (.lst (l.map .int)) → snap A 60 (.ref c) = some (.list (l.map .int)) := fun c l h => by
    show (match getL A c with | some ds => _ | none => _) = _
    unfold getL
    rw [h]
    show (allSome ((l.map D.int).map (snap A 59))).map PyData.list = _
    rw [List.map_map]
    have q := allSome_map (f := snap A 59 ∘ D.int) (g := PyData.int) (l := l) fun x _ => rfl
    rw [q]
    rfl
  have nn : ∀ l : List Int, nb (.list (l.map .int)) = true := fun l => by
    simp only [nb]
    exact nbs_all fun x hx => by obtain ⟨i, _, rfl⟩ := List.mem_map.mp hx; simp [nb]
  have dd : ∀ l : List Int, (PyData.list (l.map .int)).depth ≤ 64 := fun l => by
    have := depths_le (n := 1) (l := l.map PyData.int) fun x hx => by obtain ⟨i, _, rfl⟩ := List.mem_map.mp hx; simp [PyData.depth]
    simp only [PyData.depth]
    omega
  haveI : Decidable (PyData.list (ns.map .int) = PyData.list (ms.map .int)) := decidable_of_iff (ns = ms) (by simp [map_int_inj])
  rw [eqD_of (.inl rfl) (sn a ns ha) (sn b ms hb) (nn _) (nn _) (dd _) (dd _)]
  congr 1
  simp [map_int_inj]

end Py

namespace Py
open PySem PySem.Spec PyProof.Rows L2
/-! ### plain values as data: what == and repr say of them -/
mutual
def toP : D → PyData
  | .non => .none
  | .bl b => .bool b
  | .int i => .int i
  | .str s => .str s
  | .tup ds => .tuple (toPs ds)
  | .fl ds => .list (toPs ds)
  | .ref _ => .none
  | .fd ks ds => .dict ((ks.map keyP).zip (toPs ds))
def toPs : List D → List PyData
  | [] => []
  | d :: ds => toP d :: toPs ds
end
def KeyOk (e : Nat) : Key → Prop
  | .inl i => i.natAbs < 10 ^ 400
  | .inr s => (s.cps.toList.all fun c => decide (c < 0x110000)) = true ∧ s.cps.size ≤ e
mutual
/-- no objects that change, no great ints; depth at most n; bulk at most b -/
inductive Good : Nat → Nat → D → Prop
  | non {n b} : Good n b .non
  | bl {n b k} : Good n b (.bl k)
  | int {n b i} : i.natAbs < 10 ^ 400 → Good n b (.int i)
  | str {n b s} : (s.cps.toList.all fun c => decide (c < 0x110000)) = true → s.cps.size ≤ b → Good n b (.str s)
  | tup {n b ds} : Goods n b ds → Good (n + 1) b (.tup ds)
  | fl {n b ds} : Goods n b ds → Good (n + 1) b (.fl ds)
  | fd {n b e c ks ds} : ks.length = ds.length → (∀ k ∈ ks, KeyOk e k) → Goods n b ds → b + (e + 1) * ds.length ≤ c → Good (n + 1) c (.fd ks ds)
inductive Goods : Nat → Nat → List D → Prop
  | nil {n b} : Goods n b []
  | cons {n b c e d ds} : Good n c d → Goods n e ds → c + 1 + e ≤ b → Goods n b (d :: ds)
end
mutual
theorem Good.mono : ∀ {n m b c : Nat} {d : D}, Good n b d → n ≤ m → b ≤ c → Good m c d
  | _, _, _, _, _, .non, _, _ => .non
  | _, _, _, _, _, .bl, _, _ => .bl
  | _, _, _, _, _, .int h, _, _ => .int h
  | _, _, _, _, _, .str h h2, _, k => .str h (Nat.le_trans h2 k)
  | _, m + 1, _, _, _, .tup h, j, k => .tup (Goods.mono h (by omega) k)
  | _, m + 1, _, _, _, .fl h, j, k => .fl (Goods.mono h (by omega) k)
  | _, m + 1, _, _, _, .fd h1 h2 h e, j, k => .fd h1 h2 (Goods.mono h (by omega) (Nat.le_refl _)) (by omega)
  | _, 0, _, _, _, .fd _ _ h _, j, k => by omega
  | _, 0, _, _, _, .tup h, j, k => by omega
  | _, 0, _, _, _, .fl h, j, k => by omega
theorem Goods.mono : ∀ {n m b c : Nat} {ds : List D}, Goods n b ds → n ≤ m → b ≤ c → Goods m c ds
  | _, _, _, _, _, .nil, _, _ => .nil
  | _, _, _, _, _, .cons h hs e, j, k => .cons (Good.mono h j (Nat.le_refl _)) (Goods.mono hs j (Nat.le_refl _)) (by omega)
end
theorem Goods.map {α : Type} {f : α → D} {n b : Nat} : ∀ {xs : List α}, (∀ x ∈ xs, Good n b (f x)) → Goods n ((b + 1) * xs.length) (xs.map f)
  | [], _ => .nil
  | x :: xs, h => .cons (h x List.mem_cons_self) (Goods.map (f := f) fun y hy => h y (List.mem_cons_of_mem _ hy)) (by rw [List.length_cons, Nat.mul_succ]; omega)
theorem Goods.of {n b : Nat} : ∀ {ds : List D}, (∀ x ∈ ds, Good n b x) → Goods n ((b + 1) * ds.length) ds := fun {ds} h => by
  have := Goods.map (f := fun d : D => d) h
  simpa using this
mutual
theorem Good.snap (A : AH) : ∀ {n b : Nat} {d : D}, Good n b d → ∀ m, n ≤ m → snapR A m d = some (toP d)
  | _, _, _, .non, _, _ => by simp only [Py.snapR, toP]
  | _, _, _, .bl, _, _ => by simp only [Py.snapR, toP]
  | _, _, _, .int _, _, _ => by simp only [Py.snapR, toP]
  | _, _, _, .str _ _, _, _ => by simp only [Py.snapR, toP]
  | _, _, _, .tup h, m + 1, hm => by simp only [Py.snapR, toP, Goods.snaps A h m (by omega)]; rfl
  | _, _, _, .fl h, m + 1, hm => by simp only [Py.snapR, toP, Goods.snaps A h m (by omega)]; rfl
  | _, _, _, .fd _ _ h _, m + 1, hm => by simp only [Py.snapR, toP, Goods.snaps A h m (by omega)]; rfl
  | _, _, _, .fd _ _ h _, 0, hm => by omega
  | _, _, _, .tup h, 0, hm => by omega
  | _, _, _, .fl h, 0, hm => by omega
theorem Goods.snaps (A : AH) : ∀ {n b : Nat} {ds : List D}, Goods n b ds → ∀ m, n ≤ m → allSome (ds.map (Py.snapR A m)) = some (toPs ds)
  | _, _, _, .nil, _, _ => by simp only [List.map_nil, allSome, toPs]
  | _, _, _, .cons h hs _, m, hm => by simp only [List.map_cons, Good.snap A h m hm, allSome, Goods.snaps A hs m hm, toPs]; rfl
end
theorem len_int {i : Int} (h : i.natAbs < 10 ^ 400) : (PyData.shown (.int i)).length ≤ 402 := by
  show (Str.ofString (toString i)).length ≤ 402
  have e : ∀ s : String, (Str.ofString s).length = s.toList.length := fun s => by rw [Str.ofString_eq_toList]; simp [Str.length]
  cases i with
  | ofNat m => exact Nat.le_trans (toString_length_le (by exact Int.ofNat_nonneg m) (k := 400) (by decide) (by have : m < 10 ^ 400 := h; show ((m : Nat) : Int) < _; exact_mod_cast this)) (by decide)
  | negSucc m =>
    have h' : m + 1 < 10 ^ 400 := h
    have e1 : (toString (Int.negSucc m)) = "-" ++ Nat.repr (m + 1) := rfl
    rw [e1, e, String.toList_append, List.length_append]
    have e2 : (Nat.repr (m + 1)).toList.length = (Nat.toDigits 10 (m + 1)).length := by unfold Nat.repr; simp
    have e3 := digits10_le (k := 400) (by decide) h'
    rw [e2]
    have e4 : ("-" : String).toList.length = 1 := by decide
    omega
theorem dict_show {n e : Nat} : ∀ {ks : List Key} {ps : List PyData}, ks.length = ps.length → (∀ k ∈ ks, KeyOk e k) → PyData.showableAll ps = true → PyData.depthAll ps ≤ n → PyData.leavesShortAll 402 ps = true →
    PyData.showableKv ((ks.map keyP).zip ps) = true ∧ PyData.depthKv ((ks.map keyP).zip ps) ≤ n ∧ PyData.leavesShortKv 402 ((ks.map keyP).zip ps) = true ∧ PyData.bulkKv ((ks.map keyP).zip ps) ≤ PyData.bulkAll ps + (e + 1) * ps.length
  | [], [], _, _, _, _, _ => by simp [PyData.showableKv, PyData.depthKv, PyData.leavesShortKv, PyData.bulkKv]
  | k :: ks, p :: ps, hl, hk, h1, h2, h3 => by
    simp only [PyData.showableAll, PyData.depthAll, PyData.leavesShortAll, Bool.and_eq_true] at h1 h2 h3
    obtain ⟨i1, i2, i3, i4⟩ := dict_show (n := n) (e := e) (ks := ks) (ps := ps) (by simpa using hl) (fun x hx => hk x (List.mem_cons_of_mem _ hx)) h1.2 (by omega) h3.2
    have kk := hk k List.mem_cons_self
    have kf : (keyP k).showable = true ∧ (keyP k).depth = 0 ∧ (keyP k).leavesShort 402 = true ∧ (keyP k).bulk ≤ e := by
      cases k with
      | inl i =>
        have kk : i.natAbs < 10 ^ 400 := kk
        refine ⟨?_, rfl, ?_, Nat.zero_le _⟩
        · simp only [keyP, PyData.showable, decide_eq_true_eq]
          exact log2_of (Nat.lt_of_lt_of_le kk (by decide +kernel)) (by decide)
        · simp only [keyP, PyData.leavesShort, decide_eq_true_eq]
          exact len_int kk
      | inr x =>
        obtain ⟨k1, k2⟩ := (show (x.cps.toList.all fun c => decide (c < 0x110000)) = true ∧ x.cps.size ≤ e from kk)
        refine ⟨rfl, rfl, ?_, k2⟩
        simp only [keyP, PyData.leavesShort, List.all_eq_true, decide_eq_true_eq] at k1 ⊢
        exact fun c hc => Nat.lt_trans (k1 c hc) (by decide)
    simp only [List.map_cons, List.zip_cons_cons, PyData.showableKv, PyData.depthKv, PyData.leavesShortKv, PyData.bulkKv, PyData.bulkAll, List.length_cons, Bool.and_eq_true]
    refine ⟨⟨⟨kf.1, h1.1⟩, i1⟩, by omega, ⟨⟨kf.2.2.1, h3.1⟩, i3⟩, ?_⟩
    have := kf.2.2.2
    rw [Nat.mul_succ]
    omega
  | [], _ :: _, hl, _, _, _, _ => by simp at hl
  | _ :: _, [], hl, _, _, _, _ => by simp at hl
theorem toPs_len : ∀ ds : List D, (toPs ds).length = ds.length
  | [] => rfl
  | _ :: ds => by simp only [toPs, List.length_cons, toPs_len ds]
mutual
theorem Good.show : ∀ {n b : Nat} {d : D}, Good n b d → (toP d).showable = true ∧ (toP d).depth ≤ n ∧ (toP d).leavesShort 402 = true ∧ (toP d).bulk ≤ b
  | _, _, _, .non => by simp [toP, PyData.showable, PyData.depth, PyData.leavesShort, PyData.bulk]
  | _, _, _, .bl => by simp [toP, PyData.showable, PyData.depth, PyData.leavesShort, PyData.bulk]
  | _, _, _, .int h => by
    refine ⟨?_, Nat.zero_le _, ?_, Nat.zero_le _⟩
    · simp only [toP, PyData.showable, decide_eq_true_eq]
      exact log2_of (Nat.lt_of_lt_of_le h (by decide +kernel)) (by decide)
    · simp only [toP, PyData.leavesShort, decide_eq_true_eq]
      exact len_int h
  | _, _, _, .str h h2 => by
    refine ⟨rfl, Nat.zero_le _, ?_, h2⟩
    simp only [toP, PyData.leavesShort, List.all_eq_true, decide_eq_true_eq] at h ⊢
    exact fun c hc => Nat.lt_trans (h c hc) (by decide)
  | _, _, _, .tup h => by
    obtain ⟨h1, h3, h4, h5⟩ := Goods.shows h
    simp only [toP, PyData.showable, PyData.depth, PyData.leavesShort, PyData.bulk]
    exact ⟨h1, by omega, h4, h5⟩
  | _, _, _, .fl h => by
    obtain ⟨h1, h3, h4, h5⟩ := Goods.shows h
    simp only [toP, PyData.showable, PyData.depth, PyData.leavesShort, PyData.bulk]
    exact ⟨h1, by omega, h4, h5⟩
  | _, _, _, .fd (ds := ds) k1 k2 h e => by
    obtain ⟨h1, h3, h4, h5⟩ := Goods.shows h
    obtain ⟨i1, i2, i3, i4⟩ := dict_show (by rw [toPs_len]; exact k1) k2 h1 h3 h4
    rw [toPs_len] at i4
    simp only [toP, PyData.showable, PyData.depth, PyData.leavesShort, PyData.bulk]
    exact ⟨i1, by omega, i3, by omega⟩
theorem Goods.shows : ∀ {n b : Nat} {ds : List D}, Goods n b ds → PyData.showableAll (toPs ds) = true ∧ PyData.depthAll (toPs ds) ≤ n ∧ PyData.leavesShortAll 402 (toPs ds) = true ∧ PyData.bulkAll (toPs ds) ≤ b
  | _, _, _, .nil => by simp [toPs, PyData.showableAll, PyData.depthAll, PyData.leavesShortAll, PyData.bulkAll]
  | _, _, _, .cons h hs e => by
    obtain ⟨h1, h3, h4, h5⟩ := Good.show h
    obtain ⟨k1, k3, k4, k5⟩ := Goods.shows hs
    simp only [toPs, PyData.showableAll, PyData.depthAll, PyData.leavesShortAll, PyData.bulkAll, Bool.and_eq_true]
    exact ⟨⟨h1, k1⟩, by omega, ⟨h4, k4⟩, by omega⟩
end
def shownD (d : D) : Str := (toP d).shown
/-- repr of a value -/
structure Rep (d : D) : Prop where
  at_ : ∀ A, snapR A 60 d = some (toP d)
  ok : (toP d).showable = true ∧ (toP d).depth ≤ 64 ∧ (toP d).shown.length ≤ sizeLine
theorem rep_of {n b : Nat} {d : D} (h : Good n b d) (hn : n ≤ 60) (hb : b ≤ 40000) : Rep d := by
  obtain ⟨h1, h3, h4, h5⟩ := h.show
  have hs := PyData.shown_le_bulk 402 (by decide) (toP d) h4
  have : (402 + 2) * (toP d).bulk ≤ (402 + 2) * 40000 := Nat.mul_le_mul_left _ (by omega)
  exact ⟨fun A => h.snap A 60 hn, h1, by omega, by rw [sizeLine_eq]; omega⟩
/-- a dict that may change, a list that may change -/
theorem snapR_dct {A : AH} {p : Addr} {kvs : List (Key × D)} {n : Nat} (h : A p = some (.dct kvs)) : snapR A (n + 1) (.ref p) = snapR A (n + 1) (.fd (kvs.map (·.1)) (kvs.map (·.2))) := by simp only [snapR, h]
theorem snapR_lst {A : AH} {p : Addr} {ds : List D} {n : Nat} (h : A p = some (.lst ds)) : snapR A (n + 1) (.ref p) = snapR A (n + 1) (.fl ds) := by simp only [snapR, h]
mutual
/-- no objects that change, no dicts, no bools, no texts of odd signs; depth at most n -/
inductive GoodE : Nat → D → Prop
  | non {n} : GoodE n .non
  | int {n i} : GoodE n (.int i)
  | str {n s} : PyData.strOk s = true → GoodE n (.str s)
  | tup {n ds} : GoodEs n ds → GoodE (n + 1) (.tup ds)
  | fl {n ds} : GoodEs n ds → GoodE (n + 1) (.fl ds)
inductive GoodEs : Nat → List D → Prop
  | nil {n} : GoodEs n []
  | cons {n d ds} : GoodE n d → GoodEs n ds → GoodEs n (d :: ds)
end
theorem GoodEs.of {n : Nat} : ∀ {ds : List D}, (∀ x ∈ ds, GoodE n x) → GoodEs n ds
  | [], _ => .nil
  | d :: ds, h => .cons (h d List.mem_cons_self) (GoodEs.of fun x hx => h x (List.mem_cons_of_mem _ hx))
theorem GoodEs.map {α : Type} {f : α → D} {n : Nat} {xs : List α} (h : ∀ x ∈ xs, GoodE n (f x)) : GoodEs n (xs.map f) := GoodEs.of fun y hy => by
  obtain ⟨x, hx, rfl⟩ := List.mem_map.mp hy
  exact h x hx
mutual
theorem GoodE.snap (A : AH) : ∀ {n : Nat} {d : D}, GoodE n d → ∀ m, n ≤ m → snap A m d = some (toP d) ∧ nb (toP d) = true ∧ (toP d).depth ≤ n
  | _, _, .non, _, _ => by simp [Py.snap, toP, nb, PyData.depth]
  | _, _, .int, _, _ => by simp [Py.snap, toP, nb, PyData.depth]
  | _, _, .str h, _, _ => by simp [Py.snap, toP, nb, PyData.depth, h]
  | _, _, .tup h, m + 1, hm => by
    obtain ⟨h1, h2, h3⟩ := GoodEs.snaps A h m (by omega)
    simp only [Py.snap, toP, h1, nb, PyData.depth]
    exact ⟨rfl, h2, by omega⟩
  | _, _, .fl h, m + 1, hm => by
    obtain ⟨h1, h2, h3⟩ := GoodEs.snaps A h m (by omega)
    simp only [Py.snap, toP, h1, nb, PyData.depth]
    exact ⟨rfl, h2, by omega⟩
  | _, _, .tup h, 0, hm => by omega
  | _, _, .fl h, 0, hm => by omega
theorem GoodEs.snaps (A : AH) : ∀ {n : Nat} {ds : List D}, GoodEs n ds → ∀ m, n ≤ m → allSome (ds.map (Py.snap A m)) = some (toPs ds) ∧ nbs (toPs ds) = true ∧ PyData.depthAll (toPs ds) ≤ n
  | _, _, .nil, _, _ => by simp [allSome, toPs, nbs, PyData.depthAll]
  | _, _, .cons h hs, m, hm => by
    obtain ⟨h1, h2, h3⟩ := GoodE.snap A h m hm
    obtain ⟨k1, k2, k3⟩ := GoodEs.snaps A hs m hm
    simp only [List.map_cons, h1, allSome, k1, toPs, nbs, h2, k2, PyData.depthAll]
    exact ⟨rfl, rfl, by omega⟩
end
mutual
theorem GoodE.inj : ∀ {n m : Nat} {d e : D}, GoodE n d → GoodE m e → toP d = toP e → d = e
  | _, _, _, _, .non, k, h => by cases k <;> simp [toP] at h ⊢
  | _, _, _, _, .int, k, h => by cases k <;> simp [toP] at h ⊢; exact h
  | _, _, _, _, .str _, k, h => by cases k <;> simp [toP] at h ⊢; exact h
  | _, _, _, _, .tup g, k, h => by
    cases k <;> simp only [toP] at h <;> try (cases h; done)
    rename_i k
    rw [GoodEs.injs g k (by simpa using h)]
  | _, _, _, _, .fl g, k, h => by
    cases k <;> simp only [toP] at h <;> try (cases h; done)
    rename_i k
    rw [GoodEs.injs g k (by simpa using h)]
theorem GoodEs.injs : ∀ {n m : Nat} {ds es : List D}, GoodEs n ds → GoodEs m es → toPs ds = toPs es → ds = es
  | _, _, _, _, .nil, k, h => by cases k <;> simp [toPs] at h ⊢
  | _, _, _, _, .cons g gs, k, h => by
    cases k with
    | nil => simp [toPs] at h
    | cons k ks =>
      simp only [toPs, List.cons.injEq] at h
      rw [GoodE.inj g k h.1, GoodEs.injs gs ks h.2]
end
/-- == of values -/
theorem eqD_good {n m : Nat} {x y : D} {A : AH} (hx : GoodE n x) (hy : GoodE m y) (hn : n ≤ 60) (hm : m ≤ 60) (b : Bool) (hb : b = true ↔ x = y) : eqD A x y = some b := by
  have gen : (match snap A 60 x, snap A 60 y with
    | some p, some q => if SeqAt.shaped p && SeqAt.shaped q then some (PyData.eqv p q) else none
    | _, _ => none) = some b := by
    obtain ⟨h1, h2, h3⟩ := hx.snap A 60 hn
    obtain ⟨k1, k2, k3⟩ := hy.snap A 60 hm
    rw [h1, k1]
    simp only [shaped_nb h2 (by omega : (toP x).depth ≤ 64), shaped_nb k2 (by omega : (toP y).depth ≤ 64), Bool.and_self, if_true]
    congr 1
    have e := eqv_nb _ _ h2 k2
    have i : toP x = toP y ↔ x = y := ⟨fun h => hx.inj hy h, fun h => by rw [h]⟩
    rw [i, ← hb] at e
    cases h : PyData.eqv (toP x) (toP y) <;> cases b <;> simp_all
  cases hx with
  | int =>
    cases hy with
    | int =>
      simp only [eqD]
      congr 1
      cases b <;> simp_all
    | _ => exact gen
  | str h =>
    cases hy with
    | str k =>
      simp only [eqD]
      congr 1
      cases b <;> simp_all
    | _ => exact gen
  | _ => cases hy <;> exact gen
/-- a list that stands at p is what it holds -/
theorem eqD_refL {A : AH} {p : Addr} {ds : List D} {y : D} (h : A p = some (.lst ds)) : eqD A (.ref p) y = eqD A (.fl ds) y := by
  have e : snap A 60 (.ref p) = snap A 60 (.fl ds) := by
    show (match getL A p with | some ds => _ | none => _) = _
    unfold getL
    rw [h]
    rfl
  have l : ∀ y, eqD A (.ref p) y = (match snap A 60 (.ref p), snap A 60 y with
    | some p, some q => if SeqAt.shaped p && SeqAt.shaped q then some (PyData.eqv p q) else none
    | _, _ => none) := fun y => by cases y <;> rfl
  have r : ∀ y, eqD A (.fl ds) y = (match snap A 60 (.fl ds), snap A 60 y with
    | some p, some q => if SeqAt.shaped p && SeqAt.shaped q then some (PyData.eqv p q) else none
    | _, _ => none) := fun y => by cases y <;> rfl
  rw [l, r, e]
end Py

namespace Py
open PySem PySem.Spec PyProof.Rows L2
/-! ### comprehensions of two clauses -/
theorem dc2_inv {α : Type} {G : Gd} {tg : Tg} {ti : DSt → AH → (List D → Gd → AH → Prop) → Prop} {tg1 : Tg} {own1 : List (Str × Nat)} {tk te : DSt → AH → Dk → Prop} {σ : DSt} {L : Addr} {Q : AH → Prop} (e : α → D) (I : List α → AH → Prop) : ∀ (xs : List α) {A : AH}, I xs A → (∀ r A, I r A → holds G A) →
    (∀ x r A (nx : AH → Prop), x ∈ xs → I (x :: r) A → (∀ A', I r A' → nx A') → bindT tg (e x) σ fun σ' => ti σ' A fun es G1 A1 => dcR G1 tg1 (fun _ A R => R true A) tk te (wipeD σ' own1) L nx es A1) →
    (∀ A, I [] A → Q A) → dc2R G tg ti tg1 own1 tk te σ L Q (xs.map e) A
  | [], A, h0, hG, _, hE => by rw [List.map_nil, dc2R_nil]; exact ⟨hG _ _ h0, hE _ h0⟩
  | x :: xs, A, h0, hG, hS, hE => by
    rw [List.map_cons, dc2R_cons]
    exact ⟨hG _ _ h0, hS x xs A _ List.mem_cons_self h0 fun A' h => dc2_inv e I xs h hG (fun y r A nx hy => hS y r A nx (List.mem_cons_of_mem _ hy)) hE⟩
theorem setK_len (acc : List (Key × D)) (k : Key) (d : D) : (setK acc k d).length ≤ acc.length + 1 := by
  unfold setK
  split <;> simp
theorem dkey_keyD : ∀ k : Key, dkey (keyD k) = some k := fun k => by cases k <;> rfl
theorem dc_go {α : Type} {G : Gd} {tg : Tg} {tk te : DSt → AH → Dk → Prop} {σ : DSt} {L : Addr} {A : AH} {Q : AH → Prop} (e : α → D) (gk : α → Key) (g : α → D) (hL : A L = none) (hG : ∀ acc, holds G (put A L (.dct acc))) : ∀ (ys : List α) (acc : List (Key × D)), acc.length + ys.length ≤ sizeLine →
    (∀ y ∈ ys, ∃ σ', (∀ k : DSt → Prop, k σ' → bindT tg (e y) σ k) ∧ (∀ A' R, R (keyD (gk y)) A' → Sub A A' → tk σ' A' R) ∧ (∀ A' R, R (g y) A' → Sub A A' → te σ' A' R)) →
    Q (put A L (.dct (mergK acc (ys.map fun y => (gk y, g y))))) → dcR G tg (fun _ A R => R true A) tk te σ L Q (ys.map e) (put A L (.dct acc))
  | [], acc, _, _, h => by rw [List.map_nil, dcR_nil]; exact ⟨hG acc, by simpa [mergK] using h⟩
  | y :: ys, acc, hl, hS, h => by
    obtain ⟨σ', h1, h2, h3⟩ := hS y List.mem_cons_self
    have hl' : acc.length + (ys.length + 1) ≤ sizeLine := by simpa using hl
    rw [List.map_cons, dcR_cons]
    refine ⟨hG acc, h1 _ ?_⟩
    refine h2 _ _ (h3 _ _ ?_ (Sub.fresh hL)) (Sub.fresh hL)
    rw [rd_of put_same, dkey_keyD]
    refine ⟨by omega, ?_⟩
    rw [put_put]
    refine dc_go e gk g hL hG ys _ (by have := setK_len acc (gk y) (g y); omega) (fun z hz => hS z (List.mem_cons_of_mem _ hz)) ?_
    simpa [mergK] using h
end Py

/-! Lines, commands, blocks: the plain functions. -/
namespace Mv
open PySem Py
abbrev Cmd := Bool × Int × Int
def wd (b : Bool) : Str := if b then "behind" else "before"
abbrev cmdD (c : Cmd) : D := .tup [.str (wd c.1), .int c.2.1, .int c.2.2]
abbrev linD (l : List Int) : D := .tup (l.map .int)
abbrev scrD (cs : List Cmd) : D := .tup (cs.map cmdD)
def VItem (i : Int) : Prop := 0 ≤ i ∧ i < 60
structure VLine (l : List Int) : Prop where
  ne : l ≠ []
  nd : l.Nodup
  it : ∀ i ∈ l, VItem i
def VCmd (c : Cmd) : Prop := VItem c.2.1 ∧ VItem c.2.2 ∧ c.2.1 ≠ c.2.2
structure VScr (cs : List Cmd) : Prop where
  pos : 1 ≤ cs.length
  len : cs.length ≤ 200
  it : ∀ c ∈ cs, VCmd c
/-- perhaps empty -/
structure WScr (cs : List Cmd) : Prop where
  len : cs.length ≤ 200
  it : ∀ c ∈ cs, VCmd c
theorem VScr.w {cs : List Cmd} (v : VScr cs) : WScr cs := ⟨v.len, v.it⟩
theorem nodup_le : ∀ (n : Nat) (l : List Int), l.Nodup → (∀ i ∈ l, 0 ≤ i ∧ i < (n : Int)) → l.length ≤ n
  | 0, [], _, _ => Nat.le_refl _
  | 0, x :: l, _, h => by have := h x (by simp); omega
  | n + 1, l, nd, h => by
    have h1 := nodup_le n (l.erase n) (nd.erase _) fun i hi => by
      have h2 := h i (List.mem_of_mem_erase hi)
      have h3 : i ≠ (n : Int) := fun e => by
        rw [e] at hi
        exact nd.not_mem_erase hi
      omega
    have h4 : l.length ≤ (l.erase n).length + 1 := by
      by_cases hm : (n : Int) ∈ l
      · rw [List.length_erase_of_mem hm]; omega
      · rw [List.erase_of_not_mem hm]; omega
    omega
theorem items_len {l : List Int} (nd : l.Nodup) (it : ∀ i ∈ l, VItem i) : l.length ≤ 60 := nodup_le 60 l nd it
theorem VLine.len {l : List Int} (h : VLine l) : l.length ≤ 60 := items_len h.nd h.it
/-! ### the moves -/
def put1 (b : Bool) (i o : Int) (r : List Int) : List Int := r.take (r.idxOf o + (if b then 1 else 0)) ++ [i] ++ r.drop (r.idxOf o + (if b then 1 else 0))
def mvd (l : List Int) (c : Cmd) : List Int := put1 c.1 c.2.1 c.2.2 (l.erase c.2.1)
def mvs (l : List Int) (cs : List Cmd) : List Int := cs.foldl mvd l
/-! ### named items -/
def allN (cs : List Cmd) : List Int := (cs.map fun c => [c.2.1, c.2.2]).flatten
def named (cs : List Cmd) : List Int := sortI (ddI (allN cs))
/-! ### blocks -/
abbrev Bl := List (Int × List Int)
abbrev blkD (B : Bl) : D := fdD (B.map fun p => (Sum.inl p.1, linD p.2))
abbrev kvB (B : Bl) : List (L2.Key × D) := B.map fun p => (Sum.inl p.1, linD p.2)
def getB (B : Bl) (i : Int) : List Int := (B.lookup i).getD [i]
def takeB (i : Int) (B : Bl) : Bl := B.map fun p => (p.1, if i ∈ p.2 then p.2.erase i else p.2)
def giveB (b : Bool) (i o : Int) (B : Bl) : Bl := B.map fun p => (p.1, if o ∈ p.2 then put1 b i o p.2 else p.2)
def stepB (B : Bl) (c : Cmd) : Bl := giveB c.1 c.2.1 c.2.2 (takeB c.2.1 B)
def startB (ns : List Int) : Bl := ns.map fun i => (i, [i])
def blocks (cs : List Cmd) : Bl := cs.foldl stepB (startB (named cs))
/-- a row's items replaced by their blocks -/
def subst (B : Bl) (l : List Int) : List Int := (l.map (getB B)).flatten
def joinB (A B : Bl) : Bl := A.map fun p => (p.1, subst B p.2)
theorem lookK_kvB (B : Bl) (i : Int) : lookK (kvB B) (.inl i) = (B.lookup i).map linD := by
  induction B with
  | nil => rfl
  | cons p B ih =>
    obtain ⟨k, r⟩ := p
    show lookK ((Sum.inl k, linD r) :: kvB B) _ = _
    rw [lookK_cons, ih, List.lookup_cons]
    by_cases h : k = i
    · subst h; simp
    · have : (i == k) = false := by simp; exact fun e => h e.symm
      rw [this, if_neg (fun z => h (Sum.inl.inj z))]
theorem getD_kvB (B : Bl) (i : Int) : (lookK (kvB B) (.inl i)).getD (linD [i]) = linD (getB B i) := by
  rw [lookK_kvB]
  unfold getB
  cases B.lookup i <;> rfl
end Mv

namespace Pr
open PySem Py
def b_is_int : Ss := (.cons (.ret (.bop true (.cons (.isi (.var 0 "value") .int) (.cons (.not (.isi (.var 0 "value") .bool)) .nil)))) .nil)
def d_is_int : Fd := ⟨1, 1, b_is_int⟩
def b_in_range : Ss := (.cons (.ret (.bop true (.cons (.call "is_int" (.cons (.var 0 "value") .nil)) (.cons (.chain .le .le (.var 1 "low") (.var 0 "value") (.var 2 "high")) .nil)))) .nil)
def d_in_range : Fd := ⟨3, 3, b_in_range⟩
def b_is_item : Ss := (.cons (.ret (.call "in_range" (.cons (.var 0 "value") (.cons (.cst (.int 0)) (.cons (.bin .sub (.gv "ITEMS") (.cst (.int 1))) .nil))))) .nil)
def d_is_item : Fd := ⟨1, 1, b_is_item⟩
def b_is_line : Ss := (.cons (.if_ (.bop false (.cons (.not (.isi (.var 0 "value") .tuple)) (.cons (.cmp .eq (.var 0 "value") (.tup .nil)) (.cons (.not (.bif .all (.cons (.lc (.call "is_item" (.cons (.var 1 "item") .nil)) (.name 1 "item") (.seq (.var 0 "value")) .nil [("item", 1)]) .nil))) .nil)))) (.cons (.ret (.cst (.bl false))) .nil) .nil) (.cons (.ret (.cmp .eq (.lset (.var 0 "value")) (.bif .len (.cons (.var 0 "value") .nil)))) .nil))
def d_is_line : Fd := ⟨1, 2, b_is_line⟩
def b_is_command : Ss := (.cons (.if_ (.bop false (.cons (.not (.isi (.var 0 "value") .tuple)) (.cons (.cmp .ne (.bif .len (.cons (.var 0 "value") .nil)) (.cst (.int 3))) .nil))) (.cons (.ret (.cst (.bl false))) .nil) .nil) (.cons (.unp [(1, "word"), (2, "item"), (3, "other")] (.var 0 "value")) (.cons (.ret (.bop true (.cons (.isi (.var 1 "word") .str) (.cons (.cmp .in_ (.var 1 "word") (.gv "WORDS")) (.cons (.call "is_item" (.cons (.var 2 "item") .nil)) (.cons (.call "is_item" (.cons (.var 3 "other") .nil)) (.cons (.cmp .ne (.var 2 "item") (.var 3 "other")) .nil))))))) .nil)))
def d_is_command : Fd := ⟨1, 4, b_is_command⟩
def b_is_script : Ss := (.cons (.if_ (.bop false (.cons (.not (.isi (.var 0 "value") .tuple)) (.cons (.not (.chain .le .le (.cst (.int 1)) (.bif .len (.cons (.var 0 "value") .nil)) (.gv "MOST_COMMANDS"))) .nil))) (.cons (.ret (.cst (.bl false))) .nil) .nil) (.cons (.ret (.bif .all (.cons (.lc (.call "is_command" (.cons (.var 1 "command") .nil)) (.name 1 "command") (.seq (.var 0 "value")) .nil [("command", 1)]) .nil))) .nil))
def d_is_script : Fd := ⟨1, 2, b_is_script⟩
def b_require_script : Ss := (.cons (.if_ (.not (.call "is_script" (.cons (.var 0 "value") .nil))) (.cons (.raise "NoScript") .nil) .nil) .nil)
def d_require_script : Fd := ⟨1, 1, b_require_script⟩
def b_named_in : Ss := (.cons (.asg 1 "found" (.lst .nil)) (.cons (.for_ (.tup [(2, "word"), (3, "item"), (4, "other")]) (.seq (.var 0 "script")) (.cons (.exp (.mth .extend (.var 1 "found") (.cons (.lst (.cons (.var 3 "item") (.cons (.var 4 "other") .nil))) .nil))) .nil) [0, 2, 3, 4]) (.cons (.ret (.sset (.var 1 "found"))) .nil)))
def d_named_in : Fd := ⟨1, 5, b_named_in⟩
def b_items_of : Ss := (.cons (.exp (.call "require_script" (.cons (.var 0 "script") .nil))) (.cons (.ret (.call "named_in" (.cons (.var 0 "script") .nil))) .nil))
def d_items_of : Fd := ⟨1, 1, b_items_of⟩
def b_require_line : Ss := (.cons (.if_ (.not (.call "is_line" (.cons (.var 0 "value") .nil))) (.cons (.raise "NoLine") .nil) .nil) .nil)
def d_require_line : Fd := ⟨1, 1, b_require_line⟩
def b_require_command : Ss := (.cons (.if_ (.not (.call "is_command" (.cons (.var 0 "value") .nil))) (.cons (.raise "NoCommand") .nil) .nil) .nil)
def d_require_command : Fd := ⟨1, 1, b_require_command⟩
def b_require_there : Ss := (.cons (.if_ (.not (.bif .all (.cons (.lc (.cmp .in_ (.var 2 "item") (.var 0 "line")) (.name 2 "item") (.seq (.var 1 "items")) .nil [("item", 2)]) .nil))) (.cons (.raise "Missing") .nil) .nil) .nil)
def d_require_there : Fd := ⟨2, 3, b_require_there⟩
def b_require_pair : Ss := (.cons (.exp (.call "require_line" (.cons (.var 0 "line") .nil))) (.cons (.exp (.call "require_script" (.cons (.var 1 "script") .nil))) (.cons (.exp (.call "require_there" (.cons (.var 0 "line") (.cons (.call "named_in" (.cons (.var 1 "script") .nil)) .nil)))) .nil)))
def d_require_pair : Fd := ⟨2, 2, b_require_pair⟩
def b_moved_in : Ss := (.cons (.unp [(2, "word"), (3, "item"), (4, "other")] (.var 1 "command")) (.cons (.asg 5 "place" (.mth .index (.var 0 "line") (.cons (.var 3 "item") .nil))) (.cons (.asg 6 "rest" (.bin .add (.slc (.var 0 "line") .no (.yes (.var 5 "place"))) (.slc (.var 0 "line") (.yes (.bin .add (.var 5 "place") (.cst (.int 1)))) .no))) (.cons (.asg 5 "place" (.bin .add (.mth .index (.var 6 "rest") (.cons (.var 4 "other") .nil)) (.bif .int (.cons (.cmp .eq (.var 2 "word") (.cst (.str "behind"))) .nil)))) (.cons (.ret (.bin .add (.bin .add (.slc (.var 6 "rest") .no (.yes (.var 5 "place"))) (.tup (.cons (.var 3 "item") .nil))) (.slc (.var 6 "rest") (.yes (.var 5 "place")) .no))) .nil)))))
def d_moved_in : Fd := ⟨2, 7, b_moved_in⟩
def b_script_in : Ss := (.cons (.for_ (.name 2 "command") (.seq (.var 1 "script")) (.cons (.asg 0 "line" (.call "moved_in" (.cons (.var 0 "line") (.cons (.var 2 "command") .nil)))) .nil) [1, 2]) (.cons (.ret (.var 0 "line")) .nil))
def d_script_in : Fd := ⟨2, 3, b_script_in⟩
def b_moved : Ss := (.cons (.exp (.call "require_line" (.cons (.var 0 "line") .nil))) (.cons (.exp (.call "require_command" (.cons (.var 1 "command") .nil))) (.cons (.exp (.call "require_there" (.cons (.var 0 "line") (.cons (.slc (.var 1 "command") (.yes (.cst (.int 1))) .no) .nil)))) (.cons (.ret (.call "moved_in" (.cons (.var 0 "line") (.cons (.var 1 "command") .nil)))) .nil))))
def d_moved : Fd := ⟨2, 2, b_moved⟩
def b_after_script : Ss := (.cons (.exp (.call "require_pair" (.cons (.var 0 "line") (.cons (.var 1 "script") .nil)))) (.cons (.ret (.call "script_in" (.cons (.var 0 "line") (.cons (.var 1 "script") .nil)))) .nil))
def d_after_script : Fd := ⟨2, 2, b_after_script⟩
def b_require_item : Ss := (.cons (.if_ (.not (.call "is_item" (.cons (.var 0 "value") .nil))) (.cons (.raise "NoItem") .nil) .nil) .nil)
def d_require_item : Fd := ⟨1, 1, b_require_item⟩
def b_moved_in_block : Ss := (.cons (.asg 4 "place" (.bin .add (.mth .index (.var 0 "block") (.cons (.var 3 "other") .nil)) (.bif .int (.cons (.cmp .eq (.var 1 "word") (.cst (.str "behind"))) .nil)))) (.cons (.ret (.bin .add (.bin .add (.slc (.var 0 "block") .no (.yes (.var 4 "place"))) (.tup (.cons (.var 2 "item") .nil))) (.slc (.var 0 "block") (.yes (.var 4 "place")) .no))) .nil))
def d_moved_in_block : Fd := ⟨4, 5, b_moved_in_block⟩
def b_blocks_in : Ss := (.cons (.asg 1 "found" (.dc (.var 2 "item") (.tup (.cons (.var 2 "item") .nil)) (.name 2 "item") (.seq (.call "named_in" (.cons (.var 0 "script") .nil))) .nil [("item", 2)])) (.cons (.for_ (.tup [(3, "word"), (2, "item"), (4, "other")]) (.seq (.var 0 "script")) (.cons (.for_ (.tup [(5, "key"), (6, "block")]) (.seq (.litems (.var 1 "found"))) (.cons (.if_ (.cmp .in_ (.var 2 "item") (.var 6 "block")) (.cons (.asg 7 "place" (.mth .index (.var 6 "block") (.cons (.var 2 "item") .nil))) (.cons (.sto (.var 1 "found") (.var 5 "key") (.bin .add (.slc (.var 6 "block") .no (.yes (.var 7 "place"))) (.slc (.var 6 "block") (.yes (.bin .add (.var 7 "place") (.cst (.int 1)))) .no))) .nil)) .nil) .nil) [0, 5, 6, 7]) (.cons (.for_ (.tup [(5, "key"), (6, "block")]) (.seq (.litems (.var 1 "found"))) (.cons (.if_ (.cmp .in_ (.var 4 "other") (.var 6 "block")) (.cons (.sto (.var 1 "found") (.var 5 "key") (.call "moved_in_block" (.cons (.var 6 "block") (.cons (.var 3 "word") (.cons (.var 2 "item") (.cons (.var 4 "other") .nil)))))) .nil) .nil) .nil) [0, 5, 6, 7]) .nil)) [0, 2, 3, 4, 5, 6, 7]) (.cons (.ret (.var 1 "found")) .nil)))
def d_blocks_in : Fd := ⟨1, 8, b_blocks_in⟩
def b_block_in : Ss := (.cons (.ret (.mth .get (.var 0 "blocks") (.cons (.var 1 "item") (.cons (.tup (.cons (.var 1 "item") .nil)) .nil)))) .nil)
def d_block_in : Fd := ⟨2, 2, b_block_in⟩
def b_sources_in : Ss := (.cons (.ret (.dc2 (.var 3 "item") (.var 1 "key") (.tup [(1, "key"), (2, "block")]) (.items (.var 0 "blocks")) (.name 3 "item") (.seq (.var 2 "block")) [("key", 1), ("block", 2), ("item", 3)] [("item", 3)])) .nil)
def d_sources_in : Fd := ⟨1, 4, b_sources_in⟩
def b_block_of : Ss := (.cons (.exp (.call "require_script" (.cons (.var 0 "script") .nil))) (.cons (.exp (.call "require_item" (.cons (.var 1 "item") .nil))) (.cons (.ret (.call "block_in" (.cons (.call "blocks_in" (.cons (.var 0 "script") .nil)) (.cons (.var 1 "item") .nil)))) .nil)))
def d_block_of : Fd := ⟨2, 2, b_block_of⟩
def b_source_of : Ss := (.cons (.exp (.call "require_script" (.cons (.var 0 "script") .nil))) (.cons (.exp (.call "require_item" (.cons (.var 1 "item") .nil))) (.cons (.ret (.mth .get (.call "sources_in" (.cons (.call "blocks_in" (.cons (.var 0 "script") .nil)) .nil)) (.cons (.var 1 "item") (.cons (.var 1 "item") .nil)))) .nil)))
def d_source_of : Fd := ⟨2, 2, b_source_of⟩
def b_blocks_of : Ss := (.cons (.exp (.call "require_script" (.cons (.var 0 "script") .nil))) (.cons (.ret (.call "blocks_in" (.cons (.var 0 "script") .nil))) .nil))
def d_blocks_of : Fd := ⟨1, 1, b_blocks_of⟩
def b_same_blocks : Ss := (.cons (.exp (.call "require_script" (.cons (.var 0 "script") .nil))) (.cons (.exp (.call "require_script" (.cons (.var 1 "other_script") .nil))) (.cons (.par [(2, "one"), (3, "two")] (.cons (.call "blocks_in" (.cons (.var 0 "script") .nil)) (.cons (.call "blocks_in" (.cons (.var 1 "other_script") .nil)) .nil))) (.cons (.ret (.bif .all (.cons (.lc (.cmp .eq (.call "block_in" (.cons (.var 2 "one") (.cons (.var 4 "item") .nil))) (.call "block_in" (.cons (.var 3 "two") (.cons (.var 4 "item") .nil)))) (.name 4 "item") (.rng1 (.gv "ITEMS")) .nil [("item", 4)]) .nil))) .nil))))
def d_same_blocks : Fd := ⟨2, 5, b_same_blocks⟩
def b_joined_in : Ss := (.cons (.asg 2 "found" (.dnil)) (.cons (.for_ (.name 3 "key") (.seq (.var 0 "blocks")) (.cons (.asg 4 "row" (.tup .nil)) (.cons (.for_ (.name 5 "item") (.seq (.idx (.var 0 "blocks") (.var 3 "key"))) (.cons (.aug 4 "row" .add (.call "block_in" (.cons (.var 1 "other") (.cons (.var 5 "item") .nil)))) .nil) [5]) (.cons (.sto (.var 2 "found") (.var 3 "key") (.var 4 "row")) .nil))) [3, 4, 5]) (.cons (.ret (.var 2 "found")) .nil)))
def d_joined_in : Fd := ⟨2, 6, b_joined_in⟩
def b_is_effect : Ss := (.cons (.if_ (.bop false (.cons (.not (.isi (.var 0 "value") .dict)) (.cons (.not (.chain .le .le (.cst (.int 1)) (.bif .len (.cons (.var 0 "value") .nil)) (.gv "ITEMS"))) (.cons (.not (.bif .all (.cons (.lc (.call "is_item" (.cons (.var 1 "key") .nil)) (.name 1 "key") (.seq (.var 0 "value")) .nil [("key", 1)]) .nil))) .nil)))) (.cons (.ret (.cst (.bl false))) .nil) .nil) (.cons (.asg 2 "items" (.lst .nil)) (.cons (.for_ (.name 3 "block") (.values (.var 0 "value")) (.cons (.if_ (.bop false (.cons (.not (.isi (.var 3 "block") .tuple)) (.cons (.not (.bif .all (.cons (.lc (.call "is_item" (.cons (.var 4 "item") .nil)) (.name 4 "item") (.seq (.var 3 "block")) .nil [("item", 4)]) .nil))) .nil))) (.cons (.ret (.cst (.bl false))) .nil) .nil) (.cons (.exp (.mth .extend (.var 2 "items") (.cons (.var 3 "block") .nil))) .nil)) [1, 3, 4]) (.cons (.ret (.cmp .eq (.bif .sorted (.cons (.var 2 "items") .nil)) (.bif .sorted (.cons (.var 0 "value") .nil)))) .nil))))
def d_is_effect : Fd := ⟨1, 5, b_is_effect⟩
def b_require_effect : Ss := (.cons (.if_ (.not (.call "is_effect" (.cons (.var 0 "value") .nil))) (.cons (.raise "NoEffect") .nil) .nil) .nil)
def d_require_effect : Fd := ⟨1, 1, b_require_effect⟩
def b_in_order : Ss := (.cons (.ret (.dc (.var 1 "key") (.idx (.var 0 "effect") (.var 1 "key")) (.name 1 "key") (.seq (.bif .sorted (.cons (.var 0 "effect") .nil))) .nil [("key", 1)])) .nil)
def d_in_order : Fd := ⟨1, 2, b_in_order⟩
def b_joined : Ss := (.cons (.exp (.call "require_effect" (.cons (.var 0 "effect") .nil))) (.cons (.exp (.call "require_effect" (.cons (.var 1 "other_effect") .nil))) (.cons (.if_ (.cmp .ne (.bif .sorted (.cons (.var 0 "effect") .nil)) (.bif .sorted (.cons (.var 1 "other_effect") .nil))) (.cons (.raise "NotAlike") .nil) .nil) (.cons (.ret (.call "in_order" (.cons (.call "joined_in" (.cons (.var 0 "effect") (.cons (.var 1 "other_effect") .nil))) .nil))) .nil))))
def d_joined : Fd := ⟨2, 2, b_joined⟩
def b_require_times : Ss := (.cons (.if_ (.not (.call "in_range" (.cons (.var 0 "value") (.cons (.var 1 "low") (.cons (.var 2 "high") .nil))))) (.cons (.raise "NoTimes") .nil) .nil) .nil)
def d_require_times : Fd := ⟨3, 3, b_require_times⟩
def b_line_by : Ss := (.cons (.asg 2 "found" (.tup .nil)) (.cons (.for_ (.name 3 "item") (.seq (.var 0 "line")) (.cons (.aug 2 "found" .add (.call "block_in" (.cons (.var 1 "blocks") (.cons (.var 3 "item") .nil)))) .nil) [0, 3]) (.cons (.ret (.var 2 "found")) .nil)))
def d_line_by : Fd := ⟨2, 4, b_line_by⟩
def b_powers : Ss := (.cons (.asg 2 "found" (.dc (.var 3 "item") (.tup (.cons (.var 3 "item") .nil)) (.name 3 "item") (.seq (.var 0 "blocks")) .nil [("item", 3)])) (.cons (.whl (.cmp .gt (.var 1 "times") (.cst (.int 0))) (.cons (.if_ (.cmp .eq (.bin .mod (.var 1 "times") (.cst (.int 2))) (.cst (.int 1))) (.cons (.asg 2 "found" (.call "joined_in" (.cons (.var 2 "found") (.cons (.var 0 "blocks") .nil)))) .nil) .nil) (.cons (.aug 1 "times" .fdiv (.cst (.int 2))) (.cons (.if_ (.cmp .gt (.var 1 "times") (.cst (.int 0))) (.cons (.asg 0 "blocks" (.call "joined_in" (.cons (.var 0 "blocks") (.cons (.var 0 "blocks") .nil)))) .nil) .nil) .nil))) [3]) (.cons (.ret (.var 2 "found")) .nil)))
def d_powers : Fd := ⟨2, 4, b_powers⟩
def b_rings_in : Ss := (.cons (.asg 1 "sources" (.call "sources_in" (.cons (.var 0 "blocks") .nil))) (.cons (.asg 2 "seen" (.dnil)) (.cons (.asg 3 "found" (.lst .nil)) (.cons (.for_ (.name 4 "start") (.seq (.bif .sorted (.cons (.var 0 "blocks") .nil))) (.cons (.asg 5 "way" (.lst .nil)) (.cons (.asg 6 "item" (.var 4 "start")) (.cons (.whl (.cmp .nin (.var 6 "item") (.var 2 "seen")) (.cons (.sto (.var 2 "seen") (.var 6 "item") (.var 4 "start")) (.cons (.exp (.mth .append (.var 5 "way") (.cons (.var 6 "item") .nil))) (.cons (.asg 6 "item" (.idx (.var 1 "sources") (.var 6 "item"))) .nil))) [0, 7, 8]) (.cons (.if_ (.bop true (.cons (.cmp .eq (.idx (.var 2 "seen") (.var 6 "item")) (.var 4 "start")) (.cons (.cmp .ne (.var 5 "way") (.lst .nil)) .nil))) (.cons (.asg 7 "ring" (.slc (.var 5 "way") (.yes (.mth .index (.var 5 "way") (.cons (.var 6 "item") .nil))) .no)) (.cons (.asg 8 "least" (.mth .index (.var 7 "ring") (.cons (.bif .min (.cons (.var 7 "ring") .nil)) .nil))) (.cons (.exp (.mth .append (.var 3 "found") (.cons (.bin .add (.slc (.var 7 "ring") (.yes (.var 8 "least")) .no) (.slc (.var 7 "ring") .no (.yes (.var 8 "least")))) .nil))) .nil))) .nil) .nil)))) [0, 4, 5, 6, 7, 8]) (.cons (.ret (.bif .sorted (.cons (.var 3 "found") .nil))) .nil)))))
def d_rings_in : Fd := ⟨1, 9, b_rings_in⟩
def b_settled_in : Ss := (.cons (.asg 1 "sources" (.call "sources_in" (.cons (.var 0 "blocks") .nil))) (.cons (.asg 2 "on_rings" (.dc2 (.var 4 "item") (.cst (.bl true)) (.name 3 "ring") (.seq (.call "rings_in" (.cons (.var 0 "blocks") .nil))) (.name 4 "item") (.seq (.var 3 "ring")) [("ring", 3), ("item", 4)] [("item", 4)])) (.cons (.asg 5 "longest" (.cst (.int 0))) (.cons (.for_ (.name 4 "item") (.seq (.var 0 "blocks")) (.cons (.asg 6 "steps" (.cst (.int 0))) (.cons (.whl (.cmp .nin (.var 4 "item") (.var 2 "on_rings")) (.cons (.asg 4 "item" (.idx (.var 1 "sources") (.var 4 "item"))) (.cons (.aug 6 "steps" .add (.cst (.int 1))) .nil)) [0, 3]) (.cons (.asg 5 "longest" (.bif .max (.cons (.var 5 "longest") (.cons (.var 6 "steps") .nil)))) .nil))) [0, 3, 4, 6]) (.cons (.ret (.var 5 "longest")) .nil)))))
def d_settled_in : Fd := ⟨1, 7, b_settled_in⟩
def b_settled_after : Ss := (.cons (.exp (.call "require_script" (.cons (.var 0 "script") .nil))) (.cons (.ret (.call "settled_in" (.cons (.call "blocks_in" (.cons (.var 0 "script") .nil)) .nil))) .nil))
def d_settled_after : Fd := ⟨1, 1, b_settled_after⟩
def b_final_blocks : Ss := (.cons (.exp (.call "require_script" (.cons (.var 0 "script") .nil))) (.cons (.asg 1 "blocks" (.call "blocks_in" (.cons (.var 0 "script") .nil))) (.cons (.ret (.bif .sorted (.cons (.lc (.var 2 "block") (.name 2 "block") (.values (.call "powers" (.cons (.var 1 "blocks") (.cons (.call "settled_in" (.cons (.var 1 "blocks") .nil)) .nil)))) (.cons (.cmp .ne (.var 2 "block") (.tup .nil)) .nil) [("block", 2)]) .nil))) .nil)))
def d_final_blocks : Fd := ⟨1, 3, b_final_blocks⟩
def b_greatest_divisor : Ss := (.cons (.whl (.cmp .gt (.var 1 "other") (.cst (.int 0))) (.cons (.par [(0, "one"), (1, "other")] (.cons (.var 1 "other") (.cons (.bin .mod (.var 0 "one") (.var 1 "other")) .nil))) .nil) []) (.cons (.ret (.var 0 "one")) .nil))
def d_greatest_divisor : Fd := ⟨2, 2, b_greatest_divisor⟩
def b_lcm_of : Ss := (.cons (.asg 1 "found" (.cst (.int 1))) (.cons (.for_ (.name 2 "number") (.seq (.var 0 "numbers")) (.cons (.asg 1 "found" (.bin .fdiv (.bin .mul (.var 1 "found") (.var 2 "number")) (.call "greatest_divisor" (.cons (.var 1 "found") (.cons (.var 2 "number") .nil))))) .nil) [0, 2]) (.cons (.ret (.var 1 "found")) .nil)))
def d_lcm_of : Fd := ⟨1, 3, b_lcm_of⟩
def b_rings_of : Ss := (.cons (.exp (.call "require_script" (.cons (.var 0 "script") .nil))) (.cons (.ret (.call "rings_in" (.cons (.call "blocks_in" (.cons (.var 0 "script") .nil)) .nil))) .nil))
def d_rings_of : Fd := ⟨1, 1, b_rings_of⟩
def b_period : Ss := (.cons (.exp (.call "require_script" (.cons (.var 0 "script") .nil))) (.cons (.ret (.call "lcm_of" (.cons (.lc (.bif .len (.cons (.var 1 "ring") .nil)) (.name 1 "ring") (.seq (.call "rings_in" (.cons (.call "blocks_in" (.cons (.var 0 "script") .nil)) .nil))) .nil [("ring", 1)]) .nil))) .nil))
def d_period : Fd := ⟨1, 2, b_period⟩
def b_sources_of : Ss := (.cons (.asg 3 "sources" (.call "sources_in" (.cons (.var 0 "blocks") .nil))) (.cons (.ret (.tup (.cons (.mth .get (.var 3 "sources") (.cons (.var 1 "item") (.cons (.var 1 "item") .nil))) (.cons (.mth .get (.var 3 "sources") (.cons (.var 2 "other") (.cons (.var 2 "other") .nil))) .nil)))) .nil))
def d_sources_of : Fd := ⟨3, 4, b_sources_of⟩
def b_relation_in : Ss := (.cons (.unp [(3, "one"), (4, "two")] (.call "sources_of" (.cons (.var 0 "blocks") (.cons (.var 1 "item") (.cons (.var 2 "other") .nil))))) (.cons (.if_ (.cmp .ne (.var 3 "one") (.var 4 "two")) (.cons (.ret (.gv "OPEN")) .nil) .nil) (.cons (.asg 5 "block" (.call "block_in" (.cons (.var 0 "blocks") (.cons (.var 3 "one") .nil)))) (.cons (.ret (.ite (.cmp .lt (.mth .index (.var 5 "block") (.cons (.var 1 "item") .nil)) (.mth .index (.var 5 "block") (.cons (.var 2 "other") .nil))) (.gv "AHEAD") (.gv "BEHIND"))) .nil))))
def d_relation_in : Fd := ⟨3, 6, b_relation_in⟩
def b_require_two : Ss := (.cons (.exp (.call "require_item" (.cons (.var 0 "item") .nil))) (.cons (.exp (.call "require_item" (.cons (.var 1 "other") .nil))) (.cons (.if_ (.cmp .eq (.var 0 "item") (.var 1 "other")) (.cons (.raise "NoItem") .nil) .nil) .nil)))
def d_require_two : Fd := ⟨2, 2, b_require_two⟩
def b_is_pair : Ss := (.cons (.if_ (.bop false (.cons (.not (.isi (.var 0 "value") .tuple)) (.cons (.cmp .ne (.bif .len (.cons (.var 0 "value") .nil)) (.cst (.int 2))) (.cons (.not (.bif .all (.cons (.lc (.call "is_item" (.cons (.var 1 "item") .nil)) (.name 1 "item") (.seq (.var 0 "value")) .nil [("item", 1)]) .nil))) .nil)))) (.cons (.ret (.cst (.bl false))) .nil) .nil) (.cons (.ret (.cmp .ne (.idx (.var 0 "value") (.cst (.int 0))) (.idx (.var 0 "value") (.cst (.int 1))))) .nil))
def d_is_pair : Fd := ⟨1, 2, b_is_pair⟩
def b_followers : Ss := (.cons (.asg 1 "direct" (.dnil)) (.cons (.for_ (.tup [(2, "item"), (3, "other")]) (.seq (.var 0 "known")) (.cons (.exp (.mth .append (.mth .setdefault (.var 1 "direct") (.cons (.var 2 "item") (.cons (.lst .nil) .nil))) (.cons (.var 3 "other") .nil))) .nil) [0, 2, 3, 4, 5, 6, 7]) (.cons (.frz 1) (.cons (.asg 4 "found" (.dnil)) (.cons (.for_ (.name 5 "start") (.seq (.var 1 "direct")) (.cons (.par [(6, "reached"), (7, "waiting")] (.cons (.dnil) (.cons (.lst (.cons (.var 5 "start") .nil)) .nil))) (.cons (.whl (.cmp .ne (.var 7 "waiting") (.lst .nil)) (.cons (.for_ (.name 2 "item") (.seq (.mth .get (.var 1 "direct") (.cons (.mth .pop (.var 7 "waiting") .nil) (.cons (.lst .nil) .nil)))) (.cons (.if_ (.cmp .nin (.var 2 "item") (.var 6 "reached")) (.cons (.sto (.var 6 "reached") (.var 2 "item") (.cst (.bl true))) (.cons (.exp (.mth .append (.var 7 "waiting") (.cons (.var 2 "item") .nil))) .nil)) .nil) .nil) [0, 2, 3]) .nil) [0, 2, 3]) (.cons (.sto (.var 4 "found") (.var 5 "start") (.bif .list (.cons (.var 6 "reached") .nil))) .nil))) [0, 2, 3, 5, 6, 7]) (.cons (.ret (.var 4 "found")) .nil))))))
def d_followers : Fd := ⟨1, 8, b_followers⟩
def b_require_pairs : Ss := (.cons (.if_ (.bop false (.cons (.not (.isi (.var 0 "value") .tuple)) (.cons (.not (.bif .all (.cons (.lc (.call "is_pair" (.cons (.var 1 "pair") .nil)) (.name 1 "pair") (.seq (.var 0 "value")) .nil [("pair", 1)]) .nil))) .nil))) (.cons (.raise "NoPairs") .nil) .nil) (.cons (.if_ (.bif .any (.cons (.lc (.cmp .in_ (.var 2 "item") (.var 3 "reached")) (.tup [(2, "item"), (3, "reached")]) (.items (.call "followers" (.cons (.var 0 "value") .nil))) .nil [("item", 2), ("reached", 3)]) .nil)) (.cons (.raise "NoPairs") .nil) .nil) .nil))
def d_require_pairs : Fd := ⟨1, 4, b_require_pairs⟩
def b_ways : Ss := (.cons (.asg 2 "found" (.cst (.int 1))) (.cons (.for_ (.name 3 "factor") (.rng2 (.bin .add (.var 1 "sources") (.cst (.int 1))) (.bin .add (.bin .add (.var 1 "sources") (.var 0 "others")) (.cst (.int 1)))) (.cons (.aug 2 "found" .mul (.var 3 "factor")) .nil) [0, 1, 3]) (.cons (.ret (.var 2 "found")) .nil)))
def d_ways : Fd := ⟨2, 4, b_ways⟩
def b_pieces_in : Ss := (.cons (.asg 2 "heads" (.dc (.idx (.call "block_in" (.cons (.var 1 "blocks") (.cons (.var 3 "item") .nil))) (.cst (.int 0))) (.var 3 "item") (.name 3 "item") (.seq (.var 0 "line")) (.cons (.cmp .ne (.call "block_in" (.cons (.var 1 "blocks") (.cons (.var 3 "item") .nil))) (.tup .nil)) .nil) [("item", 3)])) (.cons (.asg 4 "found" (.lst .nil)) (.cons (.asg 5 "place" (.cst (.int 0))) (.cons (.whl (.cmp .lt (.var 5 "place") (.bif .len (.cons (.var 0 "line") .nil))) (.cons (.asg 3 "item" (.mth .get (.var 2 "heads") (.cons (.idx (.var 0 "line") (.var 5 "place")) .nil))) (.cons (.if_ (.bop false (.cons (.cmp .is_ (.var 3 "item") (.cst .non)) (.cons (.cmp .ne (.slc (.var 0 "line") (.yes (.var 5 "place")) (.yes (.bin .add (.var 5 "place") (.bif .len (.cons (.call "block_in" (.cons (.var 1 "blocks") (.cons (.var 3 "item") .nil))) .nil))))) (.call "block_in" (.cons (.var 1 "blocks") (.cons (.var 3 "item") .nil)))) .nil))) (.cons (.ret (.cst .non)) .nil) .nil) (.cons (.exp (.mth .append (.var 4 "found") (.cons (.var 3 "item") .nil))) (.cons (.aug 5 "place" .add (.bif .len (.cons (.call "block_in" (.cons (.var 1 "blocks") (.cons (.var 3 "item") .nil))) .nil))) .nil)))) [3]) (.cons (.ret (.var 4 "found")) .nil)))))
def d_pieces_in : Fd := ⟨2, 6, b_pieces_in⟩
def b_count_in : Ss := (.cons (.asg 2 "pieces" (.call "pieces_in" (.cons (.var 0 "line") (.cons (.var 1 "blocks") .nil)))) (.cons (.ret (.ite (.cmp .is_ (.var 2 "pieces") (.cst .non)) (.cst (.int 0)) (.call "ways" (.cons (.bin .sub (.bif .len (.cons (.var 0 "line") .nil)) (.bif .len (.cons (.var 2 "pieces") .nil))) (.cons (.bif .len (.cons (.var 2 "pieces") .nil)) .nil))))) .nil))
def d_count_in : Fd := ⟨2, 3, b_count_in⟩
def b_count_starts : Ss := (.cons (.exp (.call "require_run" (.cons (.var 0 "line") (.cons (.var 1 "script") (.cons (.var 2 "times") .nil))))) (.cons (.ret (.call "count_in" (.cons (.var 0 "line") (.cons (.call "powers" (.cons (.call "blocks_in" (.cons (.var 1 "script") .nil)) (.cons (.var 2 "times") .nil))) .nil)))) .nil))
def d_count_starts : Fd := ⟨3, 3, b_count_starts⟩
def b_nth_start : Ss := (.cons (.exp (.call "require_run" (.cons (.var 0 "line") (.cons (.var 1 "script") (.cons (.var 3 "times") .nil))))) (.cons (.asg 4 "blocks" (.call "powers" (.cons (.call "blocks_in" (.cons (.var 1 "script") .nil)) (.cons (.var 3 "times") .nil)))) (.cons (.if_ (.not (.call "in_range" (.cons (.var 2 "number") (.cons (.cst (.int 0)) (.cons (.bin .sub (.call "count_in" (.cons (.var 0 "line") (.cons (.var 4 "blocks") .nil))) (.cst (.int 1))) .nil))))) (.cons (.raise "NoNumber") .nil) .nil) (.cons (.asg 5 "pieces" (.call "pieces_in" (.cons (.var 0 "line") (.cons (.var 4 "blocks") .nil)))) (.cons (.asg 6 "others" (.bif .sorted (.cons (.lc (.var 7 "item") (.name 7 "item") (.seq (.var 0 "line")) (.cons (.cmp .nin (.var 7 "item") (.var 5 "pieces")) .nil) [("item", 7)]) .nil))) (.cons (.asg 8 "found" (.lst .nil)) (.cons (.whl (.bop false (.cons (.cmp .ne (.var 5 "pieces") (.lst .nil)) (.cons (.cmp .ne (.var 6 "others") (.lst .nil)) .nil))) (.cons (.for_ (.name 7 "item") (.seq (.bif .sorted (.cons (.bin .add (.var 6 "others") (.slc (.var 5 "pieces") .no (.yes (.cst (.int 1))))) .nil))) (.cons (.asg 9 "is_piece" (.cmp .nin (.var 7 "item") (.var 6 "others"))) (.cons (.asg 10 "many" (.call "ways" (.cons (.bin .sub (.bif .len (.cons (.var 6 "others") .nil)) (.bif .int (.cons (.not (.var 9 "is_piece")) .nil))) (.cons (.bin .sub (.bif .len (.cons (.var 5 "pieces") .nil)) (.bif .int (.cons (.var 9 "is_piece") .nil))) .nil)))) (.cons (.if_ (.cmp .lt (.var 2 "number") (.var 10 "many")) (.cons (.brk) .nil) .nil) (.cons (.aug 2 "number" .sub (.var 10 "many")) .nil)))) [0, 1, 3, 4, 10]) (.cons (.wipe [0, 1, 3, 4, 10]) (.cons (.exp (.mth .append (.var 8 "found") (.cons (.var 7 "item") .nil))) (.cons (.if_ (.var 9 "is_piece") (.cons (.asg 5 "pieces" (.slc (.var 5 "pieces") (.yes (.cst (.int 1))) .no)) .nil) (.cons (.exp (.mth .remove (.var 6 "others") (.cons (.var 7 "item") .nil))) .nil)) .nil)))) [0, 1, 3, 4, 10]) (.cons (.wipe [0, 1, 3, 4, 10]) (.cons (.ret (.bif .tuple (.cons (.var 8 "found") .nil))) .nil)))))))))
def d_nth_start : Fd := ⟨4, 11, b_nth_start⟩
def b_start_number : Ss := (.cons (.exp (.call "require_run" (.cons (.var 0 "line") (.cons (.var 1 "script") (.cons (.var 2 "times") .nil))))) (.cons (.asg 3 "blocks" (.call "powers" (.cons (.call "blocks_in" (.cons (.var 1 "script") .nil)) (.cons (.var 2 "times") .nil)))) (.cons (.asg 4 "kept" (.lc (.var 5 "key") (.name 5 "key") (.seq (.var 0 "line")) (.cons (.cmp .ne (.call "block_in" (.cons (.var 3 "blocks") (.cons (.var 5 "key") .nil))) (.tup .nil)) .nil) [("key", 5)])) (.cons (.asg 6 "others" (.lc (.var 7 "item") (.name 7 "item") (.seq (.var 0 "line")) (.cons (.cmp .nin (.var 7 "item") (.var 4 "kept")) .nil) [("item", 7)])) (.cons (.asg 8 "found" (.cst (.int 0))) (.cons (.for_ (.name 7 "item") (.seq (.var 0 "line")) (.cons (.for_ (.name 9 "lesser") (.seq (.bin .add (.var 6 "others") (.slc (.var 4 "kept") .no (.yes (.cst (.int 1)))))) (.cons (.if_ (.cmp .lt (.var 9 "lesser") (.var 7 "item")) (.cons (.asg 10 "is_piece" (.cmp .nin (.var 9 "lesser") (.var 6 "others"))) (.cons (.aug 8 "found" .add (.call "ways" (.cons (.bin .sub (.bif .len (.cons (.var 6 "others") .nil)) (.bif .int (.cons (.not (.var 10 "is_piece")) .nil))) (.cons (.bin .sub (.bif .len (.cons (.var 4 "kept") .nil)) (.bif .int (.cons (.var 10 "is_piece") .nil))) .nil)))) .nil)) .nil) .nil) [0, 1, 2, 3, 5, 9, 10]) (.cons (.if_ (.cmp .in_ (.var 7 "item") (.var 6 "others")) (.cons (.exp (.mth .remove (.var 6 "others") (.cons (.var 7 "item") .nil))) .nil) (.cons (.asg 4 "kept" (.slc (.var 4 "kept") (.yes (.cst (.int 1))) .no)) .nil)) .nil)) [0, 1, 2, 3, 5, 7, 9, 10]) (.cons (.ret (.var 8 "found")) .nil)))))))
def d_start_number : Fd := ⟨3, 11, b_start_number⟩
def b_bare_rings : Ss := (.cons (.asg 1 "sources" (.call "sources_in" (.cons (.var 0 "effect") .nil))) (.cons (.asg 2 "found" (.lst .nil)) (.cons (.asg 3 "seen" (.dnil)) (.cons (.for_ (.name 4 "start") (.seq (.bif .sorted (.cons (.var 0 "effect") .nil))) (.cons (.asg 5 "ring" (.lst .nil)) (.cons (.asg 6 "item" (.var 4 "start")) (.cons (.whl (.bop true (.cons (.cmp .nin (.var 6 "item") (.var 3 "seen")) (.cons (.cmp .ne (.idx (.var 0 "effect") (.var 6 "item")) (.tup (.cons (.var 6 "item") .nil))) (.cons (.cmp .eq (.bif .len (.cons (.idx (.var 0 "effect") (.var 6 "item")) .nil)) (.cst (.int 1))) .nil)))) (.cons (.sto (.var 3 "seen") (.var 6 "item") (.cst (.bl true))) (.cons (.exp (.mth .append (.var 5 "ring") (.cons (.var 6 "item") .nil))) (.cons (.asg 6 "item" (.idx (.var 1 "sources") (.var 6 "item"))) .nil))) []) (.cons (.if_ (.bop true (.cons (.cmp .ne (.var 5 "ring") (.lst .nil)) (.cons (.cmp .eq (.var 6 "item") (.var 4 "start")) .nil))) (.cons (.exp (.mth .append (.var 2 "found") (.cons (.var 5 "ring") .nil))) .nil) .nil) .nil)))) [4, 5, 6]) (.cons (.ret (.var 2 "found")) .nil)))))
def d_bare_rings : Fd := ⟨1, 7, b_bare_rings⟩
def b_is_possible : Ss := (.cons (.exp (.call "require_effect" (.cons (.var 0 "effect") .nil))) (.cons (.ret (.call "possible_in" (.cons (.var 0 "effect") .nil))) .nil))
def d_is_possible : Fd := ⟨1, 1, b_is_possible⟩
def b_require_possible : Ss := (.cons (.exp (.call "require_effect" (.cons (.var 0 "effect") .nil))) (.cons (.if_ (.not (.call "possible_in" (.cons (.var 0 "effect") .nil))) (.cons (.raise "Impossible") .nil) .nil) .nil))
def d_require_possible : Fd := ⟨1, 1, b_require_possible⟩
def b_fewest_commands : Ss := (.cons (.exp (.call "require_possible" (.cons (.var 0 "effect") .nil))) (.cons (.ret (.bif .len (.cons (.call "plan_in" (.cons (.var 0 "effect") .nil)) .nil))) .nil))
def d_fewest_commands : Fd := ⟨1, 1, b_fewest_commands⟩
def b_plan_for : Ss := (.cons (.exp (.call "require_possible" (.cons (.var 0 "effect") .nil))) (.cons (.ret (.call "plan_in" (.cons (.var 0 "effect") .nil))) .nil))
def d_plan_for : Fd := ⟨1, 1, b_plan_for⟩
def b_has_effect : Ss := (.cons (.exp (.call "require_script" (.cons (.var 0 "script") .nil))) (.cons (.exp (.call "require_effect" (.cons (.var 1 "effect") .nil))) (.cons (.if_ (.not (.bif .all (.cons (.lc (.cmp .in_ (.var 2 "item") (.var 1 "effect")) (.name 2 "item") (.seq (.call "named_in" (.cons (.var 0 "script") .nil))) .nil [("item", 2)]) .nil))) (.cons (.ret (.cst (.bl false))) .nil) .nil) (.cons (.asg 3 "blocks" (.call "blocks_in" (.cons (.var 0 "script") .nil))) (.cons (.ret (.bif .all (.cons (.lc (.cmp .eq (.call "block_in" (.cons (.var 3 "blocks") (.cons (.var 2 "item") .nil))) (.var 4 "block")) (.tup [(2, "item"), (4, "block")]) (.items (.var 1 "effect")) .nil [("item", 2), ("block", 4)]) .nil))) .nil)))))
def d_has_effect : Fd := ⟨2, 5, b_has_effect⟩
def b_count_effects : Ss := (.cons (.if_ (.not (.call "in_range" (.cons (.var 0 "size") (.cons (.cst (.int 1)) (.cons (.gv "ITEMS") .nil))))) (.cons (.raise "NoSize") .nil) .nil) (.cons (.unp [(1, "arrangements"), (2, "permutations")] (.tup (.cons (.cst (.int 1)) (.cons (.cst (.int 1)) .nil)))) (.cons (.for_ (.name 3 "factor") (.rng2 (.var 0 "size") (.bin .mul (.cst (.int 2)) (.var 0 "size"))) (.cons (.aug 1 "arrangements" .mul (.var 3 "factor")) .nil) [3]) (.cons (.for_ (.name 3 "factor") (.rng2 (.cst (.int 2)) (.bin .add (.var 0 "size") (.cst (.int 1)))) (.cons (.aug 2 "permutations" .mul (.var 3 "factor")) .nil) [0, 3]) (.cons (.ret (.bin .add (.bin .sub (.var 1 "arrangements") (.var 2 "permutations")) (.cst (.int 1)))) .nil)))))
def d_count_effects : Fd := ⟨1, 4, b_count_effects⟩
def b_require_alike : Ss := (.cons (.exp (.call "require_line" (.cons (.var 0 "line") .nil))) (.cons (.exp (.call "require_line" (.cons (.var 1 "target") .nil))) (.cons (.if_ (.cmp .ne (.bif .sorted (.cons (.var 0 "line") .nil)) (.bif .sorted (.cons (.var 1 "target") .nil))) (.cons (.raise "NotAlike") .nil) .nil) .nil)))
def d_require_alike : Fd := ⟨2, 2, b_require_alike⟩
def b_fewest_moves : Ss := (.cons (.exp (.call "require_alike" (.cons (.var 0 "line") (.cons (.var 1 "target") .nil)))) (.cons (.ret (.bin .sub (.bif .len (.cons (.var 0 "line") .nil)) (.bif .len (.cons (.call "longest_kept" (.cons (.var 0 "line") (.cons (.var 1 "target") .nil))) .nil)))) .nil))
def d_fewest_moves : Fd := ⟨2, 2, b_fewest_moves⟩
def b_moves_for : Ss := (.cons (.exp (.call "require_alike" (.cons (.var 0 "line") (.cons (.var 1 "target") .nil)))) (.cons (.asg 2 "kept" (.call "longest_kept" (.cons (.var 0 "line") (.cons (.var 1 "target") .nil)))) (.cons (.asg 3 "found" (.lst .nil)) (.cons (.for_ (.tup [(4, "place"), (5, "item")]) (.enum (.var 1 "target")) (.cons (.if_ (.cmp .nin (.var 5 "item") (.var 2 "kept")) (.cons (.exp (.mth .append (.var 3 "found") (.cons (.ite (.cmp .gt (.var 4 "place") (.cst (.int 0))) (.tup (.cons (.cst (.str "behind")) (.cons (.var 5 "item") (.cons (.idx (.var 1 "target") (.bin .sub (.var 4 "place") (.cst (.int 1)))) .nil)))) (.tup (.cons (.cst (.str "before")) (.cons (.var 5 "item") (.cons (.idx (.var 2 "kept") (.cst (.int 0))) .nil))))) .nil))) .nil) .nil) .nil) [0, 4, 5]) (.cons (.ret (.bif .tuple (.cons (.var 3 "found") .nil))) .nil)))))
def d_moves_for : Fd := ⟨2, 6, b_moves_for⟩
def b_is_friends : Ss := (.cons (.if_ (.bop false (.cons (.not (.isi (.var 0 "value") .dict)) (.cons (.not (.chain .le .le (.cst (.int 1)) (.bif .len (.cons (.var 0 "value") .nil)) (.gv "MOST_KEYS"))) (.cons (.not (.bif .all (.cons (.lc (.call "is_item" (.cons (.var 1 "item") .nil)) (.name 1 "item") (.seq (.var 0 "value")) .nil [("item", 1)]) .nil))) .nil)))) (.cons (.ret (.cst (.bl false))) .nil) .nil) (.cons (.for_ (.tup [(1, "item"), (2, "friend")]) (.items (.var 0 "value")) (.cons (.if_ (.bop true (.cons (.cmp .isn (.var 2 "friend") (.cst .non)) (.cons (.bop false (.cons (.not (.call "is_item" (.cons (.var 2 "friend") .nil))) (.cons (.cmp .nin (.var 2 "friend") (.var 0 "value")) (.cons (.cmp .eq (.var 2 "friend") (.var 1 "item")) .nil)))) .nil))) (.cons (.ret (.cst (.bl false))) .nil) .nil) .nil) [1, 2]) (.cons (.ret (.cst (.bl true))) .nil)))
def d_is_friends : Fd := ⟨1, 3, b_is_friends⟩
def b_require_friends : Ss := (.cons (.if_ (.not (.call "is_friends" (.cons (.var 0 "value") .nil))) (.cons (.raise "NoFriends") .nil) .nil) .nil)
def d_require_friends : Fd := ⟨1, 1, b_require_friends⟩
def b_commands_of : Ss := (.cons (.ret (.bif .tuple (.cons (.lc (.tup (.cons (.cst (.str "behind")) (.cons (.var 1 "item") (.cons (.idx (.var 0 "friends") (.var 1 "item")) .nil)))) (.name 1 "item") (.seq (.bif .sorted (.cons (.var 0 "friends") .nil))) (.cons (.cmp .isn (.idx (.var 0 "friends") (.var 1 "item")) (.cst .non)) .nil) [("item", 1)]) .nil))) .nil)
def d_commands_of : Fd := ⟨1, 2, b_commands_of⟩
def b_day_script : Ss := (.cons (.exp (.call "require_friends" (.cons (.var 0 "friends") .nil))) (.cons (.ret (.call "commands_of" (.cons (.var 0 "friends") .nil))) .nil))
def d_day_script : Fd := ⟨1, 1, b_day_script⟩
def b_count_final : Ss := (.cons (.exp (.call "require_friends" (.cons (.var 0 "friends") .nil))) (.cons (.asg 1 "found" (.cst (.int 0))) (.cons (.for_ (.tup [(2, "item"), (3, "friend")]) (.items (.var 0 "friends")) (.cons (.asg 4 "here" (.var 3 "friend")) (.cons (.for_ (.name 5 "turn") (.rng1 (.bif .len (.cons (.var 0 "friends") .nil))) (.cons (.if_ (.bop true (.cons (.cmp .isn (.var 4 "here") (.cst .non)) (.cons (.cmp .ne (.var 4 "here") (.var 2 "item")) .nil))) (.cons (.asg 4 "here" (.idx (.var 0 "friends") (.var 4 "here"))) .nil) .nil) .nil) [5]) (.cons (.if_ (.bop false (.cons (.cmp .is_ (.var 3 "friend") (.cst .non)) (.cons (.bop true (.cons (.cmp .eq (.var 4 "here") (.var 2 "item")) (.cons (.cmp .gt (.var 3 "friend") (.var 2 "item")) .nil))) .nil))) (.cons (.aug 1 "found" .add (.cst (.int 1))) .nil) .nil) .nil))) [2, 3, 4, 5]) (.cons (.ret (.var 1 "found")) .nil))))
def d_count_final : Fd := ⟨1, 6, b_count_final⟩
def b_days_needed : Ss := (.cons (.exp (.call "require_friends" (.cons (.var 0 "friends") .nil))) (.cons (.ret (.call "settled_in" (.cons (.call "blocks_in" (.cons (.call "commands_of" (.cons (.var 0 "friends") .nil)) .nil)) .nil))) .nil))
def d_days_needed : Fd := ⟨1, 1, b_days_needed⟩
def b_day_period : Ss := (.cons (.exp (.call "require_friends" (.cons (.var 0 "friends") .nil))) (.cons (.ret (.call "lcm_of" (.cons (.lc (.bif .len (.cons (.var 1 "ring") .nil)) (.name 1 "ring") (.seq (.call "rings_in" (.cons (.call "blocks_in" (.cons (.call "commands_of" (.cons (.var 0 "friends") .nil)) .nil)) .nil))) .nil [("ring", 1)]) .nil))) .nil))
def d_day_period : Fd := ⟨1, 2, b_day_period⟩
def b__wall : Ss := (.cons (.whl (.cst (.bl true)) (.cons (.pass) .nil) [0]) .nil)
def d__wall : Fd := ⟨1, 1, b__wall⟩
def b_is_operation : Ss := (.cons (.if_ (.bop false (.cons (.not (.isi (.var 0 "value") .tuple)) (.cons (.cmp .eq (.var 0 "value") (.tup .nil)) (.cons (.not (.isi (.idx (.var 0 "value") (.cst (.int 0))) .str)) .nil)))) (.cons (.ret (.cst (.bl false))) .nil) .nil) (.cons (.ret (.bop true (.cons (.cmp .in_ (.idx (.var 0 "value") (.cst (.int 0))) (.gv "ITEMS_OF")) (.cons (.cmp .eq (.bif .len (.cons (.var 0 "value") .nil)) (.bin .add (.cst (.int 1)) (.idx (.gv "ITEMS_OF") (.idx (.var 0 "value") (.cst (.int 0)))))) .nil)))) .nil))
def d_is_operation : Fd := ⟨1, 1, b_is_operation⟩
def b_parse_number : Ss := (.cons (.if_ (.bop false (.cons (.not (.chain .le .le (.cst (.int 1)) (.bif .len (.cons (.var 0 "digits") .nil)) (.gv "MOST_DIGITS"))) (.cons (.not (.bif .all (.cons (.lc (.cmp .in_ (.var 1 "digit") (.gv "DIGITS")) (.name 1 "digit") (.seq (.var 0 "digits")) .nil [("digit", 1)]) .nil))) .nil))) (.cons (.ret (.cst .non)) .nil) .nil) (.cons (.ret (.ite (.bop false (.cons (.cmp .eq (.var 0 "digits") (.cst (.str "0"))) (.cons (.cmp .ne (.idx (.var 0 "digits") (.cst (.int 0))) (.cst (.str "0"))) .nil))) (.bif .int (.cons (.var 0 "digits") .nil)) (.cst .non))) .nil))
def d_parse_number : Fd := ⟨1, 2, b_parse_number⟩
def b_need_text : Ss := (.cons (.if_ (.not (.isi (.var 0 "value") .str)) (.cons (.raise "NoText") .nil) .nil) .nil)
def d_need_text : Fd := ⟨1, 1, b_need_text⟩
def b_read_command : Ss := (.cons (.asg 1 "command" (.call "parse_command" (.cons (.var 0 "text") .nil))) (.cons (.if_ (.cmp .is_ (.var 1 "command") (.cst .non)) (.cons (.raise "NoText") .nil) .nil) (.cons (.ret (.var 1 "command")) .nil)))
def d_read_command : Fd := ⟨1, 2, b_read_command⟩
def table : List (Str × Fd) := [tp "is_int" d_is_int, tp "in_range" d_in_range, tp "is_item" d_is_item, tp "is_line" d_is_line, tp "is_command" d_is_command, tp "is_script" d_is_script, tp "require_script" d_require_script, tp "named_in" d_named_in, tp "items_of" d_items_of, tp "require_line" d_require_line, tp "require_command" d_require_command, tp "require_there" d_require_there, tp "require_pair" d_require_pair, tp "moved_in" d_moved_in, tp "script_in" d_script_in, tp "moved" d_moved, tp "after_script" d_after_script, tp "require_item" d_require_item, tp "moved_in_block" d_moved_in_block, tp "blocks_in" d_blocks_in, tp "block_in" d_block_in, tp "sources_in" d_sources_in, tp "block_of" d_block_of, tp "source_of" d_source_of, tp "blocks_of" d_blocks_of, tp "same_blocks" d_same_blocks, tp "joined_in" d_joined_in, tp "is_effect" d_is_effect, tp "require_effect" d_require_effect, tp "in_order" d_in_order, tp "joined" d_joined, tp "require_times" d_require_times, tp "line_by" d_line_by, tp "powers" d_powers, tp "rings_in" d_rings_in, tp "settled_in" d_settled_in, tp "settled_after" d_settled_after, tp "final_blocks" d_final_blocks, tp "greatest_divisor" d_greatest_divisor, tp "lcm_of" d_lcm_of, tp "rings_of" d_rings_of, tp "period" d_period, tp "sources_of" d_sources_of, tp "relation_in" d_relation_in, tp "require_two" d_require_two, tp "is_pair" d_is_pair, tp "followers" d_followers, tp "require_pairs" d_require_pairs, tp "ways" d_ways, tp "pieces_in" d_pieces_in, tp "count_in" d_count_in, tp "count_starts" d_count_starts, tp "nth_start" d_nth_start, tp "start_number" d_start_number, tp "bare_rings" d_bare_rings, tp "is_possible" d_is_possible, tp "require_possible" d_require_possible, tp "fewest_commands" d_fewest_commands, tp "plan_for" d_plan_for, tp "has_effect" d_has_effect, tp "count_effects" d_count_effects, tp "require_alike" d_require_alike, tp "fewest_moves" d_fewest_moves, tp "moves_for" d_moves_for, tp "is_friends" d_is_friends, tp "require_friends" d_require_friends, tp "commands_of" d_commands_of, tp "day_script" d_day_script, tp "count_final" d_count_final, tp "days_needed" d_days_needed, tp "day_period" d_day_period, tp "_wall" d__wall, tp "is_operation" d_is_operation, tp "parse_number" d_parse_number, tp "need_text" d_need_text, tp "read_command" d_read_command]
def cons : List (Str × D) := [cp "ITEMS" (.int 60), cp "MOST_COMMANDS" (.int 200), cp "WORDS" (.tup [.str "behind", .str "before"]), cp "MOST_TIMES" (.int 1000000000000000000000000000000), cp "AHEAD" (.str "ahead"), cp "BEHIND" (.str "behind"), cp "OPEN" (.str "open"), cp "MOST_KEYS" (.int 60), cp "MOST_TIMES_repeats" (.int 1000000000000000000000000000000), cp "MOST_TIMES_friends" (.int 1000000000000000000000000000000), cp "ITEMS_OF" (.fd [.inr "behind", .inr "before", .inr "run", .inr "put", .inr "take"] [.int 2, .int 2, .int 2, .int 1, .int 1]), cp "MOST_TIMES_live" (.int 1000000000000000000000000000000), cp "DIGITS" (.str "0123456789"), cp "MOST_DIGITS" (.int 31), cp "SIGNS" (.fd [.inr "behind", .inr "before"] [.str ">", .str "<"]), cp "EMPTY" (.str "-"), cp "WITH_TEXT" (.tup [.str "line", .str "script", .str "move"]), cp "FORMS" (.fd [.inr "run", .inr "put", .inr "take", .inr "undo", .inr "show", .inr "after", .inr "block", .inr "relation", .inr "settled", .inr "period", .inr "starts"] [.int 1, .int 1, .int 1, .int 0, .int 0, .int 1, .int 1, .int 2, .int 0, .int 0, .int 0]), cp "WITH_LINE" (.tup [.str "move", .str "run", .str "put", .str "take", .str "undo", .str "show", .str "after", .str "starts"]), cp "WITH_SCRIPT" (.tup [.str "run", .str "after", .str "block", .str "relation", .str "settled", .str "period", .str "starts"])]
/-- a table that holds these -/
class Has (t : Tb) : Prop where
  h : ∀ x d, table.lookup x = some d → t.T x = some d
  c : ∀ x d, cons.lookup x = some d → t.C x = some d
theorem c_ITEMS {t : Tb} [h : Has t] : t.C "ITEMS" = some (.int 60) := h.c _ _ (by rfl)
theorem g_ITEMS {t : Tb} {cal : Cal} {sub : Str → Str → Bool} [h : Has t] : GEnv.con ⟨cal, t.C, sub⟩ "ITEMS" = some (.int 60) := c_ITEMS
theorem c_MOST_COMMANDS {t : Tb} [h : Has t] : t.C "MOST_COMMANDS" = some (.int 200) := h.c _ _ (by rfl)
theorem g_MOST_COMMANDS {t : Tb} {cal : Cal} {sub : Str → Str → Bool} [h : Has t] : GEnv.con ⟨cal, t.C, sub⟩ "MOST_COMMANDS" = some (.int 200) := c_MOST_COMMANDS
theorem c_WORDS {t : Tb} [h : Has t] : t.C "WORDS" = some (.tup [.str "behind", .str "before"]) := h.c _ _ (by rfl)
theorem g_WORDS {t : Tb} {cal : Cal} {sub : Str → Str → Bool} [h : Has t] : GEnv.con ⟨cal, t.C, sub⟩ "WORDS" = some (.tup [.str "behind", .str "before"]) := c_WORDS
theorem c_MOST_TIMES {t : Tb} [h : Has t] : t.C "MOST_TIMES" = some (.int 1000000000000000000000000000000) := h.c _ _ (by rfl)
theorem g_MOST_TIMES {t : Tb} {cal : Cal} {sub : Str → Str → Bool} [h : Has t] : GEnv.con ⟨cal, t.C, sub⟩ "MOST_TIMES" = some (.int 1000000000000000000000000000000) := c_MOST_TIMES
theorem c_AHEAD {t : Tb} [h : Has t] : t.C "AHEAD" = some (.str "ahead") := h.c _ _ (by rfl)
theorem g_AHEAD {t : Tb} {cal : Cal} {sub : Str → Str → Bool} [h : Has t] : GEnv.con ⟨cal, t.C, sub⟩ "AHEAD" = some (.str "ahead") := c_AHEAD
theorem c_BEHIND {t : Tb} [h : Has t] : t.C "BEHIND" = some (.str "behind") := h.c _ _ (by rfl)
theorem g_BEHIND {t : Tb} {cal : Cal} {sub : Str → Str → Bool} [h : Has t] : GEnv.con ⟨cal, t.C, sub⟩ "BEHIND" = some (.str "behind") := c_BEHIND
theorem c_OPEN {t : Tb} [h : Has t] : t.C "OPEN" = some (.str "open") := h.c _ _ (by rfl)
theorem g_OPEN {t : Tb} {cal : Cal} {sub : Str → Str → Bool} [h : Has t] : GEnv.con ⟨cal, t.C, sub⟩ "OPEN" = some (.str "open") := c_OPEN
theorem c_MOST_KEYS {t : Tb} [h : Has t] : t.C "MOST_KEYS" = some (.int 60) := h.c _ _ (by rfl)
theorem g_MOST_KEYS {t : Tb} {cal : Cal} {sub : Str → Str → Bool} [h : Has t] : GEnv.con ⟨cal, t.C, sub⟩ "MOST_KEYS" = some (.int 60) := c_MOST_KEYS
theorem c_MOST_TIMES_repeats {t : Tb} [h : Has t] : t.C "MOST_TIMES_repeats" = some (.int 1000000000000000000000000000000) := h.c _ _ (by rfl)
theorem g_MOST_TIMES_repeats {t : Tb} {cal : Cal} {sub : Str → Str → Bool} [h : Has t] : GEnv.con ⟨cal, t.C, sub⟩ "MOST_TIMES_repeats" = some (.int 1000000000000000000000000000000) := c_MOST_TIMES_repeats
theorem c_MOST_TIMES_friends {t : Tb} [h : Has t] : t.C "MOST_TIMES_friends" = some (.int 1000000000000000000000000000000) := h.c _ _ (by rfl)
theorem g_MOST_TIMES_friends {t : Tb} {cal : Cal} {sub : Str → Str → Bool} [h : Has t] : GEnv.con ⟨cal, t.C, sub⟩ "MOST_TIMES_friends" = some (.int 1000000000000000000000000000000) := c_MOST_TIMES_friends
theorem c_ITEMS_OF {t : Tb} [h : Has t] : t.C "ITEMS_OF" = some (.fd [.inr "behind", .inr "before", .inr "run", .inr "put", .inr "take"] [.int 2, .int 2, .int 2, .int 1, .int 1]) := h.c _ _ (by rfl)
theorem g_ITEMS_OF {t : Tb} {cal : Cal} {sub : Str → Str → Bool} [h : Has t] : GEnv.con ⟨cal, t.C, sub⟩ "ITEMS_OF" = some (.fd [.inr "behind", .inr "before", .inr "run", .inr "put", .inr "take"] [.int 2, .int 2, .int 2, .int 1, .int 1]) := c_ITEMS_OF
theorem c_MOST_TIMES_live {t : Tb} [h : Has t] : t.C "MOST_TIMES_live" = some (.int 1000000000000000000000000000000) := h.c _ _ (by rfl)
theorem g_MOST_TIMES_live {t : Tb} {cal : Cal} {sub : Str → Str → Bool} [h : Has t] : GEnv.con ⟨cal, t.C, sub⟩ "MOST_TIMES_live" = some (.int 1000000000000000000000000000000) := c_MOST_TIMES_live
theorem c_DIGITS {t : Tb} [h : Has t] : t.C "DIGITS" = some (.str "0123456789") := h.c _ _ (by rfl)
theorem g_DIGITS {t : Tb} {cal : Cal} {sub : Str → Str → Bool} [h : Has t] : GEnv.con ⟨cal, t.C, sub⟩ "DIGITS" = some (.str "0123456789") := c_DIGITS
theorem c_MOST_DIGITS {t : Tb} [h : Has t] : t.C "MOST_DIGITS" = some (.int 31) := h.c _ _ (by rfl)
theorem g_MOST_DIGITS {t : Tb} {cal : Cal} {sub : Str → Str → Bool} [h : Has t] : GEnv.con ⟨cal, t.C, sub⟩ "MOST_DIGITS" = some (.int 31) := c_MOST_DIGITS
theorem c_SIGNS {t : Tb} [h : Has t] : t.C "SIGNS" = some (.fd [.inr "behind", .inr "before"] [.str ">", .str "<"]) := h.c _ _ (by rfl)
theorem g_SIGNS {t : Tb} {cal : Cal} {sub : Str → Str → Bool} [h : Has t] : GEnv.con ⟨cal, t.C, sub⟩ "SIGNS" = some (.fd [.inr "behind", .inr "before"] [.str ">", .str "<"]) := c_SIGNS
theorem c_EMPTY {t : Tb} [h : Has t] : t.C "EMPTY" = some (.str "-") := h.c _ _ (by rfl)
theorem g_EMPTY {t : Tb} {cal : Cal} {sub : Str → Str → Bool} [h : Has t] : GEnv.con ⟨cal, t.C, sub⟩ "EMPTY" = some (.str "-") := c_EMPTY
theorem c_WITH_TEXT {t : Tb} [h : Has t] : t.C "WITH_TEXT" = some (.tup [.str "line", .str "script", .str "move"]) := h.c _ _ (by rfl)
theorem g_WITH_TEXT {t : Tb} {cal : Cal} {sub : Str → Str → Bool} [h : Has t] : GEnv.con ⟨cal, t.C, sub⟩ "WITH_TEXT" = some (.tup [.str "line", .str "script", .str "move"]) := c_WITH_TEXT
theorem c_FORMS {t : Tb} [h : Has t] : t.C "FORMS" = some (.fd [.inr "run", .inr "put", .inr "take", .inr "undo", .inr "show", .inr "after", .inr "block", .inr "relation", .inr "settled", .inr "period", .inr "starts"] [.int 1, .int 1, .int 1, .int 0, .int 0, .int 1, .int 1, .int 2, .int 0, .int 0, .int 0]) := h.c _ _ (by rfl)
theorem g_FORMS {t : Tb} {cal : Cal} {sub : Str → Str → Bool} [h : Has t] : GEnv.con ⟨cal, t.C, sub⟩ "FORMS" = some (.fd [.inr "run", .inr "put", .inr "take", .inr "undo", .inr "show", .inr "after", .inr "block", .inr "relation", .inr "settled", .inr "period", .inr "starts"] [.int 1, .int 1, .int 1, .int 0, .int 0, .int 1, .int 1, .int 2, .int 0, .int 0, .int 0]) := c_FORMS
theorem c_WITH_LINE {t : Tb} [h : Has t] : t.C "WITH_LINE" = some (.tup [.str "move", .str "run", .str "put", .str "take", .str "undo", .str "show", .str "after", .str "starts"]) := h.c _ _ (by rfl)
theorem g_WITH_LINE {t : Tb} {cal : Cal} {sub : Str → Str → Bool} [h : Has t] : GEnv.con ⟨cal, t.C, sub⟩ "WITH_LINE" = some (.tup [.str "move", .str "run", .str "put", .str "take", .str "undo", .str "show", .str "after", .str "starts"]) := c_WITH_LINE
theorem c_WITH_SCRIPT {t : Tb} [h : Has t] : t.C "WITH_SCRIPT" = some (.tup [.str "run", .str "after", .str "block", .str "relation", .str "settled", .str "period", .str "starts"]) := h.c _ _ (by rfl)
theorem g_WITH_SCRIPT {t : Tb} {cal : Cal} {sub : Str → Str → Bool} [h : Has t] : GEnv.con ⟨cal, t.C, sub⟩ "WITH_SCRIPT" = some (.tup [.str "run", .str "after", .str "block", .str "relation", .str "settled", .str "period", .str "starts"]) := c_WITH_SCRIPT
theorem t_is_int {t : Tb} [h : Has t] : t.T "is_int" = some d_is_int := h.h _ _ (by rfl)
theorem t_in_range {t : Tb} [h : Has t] : t.T "in_range" = some d_in_range := h.h _ _ (by rfl)
theorem t_is_item {t : Tb} [h : Has t] : t.T "is_item" = some d_is_item := h.h _ _ (by rfl)
theorem t_is_line {t : Tb} [h : Has t] : t.T "is_line" = some d_is_line := h.h _ _ (by rfl)
theorem t_is_command {t : Tb} [h : Has t] : t.T "is_command" = some d_is_command := h.h _ _ (by rfl)
theorem t_is_script {t : Tb} [h : Has t] : t.T "is_script" = some d_is_script := h.h _ _ (by rfl)
theorem t_require_script {t : Tb} [h : Has t] : t.T "require_script" = some d_require_script := h.h _ _ (by rfl)
theorem t_named_in {t : Tb} [h : Has t] : t.T "named_in" = some d_named_in := h.h _ _ (by rfl)
theorem t_items_of {t : Tb} [h : Has t] : t.T "items_of" = some d_items_of := h.h _ _ (by rfl)
theorem t_require_line {t : Tb} [h : Has t] : t.T "require_line" = some d_require_line := h.h _ _ (by rfl)
theorem t_require_command {t : Tb} [h : Has t] : t.T "require_command" = some d_require_command := h.h _ _ (by rfl)
theorem t_require_there {t : Tb} [h : Has t] : t.T "require_there" = some d_require_there := h.h _ _ (by rfl)
theorem t_require_pair {t : Tb} [h : Has t] : t.T "require_pair" = some d_require_pair := h.h _ _ (by rfl)
theorem t_moved_in {t : Tb} [h : Has t] : t.T "moved_in" = some d_moved_in := h.h _ _ (by rfl)
theorem t_script_in {t : Tb} [h : Has t] : t.T "script_in" = some d_script_in := h.h _ _ (by rfl)
theorem t_moved {t : Tb} [h : Has t] : t.T "moved" = some d_moved := h.h _ _ (by rfl)
theorem t_after_script {t : Tb} [h : Has t] : t.T "after_script" = some d_after_script := h.h _ _ (by rfl)
theorem t_require_item {t : Tb} [h : Has t] : t.T "require_item" = some d_require_item := h.h _ _ (by rfl)
theorem t_moved_in_block {t : Tb} [h : Has t] : t.T "moved_in_block" = some d_moved_in_block := h.h _ _ (by rfl)
theorem t_blocks_in {t : Tb} [h : Has t] : t.T "blocks_in" = some d_blocks_in := h.h _ _ (by rfl)
theorem t_block_in {t : Tb} [h : Has t] : t.T "block_in" = some d_block_in := h.h _ _ (by rfl)
theorem t_sources_in {t : Tb} [h : Has t] : t.T "sources_in" = some d_sources_in := h.h _ _ (by rfl)
theorem t_block_of {t : Tb} [h : Has t] : t.T "block_of" = some d_block_of := h.h _ _ (by rfl)
theorem t_source_of {t : Tb} [h : Has t] : t.T "source_of" = some d_source_of := h.h _ _ (by rfl)
theorem t_blocks_of {t : Tb} [h : Has t] : t.T "blocks_of" = some d_blocks_of := h.h _ _ (by rfl)
theorem t_same_blocks {t : Tb} [h : Has t] : t.T "same_blocks" = some d_same_blocks := h.h _ _ (by rfl)
theorem t_joined_in {t : Tb} [h : Has t] : t.T "joined_in" = some d_joined_in := h.h _ _ (by rfl)
theorem t_is_effect {t : Tb} [h : Has t] : t.T "is_effect" = some d_is_effect := h.h _ _ (by rfl)
theorem t_require_effect {t : Tb} [h : Has t] : t.T "require_effect" = some d_require_effect := h.h _ _ (by rfl)
theorem t_in_order {t : Tb} [h : Has t] : t.T "in_order" = some d_in_order := h.h _ _ (by rfl)
theorem t_joined {t : Tb} [h : Has t] : t.T "joined" = some d_joined := h.h _ _ (by rfl)
theorem t_require_times {t : Tb} [h : Has t] : t.T "require_times" = some d_require_times := h.h _ _ (by rfl)
theorem t_line_by {t : Tb} [h : Has t] : t.T "line_by" = some d_line_by := h.h _ _ (by rfl)
theorem t_powers {t : Tb} [h : Has t] : t.T "powers" = some d_powers := h.h _ _ (by rfl)
theorem t_rings_in {t : Tb} [h : Has t] : t.T "rings_in" = some d_rings_in := h.h _ _ (by rfl)
theorem t_settled_in {t : Tb} [h : Has t] : t.T "settled_in" = some d_settled_in := h.h _ _ (by rfl)
theorem t_settled_after {t : Tb} [h : Has t] : t.T "settled_after" = some d_settled_after := h.h _ _ (by rfl)
theorem t_final_blocks {t : Tb} [h : Has t] : t.T "final_blocks" = some d_final_blocks := h.h _ _ (by rfl)
theorem t_greatest_divisor {t : Tb} [h : Has t] : t.T "greatest_divisor" = some d_greatest_divisor := h.h _ _ (by rfl)
theorem t_lcm_of {t : Tb} [h : Has t] : t.T "lcm_of" = some d_lcm_of := h.h _ _ (by rfl)
theorem t_rings_of {t : Tb} [h : Has t] : t.T "rings_of" = some d_rings_of := h.h _ _ (by rfl)
theorem t_period {t : Tb} [h : Has t] : t.T "period" = some d_period := h.h _ _ (by rfl)
theorem t_sources_of {t : Tb} [h : Has t] : t.T "sources_of" = some d_sources_of := h.h _ _ (by rfl)
theorem t_relation_in {t : Tb} [h : Has t] : t.T "relation_in" = some d_relation_in := h.h _ _ (by rfl)
theorem t_require_two {t : Tb} [h : Has t] : t.T "require_two" = some d_require_two := h.h _ _ (by rfl)
theorem t_is_pair {t : Tb} [h : Has t] : t.T "is_pair" = some d_is_pair := h.h _ _ (by rfl)
theorem t_followers {t : Tb} [h : Has t] : t.T "followers" = some d_followers := h.h _ _ (by rfl)
theorem t_require_pairs {t : Tb} [h : Has t] : t.T "require_pairs" = some d_require_pairs := h.h _ _ (by rfl)
theorem t_ways {t : Tb} [h : Has t] : t.T "ways" = some d_ways := h.h _ _ (by rfl)
theorem t_pieces_in {t : Tb} [h : Has t] : t.T "pieces_in" = some d_pieces_in := h.h _ _ (by rfl)
theorem t_count_in {t : Tb} [h : Has t] : t.T "count_in" = some d_count_in := h.h _ _ (by rfl)
theorem t_count_starts {t : Tb} [h : Has t] : t.T "count_starts" = some d_count_starts := h.h _ _ (by rfl)
theorem t_nth_start {t : Tb} [h : Has t] : t.T "nth_start" = some d_nth_start := h.h _ _ (by rfl)
theorem t_start_number {t : Tb} [h : Has t] : t.T "start_number" = some d_start_number := h.h _ _ (by rfl)
theorem t_bare_rings {t : Tb} [h : Has t] : t.T "bare_rings" = some d_bare_rings := h.h _ _ (by rfl)
theorem t_is_possible {t : Tb} [h : Has t] : t.T "is_possible" = some d_is_possible := h.h _ _ (by rfl)
theorem t_require_possible {t : Tb} [h : Has t] : t.T "require_possible" = some d_require_possible := h.h _ _ (by rfl)
theorem t_fewest_commands {t : Tb} [h : Has t] : t.T "fewest_commands" = some d_fewest_commands := h.h _ _ (by rfl)
theorem t_plan_for {t : Tb} [h : Has t] : t.T "plan_for" = some d_plan_for := h.h _ _ (by rfl)
theorem t_has_effect {t : Tb} [h : Has t] : t.T "has_effect" = some d_has_effect := h.h _ _ (by rfl)
theorem t_count_effects {t : Tb} [h : Has t] : t.T "count_effects" = some d_count_effects := h.h _ _ (by rfl)
theorem t_require_alike {t : Tb} [h : Has t] : t.T "require_alike" = some d_require_alike := h.h _ _ (by rfl)
theorem t_fewest_moves {t : Tb} [h : Has t] : t.T "fewest_moves" = some d_fewest_moves := h.h _ _ (by rfl)
theorem t_moves_for {t : Tb} [h : Has t] : t.T "moves_for" = some d_moves_for := h.h _ _ (by rfl)
theorem t_is_friends {t : Tb} [h : Has t] : t.T "is_friends" = some d_is_friends := h.h _ _ (by rfl)
theorem t_require_friends {t : Tb} [h : Has t] : t.T "require_friends" = some d_require_friends := h.h _ _ (by rfl)
theorem t_commands_of {t : Tb} [h : Has t] : t.T "commands_of" = some d_commands_of := h.h _ _ (by rfl)
theorem t_day_script {t : Tb} [h : Has t] : t.T "day_script" = some d_day_script := h.h _ _ (by rfl)
theorem t_count_final {t : Tb} [h : Has t] : t.T "count_final" = some d_count_final := h.h _ _ (by rfl)
theorem t_days_needed {t : Tb} [h : Has t] : t.T "days_needed" = some d_days_needed := h.h _ _ (by rfl)
theorem t_day_period {t : Tb} [h : Has t] : t.T "day_period" = some d_day_period := h.h _ _ (by rfl)
theorem t__wall {t : Tb} [h : Has t] : t.T "_wall" = some d__wall := h.h _ _ (by rfl)
theorem t_is_operation {t : Tb} [h : Has t] : t.T "is_operation" = some d_is_operation := h.h _ _ (by rfl)
theorem t_parse_number {t : Tb} [h : Has t] : t.T "parse_number" = some d_parse_number := h.h _ _ (by rfl)
theorem t_need_text {t : Tb} [h : Has t] : t.T "need_text" = some d_need_text := h.h _ _ (by rfl)
theorem t_read_command {t : Tb} [h : Has t] : t.T "read_command" = some d_read_command := h.h _ _ (by rfl)
end Pr

namespace PT
open PySem Py
def b_after_times : Ss := (.cons (.exp (.call "require_line" (.cons (.var 0 "line") .nil))) (.cons (.exp (.call "require_script" (.cons (.var 1 "script") .nil))) (.cons (.exp (.call "require_times" (.cons (.var 2 "times") (.cons (.cst (.int 0)) (.cons (.gv "MOST_TIMES") .nil))))) (.cons (.exp (.call "require_there" (.cons (.var 0 "line") (.cons (.call "named_in" (.cons (.var 1 "script") .nil)) .nil)))) (.cons (.ret (.call "line_by" (.cons (.var 0 "line") (.cons (.call "powers" (.cons (.call "blocks_in" (.cons (.var 1 "script") .nil)) (.cons (.var 2 "times") .nil))) .nil)))) .nil)))))
def d_after_times : Fd := ⟨3, 3, b_after_times⟩
def b_blocks_after : Ss := (.cons (.exp (.call "require_script" (.cons (.var 0 "script") .nil))) (.cons (.exp (.call "require_times" (.cons (.var 1 "times") (.cons (.cst (.int 0)) (.cons (.gv "MOST_TIMES") .nil))))) (.cons (.ret (.call "powers" (.cons (.call "blocks_in" (.cons (.var 0 "script") .nil)) (.cons (.var 1 "times") .nil)))) .nil)))
def d_blocks_after : Fd := ⟨2, 2, b_blocks_after⟩
def b_relation : Ss := (.cons (.exp (.call "require_script" (.cons (.var 0 "script") .nil))) (.cons (.exp (.call "require_two" (.cons (.var 1 "item") (.cons (.var 2 "other") .nil)))) (.cons (.exp (.call "require_times" (.cons (.var 3 "times") (.cons (.cst (.int 0)) (.cons (.gv "MOST_TIMES") .nil))))) (.cons (.ret (.call "relation_in" (.cons (.call "powers" (.cons (.call "blocks_in" (.cons (.var 0 "script") .nil)) (.cons (.var 3 "times") .nil))) (.cons (.var 1 "item") (.cons (.var 2 "other") .nil))))) .nil))))
def d_relation : Fd := ⟨4, 4, b_relation⟩
def b_deciding : Ss := (.cons (.exp (.call "require_script" (.cons (.var 0 "script") .nil))) (.cons (.exp (.call "require_two" (.cons (.var 1 "item") (.cons (.var 2 "other") .nil)))) (.cons (.exp (.call "require_times" (.cons (.var 3 "times") (.cons (.cst (.int 0)) (.cons (.gv "MOST_TIMES") .nil))))) (.cons (.unp [(4, "one"), (5, "two")] (.call "sources_of" (.cons (.call "powers" (.cons (.call "blocks_in" (.cons (.var 0 "script") .nil)) (.cons (.var 3 "times") .nil))) (.cons (.var 1 "item") (.cons (.var 2 "other") .nil))))) (.cons (.ret (.ite (.cmp .ne (.var 4 "one") (.var 5 "two")) (.tup (.cons (.var 4 "one") (.cons (.var 5 "two") .nil))) (.cst .non))) .nil)))))
def d_deciding : Fd := ⟨4, 6, b_deciding⟩
def b_relation_with : Ss := (.cons (.exp (.call "require_script" (.cons (.var 0 "script") .nil))) (.cons (.exp (.call "require_two" (.cons (.var 1 "item") (.cons (.var 2 "other") .nil)))) (.cons (.exp (.call "require_pairs" (.cons (.var 3 "known") .nil))) (.cons (.exp (.call "require_times" (.cons (.var 4 "times") (.cons (.cst (.int 0)) (.cons (.gv "MOST_TIMES") .nil))))) (.cons (.asg 5 "blocks" (.call "powers" (.cons (.call "blocks_in" (.cons (.var 0 "script") .nil)) (.cons (.var 4 "times") .nil)))) (.cons (.unp [(6, "one"), (7, "two")] (.call "sources_of" (.cons (.var 5 "blocks") (.cons (.var 1 "item") (.cons (.var 2 "other") .nil))))) (.cons (.if_ (.cmp .eq (.var 6 "one") (.var 7 "two")) (.cons (.ret (.call "relation_in" (.cons (.var 5 "blocks") (.cons (.var 1 "item") (.cons (.var 2 "other") .nil))))) .nil) .nil) (.cons (.asg 8 "behind" (.call "followers" (.cons (.var 3 "known") .nil))) (.cons (.if_ (.cmp .in_ (.var 7 "two") (.mth .get (.var 8 "behind") (.cons (.var 6 "one") (.cons (.lst .nil) .nil)))) (.cons (.ret (.gv "AHEAD")) .nil) .nil) (.cons (.ret (.ite (.cmp .in_ (.var 6 "one") (.mth .get (.var 8 "behind") (.cons (.var 7 "two") (.cons (.lst .nil) .nil)))) (.gv "BEHIND") (.gv "OPEN"))) .nil))))))))))
def d_relation_with : Fd := ⟨5, 9, b_relation_with⟩
def b_require_run : Ss := (.cons (.exp (.call "require_line" (.cons (.var 0 "line") .nil))) (.cons (.exp (.call "require_script" (.cons (.var 1 "script") .nil))) (.cons (.exp (.call "require_times" (.cons (.var 2 "times") (.cons (.cst (.int 0)) (.cons (.gv "MOST_TIMES") .nil))))) (.cons (.exp (.call "require_there" (.cons (.var 0 "line") (.cons (.call "named_in" (.cons (.var 1 "script") .nil)) .nil)))) .nil))))
def d_require_run : Fd := ⟨3, 3, b_require_run⟩
def b_count_ends : Ss := (.cons (.exp (.call "require_script" (.cons (.var 0 "script") .nil))) (.cons (.exp (.call "require_times" (.cons (.var 1 "times") (.cons (.cst (.int 0)) (.cons (.gv "MOST_TIMES") .nil))))) (.cons (.ret (.call "ways" (.cons (.bif .len (.cons (.lc (.var 2 "block") (.name 2 "block") (.values (.call "powers" (.cons (.call "blocks_in" (.cons (.var 0 "script") .nil)) (.cons (.var 1 "times") .nil)))) (.cons (.cmp .ne (.var 2 "block") (.tup .nil)) .nil) [("block", 2)]) .nil)) (.cons (.cst (.int 0)) .nil)))) .nil)))
def d_count_ends : Fd := ⟨2, 3, b_count_ends⟩
def b_after_days : Ss := (.cons (.exp (.call "require_line" (.cons (.var 0 "line") .nil))) (.cons (.exp (.call "require_friends" (.cons (.var 1 "friends") .nil))) (.cons (.exp (.call "require_times" (.cons (.var 2 "days") (.cons (.cst (.int 0)) (.cons (.gv "MOST_TIMES") .nil))))) (.cons (.exp (.call "require_there" (.cons (.var 0 "line") (.cons (.bif .list (.cons (.var 1 "friends") .nil)) .nil)))) (.cons (.ret (.call "line_by" (.cons (.var 0 "line") (.cons (.call "powers" (.cons (.call "blocks_in" (.cons (.call "commands_of" (.cons (.var 1 "friends") .nil)) .nil)) (.cons (.var 2 "days") .nil))) .nil)))) .nil)))))
def d_after_days : Fd := ⟨3, 3, b_after_days⟩
def table : List (Str × Fd) := [tp "after_times" d_after_times, tp "blocks_after" d_blocks_after, tp "relation" d_relation, tp "deciding" d_deciding, tp "relation_with" d_relation_with, tp "require_run" d_require_run, tp "count_ends" d_count_ends, tp "after_days" d_after_days]
/-- a table that holds these -/
class Has (t : Tb) : Prop where
  h : ∀ x d, table.lookup x = some d → t.T x = some d
theorem t_after_times {t : Tb} [h : Has t] : t.T "after_times" = some d_after_times := h.h _ _ (by rfl)
theorem t_blocks_after {t : Tb} [h : Has t] : t.T "blocks_after" = some d_blocks_after := h.h _ _ (by rfl)
theorem t_relation {t : Tb} [h : Has t] : t.T "relation" = some d_relation := h.h _ _ (by rfl)
theorem t_deciding {t : Tb} [h : Has t] : t.T "deciding" = some d_deciding := h.h _ _ (by rfl)
theorem t_relation_with {t : Tb} [h : Has t] : t.T "relation_with" = some d_relation_with := h.h _ _ (by rfl)
theorem t_require_run {t : Tb} [h : Has t] : t.T "require_run" = some d_require_run := h.h _ _ (by rfl)
theorem t_count_ends {t : Tb} [h : Has t] : t.T "count_ends" = some d_count_ends := h.h _ _ (by rfl)
theorem t_after_days {t : Tb} [h : Has t] : t.T "after_days" = some d_after_days := h.h _ _ (by rfl)
end PT

local macro_rules | `(tactic| walk_at "con") => `(tactic| first | rw [Pr.g_ITEMS] | rw [Pr.g_MOST_COMMANDS] | rw [Pr.g_WORDS] | rw [Pr.g_MOST_TIMES] | rw [Pr.g_MOST_KEYS] | rw [Pr.g_AHEAD] | rw [Pr.g_BEHIND] | rw [Pr.g_OPEN] | rw [Pr.g_MOST_TIMES_repeats] | rw [Pr.g_MOST_TIMES_friends])

/-! short words for what is done again and again (they stand for this text alone) -/
local macro_rules | `(tactic| walk_at "look") => `(tactic| first | with_reducible assumption | with_reducible exact Py.put_same | (with_reducible refine Py.put_old ?k1 ?k2; (case k1 => with_reducible assumption); (case k2 => walk_at "look")) | (with_reducible refine Py.put_ne1 ?k1 ?k2; (case k1 => with_reducible assumption); (case k2 => walk_at "look")) | (with_reducible refine Py.put_ne2 ?k1 ?k2; (case k1 => with_reducible assumption); (case k2 => walk_at "look")) | fail "look")
local macro_rules | `(tactic| walk_at "lit") => `(tactic| first | with_reducible assumption | omega | exact ⟨by decide, by decide, by decide +kernel⟩ | exact ⟨by decide, by decide +kernel⟩ | rfl | exact Nat.le_of_ble_eq_true rfl | decide +kernel)
local macro_rules | `(tactic| walk_at "wait") => `(tactic| first
  | rw [decide_eq_true (by with_reducible assumption)]
  | rw [decide_eq_false (by with_reducible assumption)]
  | rw [Py.rd_of (by walk_at "look")]
  | rw [Py.seqD_lst (by walk_at "look")]
  | rw [Py.lstD_lst (by walk_at "look")]
  | rw [Py.mapD_lst (by walk_at "look")]
  | rw [Py.mapD_dct (by walk_at "look")]
  | rw [Py.mapD_fdD]
  | rw [Py.mapD_fd]
  | rw [Py.getL_lst (by walk_at "look")]
  | rw [Py.recv_lst (by walk_at "look")]
  | rw [Py.recv_dct (by walk_at "look")]
  | rw [Py.truD_lst (by walk_at "look")]
  | rw [Py.zip_unzip]
  | rw [Py.bl_fl]
  | rw [Option.bind_some]
  | rw [Py.bs_tup]
  | rw [Py.bs_fl]
  | rw [Py.bl_ref (by walk_at "look")]
  | rw [Py.bs_ref (by walk_at "look")]
  | rw [Py.intsD_map]
  | rw [Py.boolsD_map]
  | rw [decide_eq_true (rfl : _ = _)]
  | rw [‹L2.atI _ _ = some _›]
  | rw [Py.put_same]
  | rw [Py.put_old (by with_reducible assumption) (by walk_at "look")]
  | walk_at "con")
local macro_rules | `(tactic| walk_at "hd") => `(tactic| ((conv => whnf); repeat (walk_at "wait"; conv => whnf)))
local macro_rules | `(tactic| walk_at "run") => `(tactic| ((conv => whnf); repeat (first | (refine And.intro (by walk_at "lit") ?_; conv => whnf) | (walk_at "wait"; conv => whnf))))
local macro_rules | `(tactic| walk_at "runz") => `(tactic| ((conv => whnf); repeat (first | (refine And.intro (by walk_at "lit") ?_; conv => whnf) | (walk_at "wait"; conv => whnf) | (refine Py.allocL.fz ?_; conv => whnf) | (refine Py.allocD.fz ?_; conv => whnf))))

namespace Pr
open PySem Py Mv
variable {t : Tb} [Has t] {k : Nat} {A : AH} {X : Dx} {Q : Dk}
theorem sp_is_int {i : Int} (h : Q (.bl true) A) : cal t (k + 1) "is_int" [.int i] A X Q := by
  refine calN_eq t_is_int rfl ?_
  walk_at "run"
  exact .id h
theorem sp_in_range {i lo hi : Int} (h : Q (.bl (decide (lo ≤ i) && decide (i ≤ hi))) A) : cal t (k + 2) "in_range" [.int i, .int lo, .int hi] A X Q := by
  refine calN_eq t_in_range rfl ?_
  walk_at "run"
  refine sp_is_int ?_
  walk_at "run"
  by_cases e : lo ≤ i
  · walk_at "run"
    exact .id (by simpa [e] using h)
  · walk_at "run"
    exact .id (by simpa [e] using h)
theorem sp_is_item {i : Int} (hi : VItem i) (h : Q (.bl true) A) : cal t (k + 3) "is_item" [.int i] A X Q := by
  refine calN_eq t_is_item rfl ?_
  walk_at "run"
  refine sp_in_range ?_
  have h1 : decide ((0 : Int) ≤ i) = true := decide_eq_true hi.1
  have h2 : decide (i ≤ 60 - 1) = true := decide_eq_true (by have := hi.2; omega)
  rw [h1, h2]
  exact .id h
theorem goodLin {l : List Int} (n : Nat) : GoodE (n + 1) (linD l) := .tup (GoodEs.map fun _ _ => .int)
theorem ddI_nd : ∀ {l : List Int}, l.Nodup → ddI l = l := fun {l} nd => by
  have go : ∀ (m acc : List Int), (acc ++ m).Nodup → m.foldl PyProof.Rows.step_dedup acc = acc ++ m := fun m => by
    induction m with
    | nil => intro acc _; simp
    | cons a m ih =>
      intro acc h
      rw [List.foldl_cons]
      have h1 : a ∉ acc := fun z => by
        rw [List.nodup_append] at h
        exact h.2.2 a z a (by simp) rfl
      have : PyProof.Rows.step_dedup acc a = acc ++ [a] := by
        unfold PyProof.Rows.step_dedup
        rw [if_neg]
        intro z
        exact h1 (by simpa using z)
      rw [this, ih _ (by simpa using h)]
      simp
  simpa [ddI] using go l [] (by simpa using nd)
theorem sp_is_line {l : List Int} (v : VLine l) (h : Q (.bl true) A) : cal t (k + 4) "is_line" [linD l] A X Q := by
  refine calN_eq t_is_line rfl ?_
  walk_at "run"
  rw [eqD_good (goodLin (l := l) 0) (.tup .nil : GoodE 1 (.tup [])) (by decide) (by decide) false (by
    have := v.ne
    cases l <;> simp [linD] at *)]
  walk_at "run"
  intro L hL
  refine lc_map (e := D.int) (p := fun _ => true) (g := fun _ => .bl true) hL l (by have := v.len; rw [PySem.sizeLine_eq]; omega) (fun _ => holds_nil) ?_ ?_
  · intro x hx
    exact ⟨_, fun k h => h, fun A' R h _ => h, fun _ A' R h _ => sp_is_item (v.it x hx) h⟩
  rw [filter_yes]
  walk_at "run"
  rw [all_true (by simp)]
  walk_at "run"
  refine ⟨by have := v.len; omega, ?_⟩
  walk_at "run"
  rw [ddI_nd v.nd]
  have e : decide (((l.length : Nat) : Int) = (((l.map D.int).length : Nat) : Int)) = true := by simp
  rw [e]
  exact .id h
theorem good_str {s : Str} (h : PyData.strOk s = true) (n : Nat) : GoodE n (.str s) := .str h
theorem wd_ok (b : Bool) : PyData.strOk (wd b) = true := by cases b <;> decide +kernel
theorem sp_is_command {c : Cmd} (v : VCmd c) (h : Q (.bl true) A) : cal t (k + 4) "is_command" [cmdD c] A X Q := by
  refine calN_eq t_is_command rfl ?_
  obtain ⟨b, i, o⟩ := c
  obtain ⟨v1, v2, v3⟩ := v
  walk_at "run"
  have e : inF (.str (wd b)) [.str "behind", .str "before"] = true := by cases b <;> decide +kernel
  rw [e]
  walk_at "run"
  refine sp_is_item v1 ?_
  walk_at "run"
  refine sp_is_item v2 ?_
  have e2 : decide (i = o) = false := decide_eq_false v3
  walk_at "run"
  exact .id h
theorem sp_is_script {cs : List Cmd} (v : VScr cs) (h : Q (.bl true) A) : cal t (k + 5) "is_script" [scrD cs] A X Q := by
  refine calN_eq t_is_script rfl ?_
  walk_at "run"
  have e1 : (1 : Int) ≤ ((cs.map cmdD).length : Nat) := by have := v.pos; rw [List.length_map]; omega
  walk_at "run"
  have e2 : (((cs.map cmdD).length : Nat) : Int) ≤ 200 := by have := v.len; rw [List.length_map]; omega
  walk_at "run"
  intro L hL
  refine lc_map (e := cmdD) (p := fun _ => true) (g := fun _ => .bl true) hL cs (by have := v.len; rw [PySem.sizeLine_eq]; omega) (fun _ => holds_nil) ?_ ?_
  · intro x hx
    exact ⟨_, fun k h => h, fun A' R h _ => h, fun _ A' R h _ => sp_is_command (v.it x hx) h⟩
  rw [filter_yes]
  walk_at "run"
  rw [all_true (by simp)]
  exact .id h
theorem sp_require_line {l : List Int} (v : VLine l) (h : Q .non A) : cal t (k + 5) "require_line" [linD l] A X Q := by
  refine calN_eq t_require_line rfl ?_
  walk_at "run"
  refine sp_is_line v ?_
  walk_at "run"
  exact .id h
theorem sp_require_script {cs : List Cmd} (v : VScr cs) (h : Q .non A) : cal t (k + 6) "require_script" [scrD cs] A X Q := by
  refine calN_eq t_require_script rfl ?_
  walk_at "run"
  refine sp_is_script v ?_
  walk_at "run"
  exact .id h
theorem sp_require_item {i : Int} (v : VItem i) (h : Q .non A) : cal t (k + 4) "require_item" [.int i] A X Q := by
  refine calN_eq t_require_item rfl ?_
  walk_at "run"
  refine sp_is_item v ?_
  walk_at "run"
  exact .id h
theorem sp_require_times {i lo hi : Int} (h1 : lo ≤ i) (h2 : i ≤ hi) (h : Q .non A) : cal t (k + 3) "require_times" [.int i, .int lo, .int hi] A X Q := by
  refine calN_eq t_require_times rfl ?_
  walk_at "run"
  refine sp_in_range ?_
  rw [decide_eq_true h1, decide_eq_true h2]
  walk_at "run"
  exact .id h
theorem inF_int {i : Int} {l : List Int} : inF (.int i) (l.map D.int) = decide (i ∈ l) := by
  unfold inF
  rw [List.any_map]
  have : (fun y => eqF y (.int i)) ∘ D.int = fun y => y == i := rfl
  rw [this]
  by_cases h : i ∈ l
  · rw [decide_eq_true h, List.any_eq_true]; exact ⟨i, h, by simp⟩
  · rw [decide_eq_false h, List.any_eq_false]; intro y hy z; simp at z; exact h (z ▸ hy)
theorem flat_ints {l : List Int} : (l.map D.int).all flatD = true := by rw [List.all_map]; simp [Function.comp_def, flatD]
theorem sp_require_there {l : List Int} {ns : List Int} (v : ∀ i ∈ ns, i ∈ l) (hn : ns.length ≤ 1000) (h : Q .non A) : cal t (k + 1) "require_there" [linD l, .fl (ns.map .int)] A X Q := by
  refine calN_eq t_require_there rfl ?_
  walk_at "run"
  intro L hL
  refine lc_map (e := D.int) (p := fun _ => true) (g := fun _ => .bl true) hL ns (by rw [PySem.sizeLine_eq]; omega) (fun _ => holds_nil) ?_ ?_
  · intro x hx
    refine ⟨_, fun k h => h, fun A' R h _ => h, fun _ A' R h _ => ?_⟩
    walk_at "run"
    refine ⟨flat_ints, ?_⟩
    rw [inF_int, decide_eq_true (v x hx)]
    exact h
  rw [filter_yes]
  walk_at "run"
  rw [all_true (by simp)]
  walk_at "run"
  exact .id h
theorem named_ok {cs : List Cmd} (it : ∀ c ∈ cs, VCmd c) : (∀ i ∈ allN cs, VItem i) := fun i hi => by
  obtain ⟨l, hl, hi⟩ := List.mem_flatten.mp hi
  obtain ⟨c, hc, rfl⟩ := List.mem_map.mp hl
  have := it c hc
  rcases List.mem_cons.mp hi with rfl | hi
  · exact this.1
  · cases List.mem_singleton.mp hi
    exact this.2.1
theorem sortI_mem {l : List Int} {i : Int} : i ∈ sortI l ↔ i ∈ l := List.mem_mergeSort
theorem sortI_len {l : List Int} : (sortI l).length = l.length := List.length_mergeSort _
theorem sortI_nd {l : List Int} (h : l.Nodup) : (sortI l).Nodup := (List.mergeSort_perm l _).nodup_iff.mpr h
theorem mem_named {cs : List Cmd} {i : Int} : i ∈ named cs ↔ i ∈ allN cs := by unfold named; rw [sortI_mem, ddI_mem]
theorem named_nd {cs : List Cmd} : (named cs).Nodup := sortI_nd ddI_nodup
theorem named_it {cs : List Cmd} (it : ∀ c ∈ cs, VCmd c) : ∀ i ∈ named cs, VItem i := fun i hi => named_ok it i (mem_named.mp hi)
theorem allN_len (cs : List Cmd) : (allN cs).length = 2 * cs.length := by
  unfold allN
  induction cs with
  | nil => rfl
  | cons c cs ih => rw [List.map_cons, List.flatten_cons, List.length_append, ih, List.length_cons]; simp; omega
theorem sp_named_inW {cs : List Cmd} (v : WScr cs) (h : Q (.fl ((named cs).map .int)) A) : cal t (k + 1) "named_in" [scrD cs] A X Q := by
  refine calN_eq t_named_in rfl ?_
  walk_at "run"
  refine .new fun p hp => ?_
  walk_at "run"
  refine for_st (β := List Int) (e := cmdD) (fun b r σ A' => A' = put A p (.lst (b.map .int)) ∧ σ = [none, some (.ref p), none, none, none] ∧ b.length + 2 * r.length ≤ 400) (fun b c => b ++ [c.2.1, c.2.2]) cs ⟨rfl, rfl, by have := v.len; rw [List.length_nil]; omega⟩ (fun _ _ _ _ _ => holds_nil) ?_ ?_
  · rintro b c r σ A' nx hc ⟨rfl, rfl, hz⟩ hk
    walk_at "runz"
    have hz' : b.length + 2 * (r.length + 1) ≤ 400 := by simpa using hz
    refine ⟨by simp; rw [PySem.sizeLine_eq]; omega, ?_⟩
    refine hk _ _ ⟨?_, rfl, by simp; omega⟩
    rw [put_put]
    simp
  · rintro σ A' ⟨rfl, rfl, hz⟩
    have e : ∀ (cs : List Cmd) (b : List Int), cs.foldl (fun b c => b ++ [c.2.1, c.2.2]) b = b ++ allN cs := fun cs => by
      induction cs with
      | nil => intro b; simp [allN]
      | cons c cs ih => intro b; rw [List.foldl_cons, ih]; simp [allN]
    rw [e] at *
    rw [List.nil_append] at *
    have h1 := allN_len cs
    have h2 := v.len
    have h3 : (ddI (allN cs)).length < 64 := by
      have := items_len (l := ddI (allN cs)) ddI_nodup fun i hi => named_ok v.it i (ddI_mem.mp hi)
      omega
    walk_at "runz"
    exact .of (Sub.fresh hp) h
theorem sp_named_in {cs : List Cmd} (v : VScr cs) (h : Q (.fl ((named cs).map .int)) A) : cal t (k + 1) "named_in" [scrD cs] A X Q := sp_named_inW v.w h
theorem cut_hi {α : Type} (xs : List α) (k : Nat) : cutD xs none (some (k : Int)) = xs.take k := by
  unfold cutD
  rw [HT.sIx_nat, HT.sIx_none]
  simp [List.take_eq_take_iff]
theorem cut_lo {α : Type} (xs : List α) (k : Nat) : cutD xs (some (k : Int)) none = xs.drop k := by
  unfold cutD
  rw [HT.sIx_nat, HT.sIx_none]
  by_cases h : k ≤ xs.length
  · rw [Nat.min_eq_left h, List.take_of_length_le (by simp)]
  · rw [Nat.min_eq_right (by omega)]
    simp
    omega
theorem cut_lo1 {α : Type} (xs : List α) (k : Nat) : cutD xs (some ((k : Int) + 1)) none = xs.drop (k + 1) := cut_lo xs (k + 1)
theorem mem_erase_ne {l : List Int} {i o : Int} (h : o ∈ l) (hn : i ≠ o) : o ∈ l.erase i := (List.mem_erase_of_ne (fun e => hn e.symm)).mpr h
theorem erase_take {l : List Int} {i : Int} (h : i ∈ l) : l.take (l.idxOf i) ++ l.drop (l.idxOf i + 1) = l.erase i := by
  rw [← List.eraseIdx_eq_take_drop_succ, List.erase_eq_eraseIdx_of_idxOf]
  rfl
theorem int_beh (b : Bool) (n : Nat) : ((n : Int) + (if decide (wd b = "behind") = true then 1 else 0)) = ((n + (if b then 1 else 0) : Nat) : Int) := by
  cases b
  · have : decide (wd false = "behind") = false := by decide +kernel
    rw [this]; simp
  · have : decide (wd true = "behind") = true := by decide +kernel
    rw [this]; simp
theorem sp_moved_in {l : List Int} {c : Cmd} (hz : l.length ≤ 1000) (h1 : c.2.1 ∈ l) (h2 : c.2.2 ∈ l) (hn : c.2.1 ≠ c.2.2) (h : Q (linD (mvd l c)) A) : cal t (k + 1) "moved_in" [linD l, cmdD c] A X Q := by
  obtain ⟨b, i, o⟩ := c
  replace h1 : i ∈ l := h1
  replace h2 : o ∈ l := h2
  replace hn : i ≠ o := hn
  show cal t (k + 1) "moved_in" [linD l, .tup [.str (wd b), .int i, .int o]] A X Q
  refine calN_eq t_moved_in rfl ?_
  walk_at "run"
  rw [cut_hi, cut_lo1]
  refine ⟨by simp; rw [PySem.sizeLine_eq]; omega, ?_⟩
  have e : (l.map D.int).take (l.idxOf i) ++ (l.map D.int).drop (l.idxOf i + 1) = (l.erase i).map D.int := by rw [← erase_take h1]; simp
  rw [e]
  walk_at "run"
  refine ⟨mem_erase_ne h2 hn, ?_⟩
  walk_at "run"
  have e2 := int_beh b ((l.erase i).idxOf o)
  have hl : (l.erase i).length ≤ l.length := List.length_erase_le
  rw [e2, cut_hi]
  refine ⟨by simp; rw [PySem.sizeLine_eq]; omega, ?_⟩
  walk_at "run"
  rw [cut_lo]
  refine ⟨by simp; rw [PySem.sizeLine_eq]; omega, ?_⟩
  have e3 : (((l.erase i).map D.int).take ((l.erase i).idxOf o + (if b then 1 else 0)) ++ [D.int i]) ++ ((l.erase i).map D.int).drop ((l.erase i).idxOf o + (if b then 1 else 0)) = (mvd l (b, i, o)).map D.int := by
    unfold mvd put1
    simp
  rw [e3]
  walk_at "run"
  exact .id h
theorem mem_put1 {b : Bool} {i o x : Int} {r : List Int} : x ∈ put1 b i o r ↔ x = i ∨ x ∈ r := by
  unfold put1
  rw [List.mem_append, List.mem_append, List.mem_singleton]
  have : x ∈ r ↔ x ∈ r.take (r.idxOf o + (if b then 1 else 0)) ∨ x ∈ r.drop (r.idxOf o + (if b then 1 else 0)) := by
    rw [← List.mem_append, List.take_append_drop]
  rw [this]
  constructor
  · rintro ((h | h) | h)
    · exact .inr (.inl h)
    · exact .inl h
    · exact .inr (.inr h)
  · rintro (h | h | h)
    · exact .inl (.inr h)
    · exact .inl (.inl h)
    · exact .inr h
theorem put1_perm {b : Bool} {i o : Int} {r : List Int} : (put1 b i o r).Perm (i :: r) := by
  unfold put1
  rw [List.append_assoc]
  exact (List.perm_middle (l₁ := r.take (r.idxOf o + (if b then 1 else 0))) (l₂ := r.drop (r.idxOf o + (if b then 1 else 0))) (a := i)).trans (.cons _ (by rw [List.take_append_drop]))
theorem mvd_perm {l : List Int} {c : Cmd} (h : c.2.1 ∈ l) : (mvd l c).Perm l := put1_perm.trans (List.perm_cons_erase h).symm
theorem sp_script_in : ∀ {cs : List Cmd} {l : List Int}, l.length ≤ 1000 → cs.length ≤ 10000 → (∀ c ∈ cs, c.2.1 ∈ l ∧ c.2.2 ∈ l ∧ c.2.1 ≠ c.2.2) → Q (linD (mvs l cs)) A → cal t (k + 2) "script_in" [linD l, scrD cs] A X Q := fun {cs l} hz hc hv h => by
  refine calN_eq t_script_in rfl ?_
  walk_at "run"
  refine for_st (β := List Int) (e := cmdD) (fun b r σ A' => A' = A ∧ σ = [some (linD b), none, none] ∧ b.Perm l) mvd cs ⟨rfl, rfl, .refl _⟩ (fun _ _ _ _ _ => holds_nil) ?_ ?_
  · rintro b c r σ A' nx hcs ⟨rfl, rfl, hp⟩ hk
    obtain ⟨v1, v2, v3⟩ := hv c hcs
    walk_at "run"
    refine sp_moved_in (by rw [hp.length_eq]; exact hz) (hp.mem_iff.mpr v1) (hp.mem_iff.mpr v2) v3 ?_
    walk_at "run"
    exact hk _ _ ⟨rfl, rfl, (mvd_perm (hp.mem_iff.mpr v1)).trans hp⟩
  · rintro σ A' ⟨rfl, rfl, _⟩
    walk_at "run"
    exact .id h
end Pr

/-! Blocks: what they say of lines; their joining. -/
namespace Mv
open PySem Py Pr
/-! ### taking out, putting in, in one piece of many -/
theorem flat_erase {i : Int} : ∀ {L : List (List Int)}, L.flatten.Nodup → L.flatten.erase i = (L.map fun p => if i ∈ p then p.erase i else p).flatten
  | [], _ => rfl
  | p :: L, nd => by
    rw [List.flatten_cons, List.nodup_append] at nd
    obtain ⟨n1, n2, n3⟩ := nd
    rw [List.flatten_cons, List.map_cons, List.flatten_cons]
    by_cases h : i ∈ p
    · rw [List.erase_append_left _ h, if_pos h]
      congr 1
      have hi : i ∉ L.flatten := fun z => n3 i h i z rfl
      have : L.map (fun p => if i ∈ p then p.erase i else p) = L := by
        refine (List.map_congr_left fun q hq => ?_).trans (List.map_id L)
        rw [if_neg fun z => hi (List.mem_flatten.mpr ⟨q, hq, z⟩)]
        rfl
      rw [this]
    · rw [List.erase_append_right _ h, if_neg h, flat_erase n2]
theorem put1_left {b : Bool} {i o : Int} {p r : List Int} (h : o ∈ p) : put1 b i o (p ++ r) = put1 b i o p ++ r := by
  have hl : p.idxOf o + (if b then 1 else 0) ≤ p.length := by
    have := List.idxOf_lt_length_of_mem h
    split <;> omega
  unfold put1
  rw [List.idxOf_append, if_pos h, List.take_append_of_le_length hl, List.drop_append_of_le_length hl]
  simp
theorem put1_right {b : Bool} {i o : Int} {p r : List Int} (h : o ∉ p) : put1 b i o (p ++ r) = p ++ put1 b i o r := by
  unfold put1
  rw [List.idxOf_append, if_neg h, Nat.add_comm (r.idxOf o) p.length, Nat.add_assoc, List.take_length_add_append, List.drop_length_add_append]
  simp
theorem flat_put {b : Bool} {i o : Int} : ∀ {L : List (List Int)}, L.flatten.Nodup → o ∈ L.flatten → put1 b i o L.flatten = (L.map fun p => if o ∈ p then put1 b i o p else p).flatten
  | [], _, h => by simp at h
  | p :: L, nd, ho => by
    rw [List.flatten_cons, List.nodup_append] at nd
    obtain ⟨n1, n2, n3⟩ := nd
    rw [List.flatten_cons, List.map_cons, List.flatten_cons]
    by_cases h : o ∈ p
    · rw [put1_left h, if_pos h]
      congr 1
      have hi : o ∉ L.flatten := fun z => n3 o h o z rfl
      have : L.map (fun p => if o ∈ p then put1 b i o p else p) = L := by
        refine (List.map_congr_left fun q hq => ?_).trans (List.map_id L)
        rw [if_neg fun z => hi (List.mem_flatten.mpr ⟨q, hq, z⟩)]
        rfl
      rw [this]
    · rw [put1_right h, if_neg h, flat_put n2 ((List.mem_append.mp ho).resolve_left h)]
/-- a command on the pieces of a line -/
def stepP (c : Cmd) (p : List Int) : List Int :=
  let q := if c.2.1 ∈ p then p.erase c.2.1 else p
  if c.2.2 ∈ q then put1 c.1 c.2.1 c.2.2 q else q
theorem mvd_flat {c : Cmd} {L : List (List Int)} (nd : L.flatten.Nodup) (ho : c.2.2 ∈ L.flatten) (hn : c.2.1 ≠ c.2.2) : mvd L.flatten c = (L.map (stepP c)).flatten := by
  unfold mvd
  have e1 := flat_erase (i := c.2.1) nd
  have n2 : (L.map fun p => if c.2.1 ∈ p then p.erase c.2.1 else p).flatten.Nodup := e1 ▸ nd.erase _
  have h2 : c.2.2 ∈ (L.map fun p => if c.2.1 ∈ p then p.erase c.2.1 else p).flatten := e1 ▸ mem_erase_ne ho hn
  rw [e1, flat_put n2 h2, List.map_map]
  rfl
/-! ### keys, lookups -/
def keys (B : Bl) : List Int := B.map (·.1)
def rows (B : Bl) : List Int := (B.map (·.2)).flatten
theorem lookup_map {f : List Int → List Int} {i : Int} : ∀ {B : Bl}, (B.map fun p => (p.1, f p.2)).lookup i = (B.lookup i).map f
  | [] => rfl
  | (k, r) :: B => by
    rw [List.map_cons, List.lookup_cons, List.lookup_cons]
    by_cases h : (i == k) = true
    · simp [h]
    · simp [h, lookup_map (B := B)]
theorem lookup_none {i : Int} : ∀ {B : Bl}, i ∉ keys B → B.lookup i = none
  | [], _ => rfl
  | (k, r) :: B, h => by
    have h1 : i ≠ k := fun e => h (by simp [keys, e])
    rw [List.lookup_cons, beq_eq_false_iff_ne.mpr h1]
    exact lookup_none fun z => h (by simp [keys] at z ⊢; exact .inr z)
theorem lookup_some {i : Int} : ∀ {B : Bl}, i ∈ keys B → ∃ r, B.lookup i = some r ∧ (i, r) ∈ B
  | [], h => by simp [keys] at h
  | (k, r) :: B, h => by
    by_cases h1 : i = k
    · subst h1
      exact ⟨r, by simp, by simp⟩
    · obtain ⟨r', e, m⟩ := lookup_some (B := B) (i := i) (by simp [keys, h1] at h ⊢; exact h)
      exact ⟨r', by rw [List.lookup_cons, beq_eq_false_iff_ne.mpr h1]; exact e, List.mem_cons_of_mem _ m⟩
theorem stepB_map (B : Bl) (c : Cmd) : stepB B c = B.map fun p => (p.1, stepP c p.2) := by
  unfold stepB giveB takeB
  rw [List.map_map]
  rfl
theorem keys_map {f : List Int → List Int} {B : Bl} : keys (B.map fun p => (p.1, f p.2)) = keys B := by
  unfold keys
  rw [List.map_map]
  rfl
theorem getB_not {B : Bl} {i : Int} (h : i ∉ keys B) : getB B i = [i] := by unfold getB; rw [lookup_none h]; rfl
theorem getB_step {B : Bl} {c : Cmd} {i : Int} (h1 : c.2.1 ∈ keys B) (h2 : c.2.2 ∈ keys B) : getB (stepB B c) i = stepP c (getB B i) := by
  rw [stepB_map]
  by_cases h : i ∈ keys B
  · obtain ⟨r, e, _⟩ := lookup_some h
    unfold getB
    rw [lookup_map, e]
    rfl
  · rw [getB_not h, getB_not (by rw [keys_map]; exact h)]
    have e1 : c.2.1 ≠ i := fun e => h (e ▸ h1)
    have e2 : c.2.2 ≠ i := fun e => h (e ▸ h2)
    unfold stepP
    simp [e1, e2]
theorem subst_step {B : Bl} {c : Cmd} (h1 : c.2.1 ∈ keys B) (h2 : c.2.2 ∈ keys B) (l : List Int) (nd : (subst B l).Nodup) (ho : c.2.2 ∈ subst B l) (hn : c.2.1 ≠ c.2.2) : subst (stepB B c) l = mvd (subst B l) c := by
  unfold subst at *
  rw [mvd_flat nd ho hn, List.map_map]
  congr 1
  exact List.map_congr_left fun i _ => getB_step h1 h2
theorem subst_start {ns l : List Int} : subst (startB ns) l = l := by
  have e : ∀ i, getB (startB ns) i = [i] := fun i => by
    unfold getB startB
    induction ns with
    | nil => rfl
    | cons n ns ih =>
      rw [List.map_cons, List.lookup_cons]
      by_cases h : i = n
      · subst h; simp
      · rw [beq_eq_false_iff_ne.mpr h]; exact ih
  unfold subst
  rw [List.map_congr_left fun i _ => e i]
  induction l with
  | nil => rfl
  | cons x l ih => simp [ih]
theorem keys_start {ns : List Int} : keys (startB ns) = ns := by unfold keys startB; rw [List.map_map]; exact List.map_id ns
/-- THE LAW OF BLOCKS: the line by the blocks is the line command by command -/
theorem subst_blocks {cs : List Cmd} (it : ∀ c ∈ cs, c.2.1 ≠ c.2.2) {l : List Int} (nd : l.Nodup) (hl : ∀ i ∈ named cs, i ∈ l) : subst (blocks cs) l = mvs l cs := by
  have go : ∀ (ds : List Cmd) (B : Bl) (l' : List Int), (∀ c ∈ ds, c ∈ cs) → keys B = named cs → subst B l = l' → l'.Perm l → subst (ds.foldl stepB B) l = mvs l' ds := fun ds => by
    induction ds with
    | nil => intro B l' _ _ e _; exact e
    | cons c ds ih =>
      intro B l' hc hk e hp
      have hcc := hc c List.mem_cons_self
      have m1 : c.2.1 ∈ named cs := mem_named.mpr (List.mem_flatten.mpr ⟨_, List.mem_map.mpr ⟨c, hcc, rfl⟩, by simp⟩)
      have m2 : c.2.2 ∈ named cs := mem_named.mpr (List.mem_flatten.mpr ⟨_, List.mem_map.mpr ⟨c, hcc, rfl⟩, by simp⟩)
      rw [List.foldl_cons]
      refine ih _ (mvd l' c) (fun x hx => hc x (List.mem_cons_of_mem _ hx)) (by rw [stepB_map, keys_map, hk]) ?_ ((mvd_perm (hp.mem_iff.mpr (hl _ m1))).trans hp)
      rw [subst_step (by rw [hk]; exact m1) (by rw [hk]; exact m2) l (by rw [e]; exact hp.nodup_iff.mpr nd) (by rw [e]; exact hp.mem_iff.mpr (hl _ m2)) (it c hcc), e]
  exact go cs _ l (fun _ h => h) keys_start subst_start (.refl _)
theorem keys_blocks {cs : List Cmd} : keys (blocks cs) = named cs := by
  have go : ∀ (ds : List Cmd) (B : Bl), keys (ds.foldl stepB B) = keys B := fun ds => by
    induction ds with
    | nil => intro B; rfl
    | cons c ds ih => intro B; rw [List.foldl_cons, ih, stepB_map, keys_map]
  unfold blocks
  rw [go, keys_start]
/-! ### effects: each item of the keys stands once -/
structure Eff (N : List Int) (B : Bl) : Prop where
  ks : keys B = N
  nd : N.Nodup
  pm : (rows B).Perm N
theorem rows_subst {B : Bl} (nd : (keys B).Nodup) : subst B (keys B) = rows B := by
  unfold subst rows keys at *
  rw [List.map_map]
  congr 1
  refine List.map_congr_left fun p hp => ?_
  show getB B p.1 = p.2
  unfold getB
  have : ∀ B : Bl, (B.map (·.1)).Nodup → p ∈ B → B.lookup p.1 = some p.2 := fun B => by
    induction B with
    | nil => intro _ h; cases h
    | cons q B ih =>
      intro nd hp
      obtain ⟨k, r⟩ := q
      rw [List.map_cons, List.nodup_cons] at nd
      rw [List.lookup_cons]
      rcases List.mem_cons.mp hp with rfl | hp
      · simp
      · have : p.1 ≠ k := fun e => nd.1 (e ▸ List.mem_map.mpr ⟨p, hp, rfl⟩)
        rw [beq_eq_false_iff_ne.mpr this]
        exact ih nd.2 hp
  rw [this B nd hp]
  rfl
theorem eff_blocks {cs : List Cmd} (it : ∀ c ∈ cs, c.2.1 ≠ c.2.2) : Eff (named cs) (blocks cs) := by
  refine ⟨keys_blocks, named_nd, ?_⟩
  have h := subst_blocks it named_nd (l := named cs) fun _ h => h
  rw [← rows_subst (by rw [keys_blocks]; exact named_nd), keys_blocks, h]
  have go : ∀ (ds : List Cmd) (l : List Int), (∀ c ∈ ds, c.2.1 ∈ l) → (mvs l ds).Perm l := fun ds => by
    induction ds with
    | nil => intro l _; exact .refl _
    | cons c ds ih =>
      intro l hc
      have p := mvd_perm (hc c List.mem_cons_self)
      exact (ih _ fun x hx => p.mem_iff.mpr (hc x (List.mem_cons_of_mem _ hx))).trans p
  exact go cs _ fun c hc => mem_named.mpr (List.mem_flatten.mpr ⟨_, List.mem_map.mpr ⟨c, hc, rfl⟩, by simp⟩)
theorem subst_app {B : Bl} {l m : List Int} : subst B (l ++ m) = subst B l ++ subst B m := by unfold subst; simp
theorem subst_flat {B : Bl} : ∀ {L : List (List Int)}, subst B L.flatten = (L.map (subst B)).flatten
  | [] => rfl
  | p :: L => by rw [List.flatten_cons, subst_app, subst_flat]; rfl
theorem subst_perm {B : Bl} {l m : List Int} (h : l.Perm m) : (subst B l).Perm (subst B m) := by
  unfold subst
  exact (h.map _).flatten
theorem keys_join {A B : Bl} : keys (joinB A B) = keys A := keys_map
theorem getB_join {A B : Bl} (hk : keys A = keys B) (i : Int) : getB (joinB A B) i = subst B (getB A i) := by
  by_cases h : i ∈ keys A
  · obtain ⟨r, e, _⟩ := lookup_some h
    unfold getB joinB
    rw [lookup_map, e]
    rfl
  · rw [getB_not h, getB_not (by rw [keys_join]; exact h)]
    unfold subst
    simp [getB_not (B := B) (hk ▸ h)]
theorem subst_join {A B : Bl} (hk : keys A = keys B) (l : List Int) : subst (joinB A B) l = subst B (subst A l) := by
  unfold subst
  rw [List.map_congr_left fun i _ => getB_join hk i]
  rw [show (l.map fun i => subst B (getB A i)) = (l.map (getB A)).map (subst B) by rw [List.map_map]; rfl, ← subst_flat]
  rfl
theorem join_assoc {A B C : Bl} (hk : keys B = keys C) : joinB (joinB A B) C = joinB A (joinB B C) := by
  unfold joinB
  rw [List.map_map]
  refine List.map_congr_left fun p _ => ?_
  show (p.1, subst C (subst B p.2)) = (p.1, subst (joinB B C) p.2)
  rw [subst_join hk]
theorem join_start {A : Bl} {N : List Int} : joinB A (startB N) = A := by
  unfold joinB
  refine (List.map_congr_left fun p _ => ?_).trans (List.map_id A)
  rw [subst_start]
  rfl
theorem Eff.join {N : List Int} {A B : Bl} (a : Eff N A) (b : Eff N B) : Eff N (joinB A B) := by
  refine ⟨keys_join.trans a.ks, a.nd, ?_⟩
  have e : rows (joinB A B) = subst B (rows A) := by
    unfold rows joinB
    rw [List.map_map, subst_flat, List.map_map]
    rfl
  rw [e]
  refine (subst_perm a.pm).trans ?_
  rw [← b.ks, rows_subst (by rw [b.ks]; exact b.nd), b.ks]
  exact b.pm
theorem eff_start {N : List Int} (h : N.Nodup) : Eff N (startB N) := by
  refine ⟨keys_start, h, ?_⟩
  have : rows (startB N) = N := by
    rw [← rows_subst (by rw [keys_start]; exact h), subst_start, keys_start]
  rw [this]
/-- n times -/
def powB (N : List Int) (B : Bl) : Nat → Bl
  | 0 => startB N
  | n + 1 => joinB (powB N B n) B
theorem eff_pow {N : List Int} {B : Bl} (b : Eff N B) : ∀ n, Eff N (powB N B n)
  | 0 => eff_start b.nd
  | n + 1 => (eff_pow b n).join b
theorem start_join {N : List Int} {B : Bl} (b : Eff N B) : joinB (startB N) B = B := by
  have nd := b.nd
  have h : ∀ (N' : List Int) (B' : Bl), keys B' = N' → (∀ p ∈ B', getB B p.1 = p.2) → joinB (startB N') B = B' := fun N' B' => by
    induction B' generalizing N' with
    | nil => intro e _; subst e; rfl
    | cons p B' ih =>
      intro e hp
      subst e
      show ((p.1, subst B [p.1]) :: joinB (startB (keys B')) B) = _
      rw [ih _ rfl fun q hq => hp q (List.mem_cons_of_mem _ hq)]
      have : subst B [p.1] = p.2 := by
        unfold subst
        simp [hp p List.mem_cons_self]
      rw [this]
  refine h N B b.ks fun p hp => ?_
  have e := rows_subst (B := B) (by rw [b.ks]; exact b.nd)
  -- the lookup of its own key
  have look : ∀ B : Bl, (B.map (·.1)).Nodup → p ∈ B → B.lookup p.1 = some p.2 := fun B => by
    induction B with
    | nil => intro _ h; cases h
    | cons q B ih =>
      intro nd hp
      obtain ⟨k, r⟩ := q
      rw [List.map_cons, List.nodup_cons] at nd
      rw [List.lookup_cons]
      rcases List.mem_cons.mp hp with rfl | hp
      · simp
      · have : p.1 ≠ k := fun e => nd.1 (e ▸ List.mem_map.mpr ⟨p, hp, rfl⟩)
        rw [beq_eq_false_iff_ne.mpr this]
        exact ih nd.2 hp
  unfold getB
  rw [look B (by have := b.nd; rw [← b.ks] at this; exact this) hp]
  rfl
theorem pow_add {N : List Int} {B : Bl} (b : Eff N B) (m : Nat) : ∀ n, joinB (powB N B m) (powB N B n) = powB N B (m + n)
  | 0 => join_start
  | n + 1 => by
    show joinB (powB N B m) (joinB (powB N B n) B) = joinB (powB N B (m + n)) B
    rw [← join_assoc (by rw [(eff_pow b n).ks, b.ks]), pow_add b m n]
theorem pow_one {N : List Int} {B : Bl} (b : Eff N B) : powB N B 1 = B := start_join b
theorem pow_two {N : List Int} {B : Bl} (b : Eff N B) (n : Nat) : joinB (powB N B n) (powB N B n) = powB N B (2 * n) := by rw [pow_add b, Nat.two_mul]
end Mv

namespace Pr
open PySem Py Mv
variable {t : Tb} [Has t] {k : Nat} {A : AH} {X : Dx} {Q : Dk}
theorem sp_block_in {B : Bl} {i : Int} (h : Q (linD (getB B i)) A) : cal t (k + 1) "block_in" [blkD B, .int i] A X Q := by
  refine calN_eq t_block_in rfl ?_
  walk_at "run"
  have e : (lookK (kvB B) (.inl i)).getD (.tup [.int i]) = linD (getB B i) := getD_kvB B i
  rw [e]
  exact .id h
theorem keys_kv (B : Bl) : ((kvB B).map (·.1)).map keyD = B.map fun p => D.int p.1 := by rw [List.map_map, List.map_map]; rfl
theorem look_at : ∀ {B : Bl} {p : Int × List Int}, (keys B).Nodup → p ∈ B → B.lookup p.1 = some p.2
  | [], _, _, h => by cases h
  | (k, r) :: B, p, nd, hp => by
    unfold keys at nd
    rw [List.map_cons, List.nodup_cons] at nd
    rw [List.lookup_cons]
    rcases List.mem_cons.mp hp with rfl | hp
    · simp
    · have : p.1 ≠ k := fun e => nd.1 (e ▸ List.mem_map.mpr ⟨p, hp, rfl⟩)
      rw [beq_eq_false_iff_ne.mpr this]
      exact look_at nd.2 hp
theorem kv_put {B : Bl} {i : Int} {r : List Int} (h : i ∉ keys B) : setK (kvB B) (.inl i) (linD r) = kvB (B ++ [(i, r)]) := by
  rw [setK_new]
  · simp [kvB]
  · intro z
    obtain ⟨p, hp, e⟩ := List.mem_map.mp z
    obtain ⟨q, hq, rfl⟩ := List.mem_map.mp hp
    exact h (Sum.inl.inj e ▸ List.mem_map.mpr ⟨q, hq, rfl⟩)
theorem foldl_app {α : Type} (f : α → List Int) : ∀ (l : List α) (acc : List Int), l.foldl (fun acc i => acc ++ f i) acc = acc ++ (l.map f).flatten
  | [], acc => by simp
  | x :: l, acc => by rw [List.foldl_cons, foldl_app f l]; simp
theorem sp_joined_in {B O : Bl} (nd : (keys B).Nodup) (hl : B.length ≤ 1000) (hB : ∀ p ∈ B, p.2.length ≤ 1000) (hO : ∀ i, (getB O i).length ≤ 1000) (h : Q (blkD (joinB B O)) A) : cal t (k + 2) "joined_in" [blkD B, blkD O] A X Q := by
  refine calN_eq t_joined_in rfl ?_
  walk_at "run"
  refine .new fun p hp => ?_
  walk_at "run"
  rw [keys_kv]
  refine for_st (β := Bl) (b := []) (e := fun p : Int × List Int => D.int p.1) (fun b r σ A' => A' = put A p (.dct (kvB (joinB b O))) ∧ σ = [some (blkD B), some (blkD O), some (.ref p), none, none, none] ∧ b ++ r = B) (fun b p => b ++ [p]) B ⟨rfl, rfl, rfl⟩ (fun _ _ _ _ _ => holds_nil) ?_ ?_
  · rintro b ⟨i, row⟩ r σ A' nx hx ⟨rfl, rfl, hbr⟩ hk
    walk_at "run"
    have el : lookK (kvB B) (.inl i) = some (linD row) := by rw [lookK_kvB, look_at nd hx]; rfl
    rw [el]
    walk_at "run"
    refine for_st (β := List Int) (b := []) (e := D.int) (fun acc r σ A' => A' = put A p (.dct (kvB (joinB b O))) ∧ σ = [some (blkD B), some (blkD O), some (.ref p), some (.int i), some (linD acc), none] ∧ acc.length + 1000 * r.length ≤ 1000000) (fun acc j => acc ++ getB O j) row ⟨rfl, rfl, by have h9 : row.length ≤ 1000 := hB _ hx; rw [List.length_nil]; omega⟩ (fun _ _ _ _ _ => holds_nil) ?_ ?_
    · rintro acc j r σ A' nx hj ⟨rfl, rfl, hz⟩ hk
      walk_at "run"
      refine sp_block_in ?_
      have h1 := hO j
      have h2 : acc.length + 1000 * (r.length + 1) ≤ 1000000 := by simpa using hz
      walk_at "run"
      refine ⟨by simp; rw [PySem.sizeLine_eq]; omega, ?_⟩
      have e2 : acc.map D.int ++ (getB O j).map D.int = (acc ++ getB O j).map D.int := by simp
      rw [e2]
      exact hk _ _ ⟨rfl, rfl, by simp; omega⟩
    · rintro σ A' ⟨rfl, rfl, _⟩
      rw [foldl_app, List.nil_append]
      walk_at "run"
      have hn : i ∉ keys (joinB b O) := fun z => by
        rw [keys_join] at z
        rw [← hbr] at nd
        unfold keys at nd z
        rw [List.map_append, List.nodup_append] at nd
        exact nd.2.2 i z i (by simp) rfl
      refine ⟨?_, ?_⟩
      · have : b.length ≤ B.length := by rw [← hbr]; simp
        unfold joinB
        simp
        rw [PySem.sizeLine_eq]
        omega
      · refine hk _ _ ⟨?_, rfl, by simpa using hbr⟩
        rw [put_put, kv_put hn]
        simp [joinB, subst]
  · rintro σ A' ⟨rfl, rfl, hb⟩
    rw [List.append_nil] at hb
    rw [hb]
    walk_at "run"
    exact .dct put_same (Sub.fresh hp) hp h
theorem sp_line_by {B : Bl} {l : List Int} (hl : l.length ≤ 1000) (hB : ∀ i, (getB B i).length ≤ 1000) (h : Q (linD (subst B l)) A) : cal t (k + 2) "line_by" [linD l, blkD B] A X Q := by
  refine calN_eq t_line_by rfl ?_
  walk_at "run"
  refine for_st (β := List Int) (b := []) (e := D.int) (fun acc r σ A' => A' = A ∧ σ = [none, some (blkD B), some (linD acc), none] ∧ acc.length + 1000 * r.length ≤ 1000000) (fun acc j => acc ++ getB B j) l ⟨rfl, rfl, by rw [List.length_nil]; omega⟩ (fun _ _ _ _ _ => holds_nil) ?_ ?_
  · rintro acc j r σ A' nx hj ⟨rfl, rfl, hz⟩ hk
    walk_at "run"
    refine sp_block_in ?_
    have h1 := hB j
    have h2 : acc.length + 1000 * (r.length + 1) ≤ 1000000 := by simpa using hz
    walk_at "run"
    refine ⟨by simp; rw [PySem.sizeLine_eq]; omega, ?_⟩
    have e2 : acc.map D.int ++ (getB B j).map D.int = (acc ++ getB B j).map D.int := by simp
    rw [e2]
    exact hk _ _ ⟨rfl, rfl, by simp; omega⟩
  · rintro σ A' ⟨rfl, rfl, _⟩
    rw [foldl_app, List.nil_append]
    walk_at "run"
    exact .id h
theorem sp_moved_in_block {b : Bool} {i o : Int} {l : List Int} (hz : l.length ≤ 1000) (h1 : o ∈ l) (h : Q (linD (put1 b i o l)) A) : cal t (k + 1) "moved_in_block" [linD l, .str (wd b), .int i, .int o] A X Q := by
  refine calN_eq t_moved_in_block rfl ?_
  walk_at "run"
  rw [int_beh b (l.idxOf o), cut_hi]
  refine ⟨by simp; rw [PySem.sizeLine_eq]; omega, ?_⟩
  walk_at "run"
  rw [cut_lo]
  refine ⟨by simp; rw [PySem.sizeLine_eq]; omega, ?_⟩
  have e3 : ((l.map D.int).take (l.idxOf o + (if b then 1 else 0)) ++ [D.int i]) ++ (l.map D.int).drop (l.idxOf o + (if b then 1 else 0)) = (put1 b i o l).map D.int := by
    unfold put1
    simp
  rw [e3]
  walk_at "run"
  exact .id h
/-- an entry of a dict is changed as the loop over its items comes to it -/
theorem kv_set {a b : Bl} {i : Int} {r r' : List Int} (nd : (keys (a ++ (i, r) :: b)).Nodup) : setK (kvB (a ++ (i, r) :: b)) (.inl i) (linD r') = kvB (a ++ (i, r') :: b) := by
  have e : ∀ x : List Int, kvB (a ++ (i, x) :: b) = kvB a ++ (.inl i, linD x) :: kvB b := fun x => by simp [kvB]
  rw [e, e]
  unfold keys at nd
  rw [List.map_append, List.map_cons, List.nodup_append, List.nodup_cons] at nd
  refine setK_at (fun z => ?_) fun z => ?_
  · obtain ⟨p, hp, e⟩ := List.mem_map.mp z
    obtain ⟨q, hq, rfl⟩ := List.mem_map.mp hp
    exact nd.2.2 i (Sum.inl.inj e ▸ List.mem_map.mpr ⟨q, hq, rfl⟩) i (by simp) rfl
  · obtain ⟨p, hp, e⟩ := List.mem_map.mp z
    obtain ⟨q, hq, rfl⟩ := List.mem_map.mp hp
    exact nd.2.1.1 (Sum.inl.inj e ▸ List.mem_map.mpr ⟨q, hq, rfl⟩)
theorem items_kv (B : Bl) : (kvB B).map (fun p => D.tup [keyD p.1, p.2]) = B.map fun p => D.tup [.int p.1, linD p.2] := by rw [List.map_map]; rfl
theorem erase_cut {l : List Int} {i : Int} (h : i ∈ l) : (l.map D.int).take (l.idxOf i) ++ (l.map D.int).drop (l.idxOf i + 1) = (l.erase i).map D.int := by rw [← erase_take h]; simp
set_option maxHeartbeats 4000000 in
theorem sp_blocks_inW {cs : List Cmd} (v : WScr cs) (h : Q (blkD (blocks cs)) A) : cal t (k + 2) "blocks_in" [scrD cs] A X Q := by
  refine calN_eq t_blocks_in rfl ?_
  walk_at "run"
  refine sp_named_inW v ?_
  walk_at "run"
  intro L hL
  have hnl : (named cs).length ≤ 60 := items_len named_nd (named_it v.it)
  refine dc_map (e := D.int) (p := fun _ => true) (gk := Sum.inl) (g := fun i => linD [i]) hL (named cs) (by rw [PySem.sizeLine_eq]; omega) (fun _ => holds_nil) ?_ ?_
  · intro x hx
    refine ⟨_, fun k h => h, fun A' R h _ => h, fun _ A' R h _ => h, fun _ A' R h _ => ?_⟩
    walk_at "run"
    exact h
  refine .keep ?_
  rw [filter_yes, mergK_new _ _ (by
    rw [List.map_map]
    simp only [List.map_nil, List.nil_append]
    exact List.Pairwise.map _ (fun a b h e => h (Sum.inl.inj e)) (named_nd (cs := cs)))]
  walk_at "run"
  have es : [] ++ (named cs).map (fun x => ((Sum.inl x : L2.Key), linD [x])) = kvB (startB (named cs)) := by unfold startB; show _ = List.map _ (List.map _ _); rw [List.map_map]; rfl
  rw [es]
  refine for_st (β := Bl) (e := cmdD) (fun B r σ A' => A' = put A L (.dct (kvB B)) ∧ σ = [none, some (.ref L), none, none, none, none, none, none] ∧ keys B = named cs ∧ ∀ p ∈ B, p.2.length + r.length ≤ 201) stepB cs ⟨rfl, rfl, keys_start, fun p hp => ?_⟩ (fun _ _ _ _ _ => holds_nil) ?_ ?_
  · obtain ⟨x, _, rfl⟩ := List.mem_map.mp hp
    have := v.len
    show 1 + cs.length ≤ 201
    omega
  · rintro B ⟨b, i, o⟩ r σ A' nx hc ⟨rfl, rfl, hk, hz⟩ hnx
    have nd : (keys B).Nodup := by rw [hk]; exact named_nd
    have hz' : ∀ p ∈ B, p.2.length + r.length ≤ 200 := fun p hp => by have := hz p hp; rw [List.length_cons] at this; omega
    show bindT _ (.tup [.str (wd b), .int i, .int o]) _ _
    walk_at "runz"
    rw [items_kv]
    refine for_st (β := Bl) (b := []) (e := fun p : Int × List Int => D.tup [.int p.1, linD p.2]) (fun d r' σ A' => A' = put A L (.dct (kvB (d ++ r'))) ∧ σ = [none, some (.ref L), some (.int i), some (.str (wd b)), some (.int o), none, none, none] ∧ keys (d ++ r') = named cs) (fun d p => d ++ [(p.1, if i ∈ p.2 then p.2.erase i else p.2)]) B ⟨rfl, rfl, hk⟩ (fun _ _ _ _ _ => holds_nil) ?_ ?_
    · rintro d ⟨key, row⟩ r' σ A' nx2 hp ⟨rfl, rfl, kk⟩ hk2
      have nd2 : (keys (d ++ (key, row) :: r')).Nodup := by rw [kk]; exact named_nd
      have hr : row.length + r.length ≤ 200 := hz' _ hp
      walk_at "run"
      refine ⟨flat_ints, ?_⟩
      rw [inF_int]
      have nd3 : ∀ x : List Int, keys (d ++ [(key, x)] ++ r') = keys (d ++ (key, row) :: r') := fun x => by simp [keys]
      by_cases hi : i ∈ row
      · walk_at "run"
        rw [cut_hi, cut_lo1]
        refine ⟨by simp; rw [PySem.sizeLine_eq]; omega, ?_⟩
        rw [erase_cut hi]
        walk_at "run"
        have hlen : (d ++ (key, row) :: r').length ≤ 60 := by
          have : (keys (d ++ (key, row) :: r')).length ≤ 60 := by rw [kk]; exact hnl
          unfold keys at this
          rwa [List.length_map] at this
        refine ⟨by have : (kvB (d ++ (key, row) :: r')).length = (d ++ (key, row) :: r').length := List.length_map _; rw [PySem.sizeLine_eq]; omega, ?_⟩
        have e5 : (row.erase i).map D.int = (row.erase i).map D.int := rfl
        refine hk2 _ _ ⟨?_, rfl, ?_⟩
        · rw [put_put, kv_set nd2]
          simp [hi]
        · rw [nd3]; exact kk
      · walk_at "run"
        refine hk2 _ _ ⟨?_, rfl, ?_⟩
        · simp [hi]
        · rw [nd3]; exact kk
    rintro σ A' ⟨rfl, rfl, _⟩
    have ef : ∀ (f : List Int → List Int) (B d : Bl), B.foldl (fun d p => d ++ [(p.1, f p.2)]) d = d ++ B.map fun p => (p.1, f p.2) := fun f B => by
      induction B with
      | nil => intro d; simp
      | cons p B ih => intro d; rw [List.foldl_cons, ih]; simp
    rw [ef (fun r => if i ∈ r then r.erase i else r), List.nil_append, List.append_nil]
    have e6 : (B.map fun p => (p.1, if i ∈ p.2 then p.2.erase i else p.2)) = takeB i B := rfl
    rw [e6]
    have kT : keys (takeB i B) = named cs := (keys_map (f := fun r => if i ∈ r then r.erase i else r) (B := B)).trans hk
    have hzT : ∀ p ∈ takeB i B, p.2.length + r.length ≤ 200 := fun p hp => by
      obtain ⟨q, hq, rfl⟩ := List.mem_map.mp hp
      have := hz' q hq
      show (if i ∈ q.2 then q.2.erase i else q.2).length + r.length ≤ 200
      split
      · have := List.length_erase_le (a := i) (l := q.2); omega
      · exact this
    walk_at "runz"
    rw [items_kv]
    refine for_st (β := Bl) (b := []) (e := fun p : Int × List Int => D.tup [.int p.1, linD p.2]) (fun d r' σ A' => A' = put A L (.dct (kvB (d ++ r'))) ∧ σ = [none, some (.ref L), some (.int i), some (.str (wd b)), some (.int o), none, none, none] ∧ keys (d ++ r') = named cs) (fun d p => d ++ [(p.1, if o ∈ p.2 then put1 b i o p.2 else p.2)]) (takeB i B) ⟨rfl, rfl, kT⟩ (fun _ _ _ _ _ => holds_nil) ?_ ?_
    · rintro d ⟨key, row⟩ r' σ A' nx2 hp ⟨rfl, rfl, kk⟩ hk2
      have nd2 : (keys (d ++ (key, row) :: r')).Nodup := by rw [kk]; exact named_nd
      have hr : row.length + r.length ≤ 200 := hzT _ hp
      walk_at "run"
      refine ⟨flat_ints, ?_⟩
      rw [inF_int]
      have nd3 : ∀ x : List Int, keys (d ++ [(key, x)] ++ r') = keys (d ++ (key, row) :: r') := fun x => by simp [keys]
      by_cases hi : o ∈ row
      · walk_at "run"
        refine sp_moved_in_block (l := row) (by omega) hi ?_
        walk_at "run"
        have hlen : (d ++ (key, row) :: r').length ≤ 60 := by
          have : (keys (d ++ (key, row) :: r')).length ≤ 60 := by rw [kk]; exact hnl
          unfold keys at this
          rwa [List.length_map] at this
        refine ⟨by have : (kvB (d ++ (key, row) :: r')).length = (d ++ (key, row) :: r').length := List.length_map _; rw [PySem.sizeLine_eq]; omega, ?_⟩
        refine hk2 _ _ ⟨?_, rfl, ?_⟩
        · rw [put_put, kv_set nd2]
          simp [hi]
        · rw [nd3]; exact kk
      · walk_at "run"
        refine hk2 _ _ ⟨?_, rfl, ?_⟩
        · simp [hi]
        · rw [nd3]; exact kk
    rintro σ A' ⟨rfl, rfl, _⟩
    rw [ef (fun r => if o ∈ r then put1 b i o r else r), List.nil_append, List.append_nil]
    have e7 : ((takeB i B).map fun p => (p.1, if o ∈ p.2 then put1 b i o p.2 else p.2)) = stepB B (b, i, o) := rfl
    rw [e7]
    walk_at "run"
    refine hnx _ _ ⟨rfl, rfl, ?_, fun p hp => ?_⟩
    · exact (keys_map (f := fun r => if o ∈ r then put1 b i o r else r) (B := takeB i B)).trans kT
    · rw [← e7] at hp
      obtain ⟨q, hq, rfl⟩ := List.mem_map.mp hp
      have := hzT q hq
      show (if o ∈ q.2 then put1 b i o q.2 else q.2).length + r.length ≤ 201
      split
      · have := (put1_perm (b := b) (i := i) (o := o) (r := q.2)).length_eq
        rw [List.length_cons] at this
        omega
      · omega
  · rintro σ A' ⟨rfl, rfl, _⟩
    walk_at "run"
    refine .dct put_same (Sub.fresh hL) hL ?_
    exact h
theorem sp_blocks_in {cs : List Cmd} (v : VScr cs) (h : Q (blkD (blocks cs)) A) : cal t (k + 2) "blocks_in" [scrD cs] A X Q := sp_blocks_inW v.w h
theorem Eff.get_len {N : List Int} {B : Bl} (e : Eff N B) (hN : N.length ≤ 60) (i : Int) : (getB B i).length ≤ 60 := by
  by_cases h : i ∈ keys B
  · obtain ⟨r, e1, hm⟩ := lookup_some h
    have h2 : r.length ≤ (rows B).length := by
      have : r ∈ B.map (·.2) := List.mem_map.mpr ⟨_, hm, rfl⟩
      unfold rows
      exact (List.sublist_flatten_of_mem this).length_le
    have h3 := e.pm.length_eq
    unfold getB
    rw [e1]
    show r.length ≤ 60
    omega
  · rw [getB_not h]
    simp
theorem Eff.row_len {N : List Int} {B : Bl} (e : Eff N B) (hN : N.length ≤ 60) : ∀ p ∈ B, p.2.length ≤ 60 := fun p hm => by
  have : p.2 ∈ B.map (·.2) := List.mem_map.mpr ⟨_, hm, rfl⟩
  have h2 := (List.sublist_flatten_of_mem this).length_le
  have h3 := e.pm.length_eq
  unfold rows at h3
  omega
theorem Eff.len {N : List Int} {B : Bl} (e : Eff N B) : B.length = N.length := by rw [← e.ks]; unfold keys; rw [List.length_map]
theorem sp_joined {N : List Int} {B O : Bl} (a : Eff N B) (b : Eff N O) (hN : N.length ≤ 60) (h : Q (blkD (joinB B O)) A) : cal t (k + 2) "joined_in" [blkD B, blkD O] A X Q :=
  sp_joined_in (by rw [a.ks]; exact a.nd) (by have := Eff.len a; omega) (fun p hp => by have := Eff.row_len a hN p hp; omega) (fun i => by have := Eff.get_len b hN i; omega) h
set_option maxHeartbeats 2000000 in
theorem sp_powers {N : List Int} {B : Bl} {n : Nat} (b : Eff N B) (hN : N.length ≤ 60) (hn : n < 2 ^ 200) (h : Q (blkD (powB N B n)) A) : cal t (k + 3) "powers" [blkD B, .int n] A X Q := by
  refine calN_eq t_powers rfl ?_
  walk_at "run"
  intro L hL
  rw [keys_kv]
  refine dc_map (e := fun p : Int × List Int => D.int p.1) (p := fun _ => true) (gk := fun p => Sum.inl p.1) (g := fun p => linD [p.1]) hL B (by have := Eff.len b; rw [PySem.sizeLine_eq]; omega) (fun _ => holds_nil) ?_ ?_
  · intro x hx
    refine ⟨_, fun k h => h, fun A' R h _ => h, fun _ A' R h _ => h, fun _ A' R h _ => ?_⟩
    walk_at "run"
    exact h
  refine .fz put_same ?_
  rw [rem_put hL, filter_yes, mergK_new _ _ (by
    rw [List.map_map]
    simp only [List.map_nil, List.nil_append]
    have nd : (keys B).Nodup := by rw [b.ks]; exact b.nd
    unfold keys at nd
    exact List.Pairwise.map (f := Sum.inl) (S := (· ≠ ·)) (fun a b h e => h (Sum.inl.inj e)) nd |> fun z => by rwa [List.map_map] at z)]
  have es : [] ++ B.map (fun p => ((Sum.inl p.1 : L2.Key), linD [p.1])) = kvB (startB N) := by
    rw [← b.ks]
    unfold startB keys
    show _ = List.map _ (List.map _ _)
    rw [List.map_map, List.map_map]
    rfl
  rw [es]
  have ebit : ∀ m : Nat, m % 2 + 2 * (m / 2) = m := fun m => by omega
  walk_at "run"
  refine whl_by (fun m σ A' => A' = A ∧ ∃ (r a j : Nat), r < 2 ^ m ∧ a + j * r = n ∧ σ = [some (blkD (powB N B j)), some (.int r), some (blkD (powB N B a)), none]) ?_ 200 ?_
  · rintro m σ A' nx ⟨rfl, r, a, j, hr, he, rfl⟩ hk
    walk_at "run"
    by_cases h0 : (0 : Int) < (r : Int)
    · walk_at "run"
      have e2 : ((r : Int) % 2 = 1) ↔ r % 2 = 1 := by omega
      have e3 : ((r : Int) / 2) = ((r / 2 : Nat) : Int) := by omega
      obtain ⟨m, rfl⟩ : ∃ m', m = m' + 1 := by
        cases m with
        | zero => simp at hr; omega
        | succ m => exact ⟨m, rfl⟩
      have hr2 : r / 2 < 2 ^ m := by rw [Nat.pow_succ] at hr; omega
      have hd := ebit r
      by_cases h1 : (r : Int) % 2 = 1
      · walk_at "run"
        refine sp_joined (eff_pow b a) (eff_pow b j) hN ?_
        rw [pow_add b]
        walk_at "run"
        rw [e3]
        by_cases h2 : (0 : Int) < ((r / 2 : Nat) : Int)
        · walk_at "run"
          refine sp_joined (eff_pow b j) (eff_pow b j) hN ?_
          rw [pow_two b]
          walk_at "run"
          refine hk m _ _ rfl ⟨rfl, r / 2, a + j, 2 * j, hr2, ?_, rfl⟩
          have : r = 1 + 2 * (r / 2) := by have := e2.mp h1; omega
          have h9 : j * r = j * (1 + 2 * (r / 2)) := by rw [← this]
          rw [Nat.mul_add, Nat.mul_one] at h9
          have h10 : j * (2 * (r / 2)) = 2 * j * (r / 2) := by rw [← Nat.mul_assoc, Nat.mul_comm j 2]
          omega
        · walk_at "run"
          refine hk m _ _ rfl ⟨rfl, r / 2, a + j, j, hr2, ?_, rfl⟩
          have h3 : r / 2 = 0 := by omega
          have : r = 1 := by have := e2.mp h1; omega
          rw [h3]
          subst this
          omega
      · walk_at "run"
        rw [e3]
        have h2 : (0 : Int) < ((r / 2 : Nat) : Int) := by omega
        walk_at "run"
        refine sp_joined (eff_pow b j) (eff_pow b j) hN ?_
        rw [pow_two b]
        walk_at "run"
        refine hk m _ _ rfl ⟨rfl, r / 2, a, 2 * j, hr2, ?_, rfl⟩
        have : r = 2 * (r / 2) := by omega
        have h9 : j * r = j * (2 * (r / 2)) := by rw [← this]
        have h10 : j * (2 * (r / 2)) = 2 * j * (r / 2) := by rw [← Nat.mul_assoc, Nat.mul_comm j 2]
        omega
    · walk_at "run"
      have : r = 0 := by omega
      subst this
      have : a = n := by omega
      subst this
      exact .id h
  · refine ⟨rfl, n, 0, 1, hn, by omega, ?_⟩
    rw [pow_one b]
    rfl
set_option maxHeartbeats 1000000 in
theorem sp_after_times [PT.Has t] {l : List Int} {cs : List Cmd} {n : Nat} (vl : VLine l) (v : VScr cs) (hl : ∀ i ∈ named cs, i ∈ l) (hn : n ≤ 10 ^ 30) (h : Q (linD (subst (powB (named cs) (blocks cs) n) l)) A) : cal t (k + 7) "after_times" [linD l, scrD cs, .int n] A X Q := by
  have vi : ∀ c ∈ cs, c.2.1 ≠ c.2.2 := fun c hc => (v.it c hc).2.2
  have hN : (named cs).length ≤ 60 := items_len named_nd (named_it v.it)
  have ef := eff_pow (eff_blocks vi) n
  refine calN_eq PT.t_after_times rfl ?_
  walk_at "run"
  refine sp_require_line vl ?_
  walk_at "run"
  refine sp_require_script v ?_
  walk_at "run"
  refine sp_require_times (by omega) (by omega) ?_
  walk_at "run"
  refine sp_named_in v ?_
  walk_at "run"
  refine sp_require_there hl (by omega) ?_
  walk_at "run"
  refine sp_blocks_in v ?_
  walk_at "run"
  refine sp_powers (eff_blocks vi) hN (Nat.lt_of_le_of_lt hn (by decide)) ?_
  walk_at "run"
  refine sp_line_by (by have := vl.len; omega) (fun i => by have := Eff.get_len ef hN i; omega) ?_
  walk_at "run"
  exact .id h
theorem sp_blocks_after [PT.Has t] {cs : List Cmd} {n : Nat} (v : VScr cs) (hn : n ≤ 10 ^ 30) (h : Q (blkD (powB (named cs) (blocks cs) n)) A) : cal t (k + 7) "blocks_after" [scrD cs, .int n] A X Q := by
  have vi : ∀ c ∈ cs, c.2.1 ≠ c.2.2 := fun c hc => (v.it c hc).2.2
  have hN : (named cs).length ≤ 60 := items_len named_nd (named_it v.it)
  refine calN_eq PT.t_blocks_after rfl ?_
  walk_at "run"
  refine sp_require_script v ?_
  walk_at "run"
  refine sp_require_times (by omega) (by omega) ?_
  walk_at "run"
  refine sp_blocks_in v ?_
  walk_at "run"
  refine sp_powers (eff_blocks vi) hN (Nat.lt_of_le_of_lt hn (by decide)) ?_
  walk_at "run"
  exact .id h
end Pr

/-! Sources, rings, turns: plain. -/
namespace Mv
open PySem Py Pr
theorem lookup_nd {β : Type} : ∀ {l : List (Int × β)} {a : Int} {b : β}, (l.map (·.1)).Nodup → (a, b) ∈ l → l.lookup a = some b
  | q :: l, a, b, nd, h => by
    obtain ⟨c, d⟩ := q
    rw [List.map_cons, List.nodup_cons] at nd
    rw [List.lookup_cons]
    rcases List.mem_cons.mp h with e | h
    · cases e; simp
    · have : a ≠ c := fun e => nd.1 (e ▸ List.mem_map.mpr ⟨_, h, rfl⟩)
      rw [beq_eq_false_iff_ne.mpr this]
      exact lookup_nd nd.2 h
theorem perm_of_sub : ∀ {l m : List Int}, l.Nodup → (∀ x ∈ l, x ∈ m) → m.length ≤ l.length → l.Perm m
  | [], m, _, _, h => by
    have : m = [] := List.length_eq_zero_iff.mp (by simpa using h)
    rw [this]
  | a :: l, m, nd, hs, h => by
    rw [List.nodup_cons] at nd
    have ha := hs a List.mem_cons_self
    have hne : ∀ x, x ∈ l → x ≠ a := fun x hx e => nd.1 (by rw [← e]; exact hx)
    have := perm_of_sub (m := m.erase a) nd.2 (fun x hx => (List.mem_erase_of_ne (hne x hx)).mpr (hs x (List.mem_cons_of_mem _ hx))) (by rw [List.length_erase_of_mem ha]; rw [List.length_cons] at h; omega)
    exact (List.Perm.cons a this).trans (List.perm_cons_erase ha).symm
theorem len_of_sub : ∀ {l m : List Int}, l.Nodup → (∀ x ∈ l, x ∈ m) → l.length ≤ m.length
  | [], _, _, _ => Nat.zero_le _
  | a :: l, m, nd, hs => by
    rw [List.nodup_cons] at nd
    have ha := hs a List.mem_cons_self
    have hne : ∀ x, x ∈ l → x ≠ a := fun x hx e => nd.1 (by rw [← e]; exact hx)
    have := len_of_sub (m := m.erase a) nd.2 fun x hx => (List.mem_erase_of_ne (hne x hx)).mpr (hs x (List.mem_cons_of_mem _ hx))
    have h2 := List.length_pos_of_mem ha
    rw [List.length_erase_of_mem ha] at this
    rw [List.length_cons]
    omega
/-- two equal among too many -/
theorem pigeon {N : List Int} {f : Nat → Int} (h : ∀ j, f j ∈ N) : ∃ a b, a < b ∧ b ≤ N.length ∧ f a = f b := by
  apply Classical.byContradiction
  intro hn
  have nd : ((List.range (N.length + 1)).map f).Nodup := by
    rw [List.nodup_iff_pairwise_ne, List.pairwise_map]
    refine List.Pairwise.imp_of_mem ?_ (List.pairwise_lt_range (n := N.length + 1))
    intro a b ha hb hlt e
    exact hn ⟨a, b, hlt, by have := List.mem_range.mp hb; omega, e⟩
  have := len_of_sub nd fun x hx => by
    obtain ⟨j, _, rfl⟩ := List.mem_map.mp hx
    exact h j
  simp at this
  omega
variable {N : List Int} {B P : Bl} {i j k : Int}
theorem Eff.nodK (e : Eff N B) : (keys B).Nodup := by rw [e.ks]; exact e.nd
theorem Eff.row (e : Eff N B) (h : k ∈ N) : (k, getB B k) ∈ B := by
  obtain ⟨r, e1, e2⟩ := lookup_some (B := B) (i := k) (by rw [e.ks]; exact h)
  unfold getB
  rw [e1]
  exact e2
theorem Eff.get_at (e : Eff N B) {p : Int × List Int} (h : p ∈ B) : getB B p.1 = p.2 := by
  unfold getB
  rw [look_at e.nodK h]
  rfl
theorem Eff.key (e : Eff N B) {p : Int × List Int} (h : p ∈ B) : p.1 ∈ N := by
  rw [← e.ks]
  exact List.mem_map.mpr ⟨p, h, rfl⟩
theorem Eff.sub (e : Eff N B) (h : k ∈ N) (hi : i ∈ getB B k) : i ∈ N := by
  refine e.pm.mem_iff.mp (List.mem_flatten.mpr ⟨getB B k, List.mem_map.mpr ⟨_, e.row h, rfl⟩, hi⟩)
theorem Eff.get_nd (e : Eff N B) (h : k ∈ N) : (getB B k).Nodup := by
  have nd : (rows B).Nodup := e.pm.nodup_iff.mpr e.nd
  exact (List.pairwise_flatten.mp nd).1 _ (List.mem_map.mpr ⟨_, e.row h, rfl⟩)
/-- for each item the key whose row holds it -/
def goL (B : Bl) : List (Int × Int) := (B.map fun p => p.2.map fun i => (i, p.1)).flatten
def src (B : Bl) (i : Int) : Int := ((goL B).lookup i).getD i
theorem goL_keys (B : Bl) : (goL B).map (·.1) = rows B := by
  unfold goL rows
  rw [List.map_flatten, List.map_map]
  congr 1
  refine List.map_congr_left fun p _ => ?_
  show (p.2.map fun i => (i, p.1)).map (·.1) = p.2
  rw [List.map_map]
  exact List.map_id _
theorem Eff.go_nd (e : Eff N B) : ((goL B).map (·.1)).Nodup := by rw [goL_keys]; exact e.pm.nodup_iff.mpr e.nd
theorem go_mem : (i, k) ∈ goL B ↔ ∃ r, (k, r) ∈ B ∧ i ∈ r := by
  unfold goL
  rw [List.mem_flatten]
  constructor
  · rintro ⟨l, hl, hi⟩
    obtain ⟨p, hp, rfl⟩ := List.mem_map.mp hl
    obtain ⟨j, hj, e⟩ := List.mem_map.mp hi
    cases e
    exact ⟨p.2, hp, hj⟩
  · rintro ⟨r, hr, hi⟩
    exact ⟨_, List.mem_map.mpr ⟨(k, r), hr, rfl⟩, List.mem_map.mpr ⟨i, hi, rfl⟩⟩
theorem Eff.look_go (e : Eff N B) (h : k ∈ N) (hi : i ∈ getB B k) : (goL B).lookup i = some k := lookup_nd e.go_nd (go_mem.mpr ⟨_, e.row h, hi⟩)
theorem Eff.src_of (e : Eff N B) (h : k ∈ N) (hi : i ∈ getB B k) : src B i = k := by unfold src; rw [e.look_go h hi]; rfl
theorem Eff.src_in (e : Eff N B) (h : i ∈ N) : src B i ∈ N ∧ i ∈ getB B (src B i) := by
  obtain ⟨r, hr, hi⟩ := List.mem_flatten.mp (e.pm.mem_iff.mpr h)
  obtain ⟨p, hp, rfl⟩ := List.mem_map.mp hr
  have h1 := e.get_at hp
  have h2 := e.key hp
  have h3 : i ∈ getB B p.1 := by rw [h1]; exact hi
  rw [e.src_of h2 h3]
  exact ⟨h2, h3⟩
theorem Eff.look_src (e : Eff N B) (h : i ∈ N) : (goL B).lookup i = some (src B i) := e.look_go (e.src_in h).1 (e.src_in h).2
theorem Eff.uniq (e : Eff N B) (h : k ∈ N) (h' : j ∈ N) (hi : i ∈ getB B k) (hj : i ∈ getB B j) : k = j := (e.src_of h hi).symm.trans (e.src_of h' hj)
theorem Eff.mem_get (e : Eff N B) (hi : i ∈ N) (h : k ∈ N) : i ∈ getB B k ↔ src B i = k := ⟨e.src_of h, fun q => q ▸ (e.src_in hi).2⟩
/-- the sources m commands' scripts back -/
def itB (B : Bl) : Nat → Int → Int
  | 0, i => i
  | m + 1, i => itB B m (src B i)
theorem it_src (B : Bl) : ∀ (m : Nat) (i : Int), itB B (m + 1) i = src B (itB B m i)
  | 0, _ => rfl
  | m + 1, i => it_src B m (src B i)
theorem it_add (B : Bl) (m : Nat) : ∀ (n : Nat) (i : Int), itB B (m + n) i = itB B m (itB B n i)
  | 0, _ => rfl
  | n + 1, i => it_add B m n (src B i)
theorem Eff.it_in (e : Eff N B) : ∀ (m : Nat) {i : Int}, i ∈ N → itB B m i ∈ N
  | 0, _, h => h
  | m + 1, _, h => e.it_in m (e.src_in h).1
theorem Eff.mem_pow (e : Eff N B) : ∀ (m : Nat) {i k : Int}, i ∈ N → k ∈ N → (i ∈ getB (powB N B m) k ↔ itB B m i = k)
  | 0, i, k, hi, hk => by
    have : getB (powB N B 0) k = [k] := by have := subst_start (ns := N) (l := [k]); unfold subst at this; rw [List.map_cons, List.map_nil, List.flatten_cons, List.flatten_nil, List.append_nil] at this; exact this
    rw [this, List.mem_singleton]
    rfl
  | m + 1, i, k, hi, hk => by
    have em := eff_pow e m
    show i ∈ getB (joinB (powB N B m) B) k ↔ itB B m (src B i) = k
    rw [getB_join (em.ks.trans e.ks.symm), ← e.mem_pow m (e.src_in hi).1 hk]
    unfold subst
    rw [List.mem_flatten]
    constructor
    · rintro ⟨l, hl, h⟩
      obtain ⟨x, hx, rfl⟩ := List.mem_map.mp hl
      rw [e.src_of (em.sub hk hx) h]
      exact hx
    · intro h
      exact ⟨_, List.mem_map.mpr ⟨_, h, rfl⟩, (e.src_in hi).2⟩
/-- the items on rings -/
def ringI (N : List Int) (B : Bl) : List Int := ddI ((rows B).map (itB B N.length))
theorem Eff.mem_ring (e : Eff N B) : k ∈ ringI N B ↔ ∃ i ∈ N, itB B N.length i = k := by
  unfold ringI
  rw [ddI_mem, List.mem_map]
  constructor
  · rintro ⟨i, hi, h⟩; exact ⟨i, e.pm.mem_iff.mp hi, h⟩
  · rintro ⟨i, hi, h⟩; exact ⟨i, e.pm.mem_iff.mpr hi, h⟩
theorem ring_nd : (ringI N B).Nodup := ddI_nodup
theorem Eff.ring_sub (e : Eff N B) (h : k ∈ ringI N B) : k ∈ N := by
  obtain ⟨i, hi, rfl⟩ := e.mem_ring.mp h
  exact e.it_in _ hi
theorem Eff.ring_len (e : Eff N B) : (ringI N B).length ≤ N.length := len_of_sub ring_nd fun _ h => e.ring_sub h
theorem Eff.ring_src (e : Eff N B) (h : k ∈ ringI N B) : src B k ∈ ringI N B := by
  obtain ⟨i, hi, rfl⟩ := e.mem_ring.mp h
  rw [← it_src]
  exact e.mem_ring.mpr ⟨src B i, (e.src_in hi).1, rfl⟩
theorem Eff.ring_it (e : Eff N B) : ∀ (m : Nat) {k : Int}, k ∈ ringI N B → itB B m k ∈ ringI N B
  | 0, _, h => h
  | m + 1, _, h => e.ring_it m (e.ring_src h)
theorem Eff.ring_onto (e : Eff N B) (h : k ∈ ringI N B) : ∃ j ∈ ringI N B, src B j = k := by
  obtain ⟨i, hi, rfl⟩ := e.mem_ring.mp h
  obtain ⟨a, b, hab, hb, eq⟩ := pigeon (N := N) (f := fun j => itB B j i) fun j => e.it_in j hi
  refine ⟨itB B N.length (itB B (b - a - 1) i), e.mem_ring.mpr ⟨_, e.it_in _ hi, rfl⟩, ?_⟩
  rw [← it_src, ← it_add]
  have e1 : N.length + 1 + (b - a - 1) = (N.length - a) + b := by omega
  have e2 : itB B N.length i = itB B ((N.length - a) + a) i := by congr 1; omega
  rw [e1, it_add, ← eq, ← it_add, ← e2]
theorem Eff.ring_inj (e : Eff N B) (h : k ∈ ringI N B) (h' : j ∈ ringI N B) (q : src B k = src B j) : k = j := by
  have pm := perm_of_sub (l := ringI N B) (m := (ringI N B).map (src B)) ring_nd (fun x hx => by
    obtain ⟨y, hy, ey⟩ := e.ring_onto hx
    exact List.mem_map.mpr ⟨y, hy, ey⟩) (by simp)
  have nd := pm.nodup_iff.mp (ring_nd (N := N) (B := B))
  have inj : ∀ {l : List Int}, (l.map (src B)).Nodup → ∀ {x y}, x ∈ l → y ∈ l → src B x = src B y → x = y := fun {l} => by
    induction l with
    | nil => intro _ x y hx; cases hx
    | cons a l ih =>
      intro nd x y hx hy q
      rw [List.map_cons, List.nodup_cons] at nd
      rcases List.mem_cons.mp hx with ex | hx
      · rcases List.mem_cons.mp hy with ey | hy
        · rw [ex, ey]
        · exact absurd (List.mem_map.mpr ⟨y, hy, by rw [← q, ex]⟩) nd.1
      · rcases List.mem_cons.mp hy with ey | hy
        · exact absurd (List.mem_map.mpr ⟨x, hx, by rw [q, ey]⟩) nd.1
        · exact ih nd.2 hx hy q
  exact inj nd h h' q
/-- one step forward on a ring -/
def bakL (N : List Int) (B : Bl) : List (Int × Int) := (ringI N B).map fun j => (src B j, j)
def bak (N : List Int) (B : Bl) (k : Int) : Int := ((bakL N B).lookup k).getD k
theorem Eff.bak_nd (e : Eff N B) : ((bakL N B).map (·.1)).Nodup := by
  unfold bakL
  rw [List.map_map, List.nodup_iff_pairwise_ne, List.pairwise_map]
  refine List.Pairwise.imp_of_mem ?_ (List.nodup_iff_pairwise_ne.mp (ring_nd (N := N) (B := B)))
  intro a b ha hb hn q
  exact hn (e.ring_inj ha hb q)
theorem Eff.bak_of (e : Eff N B) (h : j ∈ ringI N B) : (bakL N B).lookup (src B j) = some j := lookup_nd e.bak_nd (List.mem_map.mpr ⟨j, h, rfl⟩)
theorem Eff.bak_in (e : Eff N B) (h : k ∈ ringI N B) : bak N B k ∈ ringI N B ∧ src B (bak N B k) = k ∧ (bakL N B).lookup k = some (bak N B k) := by
  obtain ⟨j, hj, rfl⟩ := e.ring_onto h
  unfold bak
  rw [e.bak_of hj]
  exact ⟨hj, rfl, rfl⟩
theorem Eff.bak_keys (e : Eff N B) : k ∈ (bakL N B).map (·.1) ↔ k ∈ ringI N B := by
  constructor
  · intro h
    obtain ⟨p, hp, rfl⟩ := List.mem_map.mp h
    obtain ⟨j, hj, rfl⟩ := List.mem_map.mp hp
    exact e.ring_src hj
  · intro h
    obtain ⟨j, hj, rfl⟩ := e.ring_onto h
    exact List.mem_map.mpr ⟨_, List.mem_map.mpr ⟨j, hj, rfl⟩, rfl⟩
def bit (N : List Int) (B : Bl) : Nat → Int → Int
  | 0, k => k
  | m + 1, k => bit N B m (bak N B k)
theorem bit_bak (N : List Int) (B : Bl) : ∀ (m : Nat) (i : Int), bit N B (m + 1) i = bak N B (bit N B m i)
  | 0, _ => rfl
  | m + 1, i => bit_bak N B m (bak N B i)
theorem bit_add (N : List Int) (B : Bl) (m : Nat) : ∀ (n : Nat) (i : Int), bit N B (m + n) i = bit N B m (bit N B n i)
  | 0, _ => rfl
  | n + 1, i => bit_add N B m n (bak N B i)
theorem Eff.bit_in (e : Eff N B) : ∀ (m : Nat) {k : Int}, k ∈ ringI N B → bit N B m k ∈ ringI N B
  | 0, _, h => h
  | m + 1, _, h => e.bit_in m (e.bak_in h).1
theorem Eff.it_bit (e : Eff N B) : ∀ (m : Nat) {k : Int}, k ∈ ringI N B → itB B m (bit N B m k) = k
  | 0, _, _ => rfl
  | m + 1, k, h => by
    rw [it_src]
    show src B (itB B m (bit N B m (bak N B k))) = k
    rw [e.it_bit m (e.bak_in h).1, (e.bak_in h).2.1]
/-- a ring closes -/
theorem Eff.bit_back (e : Eff N B) (h : k ∈ ringI N B) : ∃ p, 1 ≤ p ∧ p ≤ N.length ∧ bit N B p k = k := by
  obtain ⟨a, b, hab, hb, eq⟩ := pigeon (N := ringI N B) (f := fun j => bit N B j k) fun j => e.bit_in j h
  refine ⟨b - a, by omega, by have := e.ring_len; omega, ?_⟩
  have h1 := e.it_bit a h
  have h2 : b = a + (b - a) := by omega
  have h3 : bit N B b k = bit N B a (bit N B (b - a) k) := by rw [← bit_add]; congr 1
  have h4 := e.it_bit a (e.bit_in (b - a) h)
  have eq' : bit N B a k = bit N B b k := eq
  rw [← h3, ← eq', h1] at h4
  exact h4.symm
theorem bit_mul {p : Nat} (h : bit N B p k = k) : ∀ q, bit N B (p * q) k = k
  | 0 => rfl
  | q + 1 => by rw [Nat.mul_succ, bit_add, h, bit_mul h q]
theorem bit_mod {p : Nat} (h : bit N B p k = k) (d : Nat) : bit N B d k = bit N B (d % p) k := by
  have e : d = d % p + p * (d / p) := (Nat.mod_add_div d p).symm
  rw [show bit N B d k = bit N B (d % p + p * (d / p)) k by rw [← e], bit_add, bit_mul h]
/-- all sources are on rings after T -/
def Onr (N : List Int) (B : Bl) (T : Nat) : Prop := ∀ i ∈ N, itB B T i ∈ ringI N B
theorem Eff.onr_more (e : Eff N B) {T m : Nat} (h : Onr N B T) (hm : T ≤ m) : Onr N B m := fun i hi => by
  have : m = (m - T) + T := by omega
  rw [this, it_add]
  exact e.ring_it _ (h i hi)
theorem Eff.onr_len (e : Eff N B) : Onr N B N.length := fun i hi => e.mem_ring.mpr ⟨i, hi, rfl⟩
theorem Eff.off_ring (e : Eff N B) {m : Nat} (h : Onr N B m) (hk : k ∈ N) (hn : k ∉ ringI N B) : getB (powB N B m) k = [] := by
  refine List.eq_nil_iff_forall_not_mem.mpr fun i hi => ?_
  have iN := (eff_pow e m).sub hk hi
  exact hn ((e.mem_pow m iN hk).mp hi ▸ h i iN)
theorem flat_one {f : Int → List Int} {x : Int} : ∀ {l : List Int}, l.Nodup → x ∈ l → (∀ y ∈ l, y ≠ x → f y = []) → (l.map f).flatten = f x
  | a :: l, nd, hx, h => by
    rw [List.nodup_cons] at nd
    rw [List.map_cons, List.flatten_cons]
    have nil : ∀ {m : List Int}, (∀ y ∈ m, f y = []) → (m.map f).flatten = [] := fun {m} hm => by
      induction m with
      | nil => rfl
      | cons b m ih => rw [List.map_cons, List.flatten_cons, hm b (by simp), ih fun y hy => hm y (by simp [hy])]; rfl
    rcases List.mem_cons.mp hx with rfl | hx
    · rw [nil fun y hy => h y (List.mem_cons_of_mem _ hy) fun e => nd.1 (e ▸ hy), List.append_nil]
    · rw [h a List.mem_cons_self fun e => nd.1 (e ▸ hx), flat_one nd.2 hx fun y hy => h y (List.mem_cons_of_mem _ hy)]
      rfl
theorem Eff.turn_one (e : Eff N B) {m : Nat} (h : Onr N B m) (hk : k ∈ ringI N B) : getB (powB N B (m + 1)) k = getB (powB N B m) (bak N B k) := by
  have hp : powB N B (m + 1) = joinB B (powB N B m) := by rw [Nat.add_comm, ← pow_add e 1 m, pow_one e]
  have kN := e.ring_sub hk
  obtain ⟨b1, b2, _⟩ := e.bak_in hk
  rw [hp, getB_join (e.ks.trans (eff_pow e m).ks.symm)]
  unfold subst
  refine flat_one (e.get_nd kN) ((e.mem_get (e.ring_sub b1) kN).mpr b2) fun y hy hn => ?_
  have yN := e.sub kN hy
  refine e.off_ring h yN fun yr => hn (e.ring_inj yr b1 ?_)
  rw [e.src_of kN hy, b2]
/-- round the rings -/
theorem Eff.turns (e : Eff N B) {m : Nat} (h : Onr N B m) : ∀ (d : Nat) {k : Int}, k ∈ ringI N B → getB (powB N B (m + d)) k = getB (powB N B m) (bit N B d k)
  | 0, _, _ => rfl
  | d + 1, k, hk => by
    show getB (powB N B (m + d + 1)) k = getB (powB N B m) (bit N B d (bak N B k))
    rw [e.turn_one (e.onr_more h (Nat.le_add_right m d)) hk, e.turns h d (e.bak_in hk).1]
/-- blocks by their keys -/
theorem Eff.tab (e : Eff N P) : P = N.map fun k => (k, getB P k) := by
  have : N.map (fun k => (k, getB P k)) = P.map fun p => p := by
    rw [← e.ks]
    unfold keys
    rw [List.map_map]
    refine List.map_congr_left fun p hp => ?_
    show (p.1, getB P p.1) = p
    rw [e.get_at hp]
  rw [this, List.map_id']
theorem kvB_tab (e : Eff N P) : kvB P = N.map fun k => (Sum.inl k, linD (getB P k)) := by
  conv => lhs; rw [e.tab]
  show (N.map fun k => (k, getB P k)).map (fun p : Int × List Int => ((Sum.inl p.1 : L2.Key), linD p.2)) = _
  rw [List.map_map]
  rfl
end Mv

namespace Mv
open PySem Py
def kvI (l : List (Int × Int)) : List (L2.Key × D) := l.map fun p => (Sum.inl p.1, D.int p.2)
theorem kvI_keys (l : List (Int × Int)) : (kvI l).map (·.1) = (l.map (·.1)).map Sum.inl := by unfold kvI; rw [List.map_map, List.map_map]; rfl
theorem kvI_keyD (l : List (Int × Int)) : ((kvI l).map (·.1)).map keyD = (l.map (·.1)).map D.int := by unfold kvI; rw [List.map_map, List.map_map, List.map_map]; rfl
theorem kvI_len (l : List (Int × Int)) : (kvI l).length = l.length := List.length_map _
theorem kvI_put {l : List (Int × Int)} {j i : Int} (h : j ∉ l.map (·.1)) : setK (kvI l) (.inl j) (.int i) = kvI (l ++ [(j, i)]) := by
  rw [setK_new (by rw [kvI_keys]; intro z; obtain ⟨y, hy, e⟩ := List.mem_map.mp z; exact h (Sum.inl.inj e ▸ hy))]
  simp [kvI]
theorem kvI_look (l : List (Int × Int)) (j : Int) : lookK (kvI l) (.inl j) = (l.lookup j).map D.int := by
  induction l with
  | nil => rfl
  | cons p l ih =>
    obtain ⟨a, b⟩ := p
    show lookK ((Sum.inl a, D.int b) :: kvI l) _ = _
    rw [lookK_cons, ih, List.lookup_cons]
    by_cases h : a = j
    · subst h; simp
    · have : (j == a) = false := by simp; exact fun e => h e.symm
      rw [this, if_neg (fun z => h (Sum.inl.inj z))]
theorem goL_app (d : Bl) (i : Int) (row : List Int) : goL (d ++ [(i, row)]) = goL d ++ row.map fun j => (j, i) := by unfold goL; simp
def mkK (l : List Int) : List (L2.Key × D) := l.map fun i => (Sum.inl i, .bl true)
theorem mk_keys (l : List Int) : (mkK l).map (·.1) = l.map Sum.inl := by unfold mkK; rw [List.map_map]; rfl
theorem mk_step {l : List Int} {i : Int} : setK (mkK l) (.inl i) (.bl true) = mkK (PyProof.Rows.step_dedup l i) := by
  unfold PyProof.Rows.step_dedup
  by_cases h : i ∈ l
  · rw [if_pos (by simpa using h)]
    unfold setK
    rw [if_pos (by unfold mkK; rw [List.any_map, List.any_eq_true]; exact ⟨i, h, by simp⟩)]
    unfold mkK
    rw [List.map_map]
    refine List.map_congr_left fun x _ => ?_
    show (if (Sum.inl x : L2.Key) = Sum.inl i then (Sum.inl x, D.bl true) else (Sum.inl x, D.bl true)) = _
    split <;> rfl
  · rw [if_neg (by simpa using h), setK_new (by rw [mk_keys]; intro z; obtain ⟨y, hy, e⟩ := List.mem_map.mp z; exact h (Sum.inl.inj e ▸ hy))]
    simp [mkK]
theorem mk_len (l : List Int) : (mkK l).length = l.length := List.length_map _
theorem mk_look {l : List Int} {i : Int} : (lookK (mkK l) (.inl i)).isSome = decide (i ∈ l) := by
  unfold mkK
  induction l with
  | nil => rfl
  | cons a l ih =>
    rw [List.map_cons, lookK_cons]
    by_cases h : a = i
    · subst h; simp
    · rw [if_neg (fun z => h (Sum.inl.inj z)), ih]
      simp [Ne.symm h, show ¬ i = a from fun e => h e.symm]
theorem dd_len (l : List Int) (acc : List Int) : (l.foldl PyProof.Rows.step_dedup acc).length ≤ acc.length + l.length := by
  induction l generalizing acc with
  | nil => simp
  | cons a l ih =>
    rw [List.foldl_cons]
    have := ih (PyProof.Rows.step_dedup acc a)
    have h2 : (PyProof.Rows.step_dedup acc a).length ≤ acc.length + 1 := by unfold PyProof.Rows.step_dedup; split <;> simp
    rw [List.length_cons]
    omega
abbrev Pl := List (Int × PySem.Addr)
def kvR (R : Pl) : List (L2.Key × D) := R.map fun q => (Sum.inl q.1, D.ref q.2)
theorem kvR_keyD (l : Pl) : ((kvR l).map (·.1)).map keyD = (l.map (·.1)).map D.int := by unfold kvR; rw [List.map_map, List.map_map, List.map_map]; rfl
theorem kvR_len (l : Pl) : (kvR l).length = l.length := List.length_map _
theorem kvR_put {l : Pl} {j : Int} {p : PySem.Addr} (h : j ∉ l.map (·.1)) : setK (kvR l) (.inl j) (.ref p) = kvR (l ++ [(j, p)]) := by
  rw [setK_new (by unfold kvR; rw [List.map_map]; intro z; obtain ⟨y, hy, e⟩ := List.mem_map.mp z; exact h (List.mem_map.mpr ⟨y, hy, Sum.inl.inj e⟩))]
  simp [kvR]
theorem kvR_look (l : Pl) (j : Int) : lookK (kvR l) (.inl j) = (l.lookup j).map D.ref := by
  induction l with
  | nil => rfl
  | cons p l ih =>
    obtain ⟨a, b⟩ := p
    show lookK ((Sum.inl a, D.ref b) :: kvR l) _ = _
    rw [lookK_cons, ih, List.lookup_cons]
    by_cases h : a = j
    · subst h; simp
    · have : (j == a) = false := by simp; exact fun e => h e.symm
      rw [this, if_neg (fun z => h (Sum.inl.inj z))]
theorem inj_map {α β : Type} (f : α → β) : ∀ {l : List α}, (l.map f).Nodup → ∀ {x y}, x ∈ l → y ∈ l → f x = f y → x = y
  | a :: l, nd, x, y, hx, hy, q => by
    rw [List.map_cons, List.nodup_cons] at nd
    rcases List.mem_cons.mp hx with ex | hx
    · rcases List.mem_cons.mp hy with ey | hy
      · rw [ex, ey]
      · exact absurd (List.mem_map.mpr ⟨y, hy, by rw [← q, ex]⟩) nd.1
    · rcases List.mem_cons.mp hy with ey | hy
      · exact absurd (List.mem_map.mpr ⟨x, hx, by rw [q, ey]⟩) nd.1
      · exact inj_map f nd.2 hx hy q
theorem kvI_merge {l m : List (Int × Int)} (h : ((l ++ m).map (·.1)).Nodup) : mergK (kvI l) (kvI m) = kvI (l ++ m) := by
  rw [mergK_new]
  · unfold kvI; simp
  · rw [kvI_keys, kvI_keys, ← List.map_append, ← List.map_append]
    rw [List.nodup_iff_pairwise_ne, List.pairwise_map]
    exact (List.nodup_iff_pairwise_ne.mp h).imp fun hn e => hn (Sum.inl.inj e)
end Mv

namespace Mv
open PySem Py Pr
theorem line_perm {N l : List Int} {P : Bl} (e : Eff N P) (nd : l.Nodup) (hl : ∀ i ∈ N, i ∈ l) : (subst P l).Perm l := by
  have h1 : (N ++ l.filter fun i => decide (i ∉ N)).Nodup := by
    rw [List.nodup_append]
    exact ⟨e.nd, nd.sublist List.filter_sublist, fun x hx y hy q => by
      have := (List.mem_filter.mp hy).2
      simp at this
      exact this (q ▸ hx)⟩
  have h2 : (N ++ l.filter fun i => decide (i ∉ N)).Perm l := perm_of_sub h1 (fun x hx => by
    rcases List.mem_append.mp hx with hx | hx
    · exact hl x hx
    · exact (List.mem_filter.mp hx).1) (len_of_sub nd fun x hx => by
      by_cases h : x ∈ N
      · exact List.mem_append_left _ h
      · exact List.mem_append_right _ (List.mem_filter.mpr ⟨hx, by simpa using h⟩))
  refine (subst_perm h2.symm).trans (.trans ?_ h2)
  rw [subst_app]
  refine .append ?_ ?_
  · rw [← e.ks, rows_subst e.nodK, e.ks]
    exact e.pm
  · have go : ∀ m : List Int, (∀ i ∈ m, i ∉ N) → subst P m = m := fun m => by
      induction m with
      | nil => intro _; rfl
      | cons x m ih =>
        intro h
        have := ih fun i hi => h i (List.mem_cons_of_mem _ hi)
        unfold subst at *
        rw [List.map_cons, List.flatten_cons, this, getB_not (by rw [e.ks]; exact h x List.mem_cons_self)]
        rfl
    rw [go _ fun i hi => by simpa using (List.mem_filter.mp hi).2]
/-- so many repetitions of the script on the line -/
def rep (cs : List Cmd) (n : Nat) (l : List Int) : List Int := subst (powB (named cs) (blocks cs) n) l
theorem VScr.ne {cs : List Cmd} (v : VScr cs) : ∀ c ∈ cs, c.2.1 ≠ c.2.2 := fun c hc => (v.it c hc).2.2
theorem VScr.eff {cs : List Cmd} (v : VScr cs) : Eff (named cs) (blocks cs) := eff_blocks v.ne
theorem VScr.len60 {cs : List Cmd} (v : VScr cs) : (named cs).length ≤ 60 := items_len named_nd (named_it v.it)
theorem VScr.in_named {cs : List Cmd} {c : Cmd} (hc : c ∈ cs) : c.2.1 ∈ named cs ∧ c.2.2 ∈ named cs := ⟨mem_named.mpr (List.mem_flatten.mpr ⟨_, List.mem_map.mpr ⟨c, hc, rfl⟩, by simp⟩), mem_named.mpr (List.mem_flatten.mpr ⟨_, List.mem_map.mpr ⟨c, hc, rfl⟩, by simp⟩)⟩
theorem WScr.ne {cs : List Cmd} (v : WScr cs) : ∀ c ∈ cs, c.2.1 ≠ c.2.2 := fun c hc => (v.it c hc).2.2
theorem WScr.eff {cs : List Cmd} (v : WScr cs) : Eff (named cs) (blocks cs) := eff_blocks v.ne
theorem WScr.len60 {cs : List Cmd} (v : WScr cs) : (named cs).length ≤ 60 := items_len named_nd (named_it v.it)
theorem rep_zero {cs : List Cmd} {l : List Int} : rep cs 0 l = l := subst_start
theorem rep_permW {cs : List Cmd} {l : List Int} (v : WScr cs) (nd : l.Nodup) (hl : ∀ i ∈ named cs, i ∈ l) (n : Nat) : (rep cs n l).Perm l := line_perm (eff_pow v.eff n) nd hl
theorem rep_perm {cs : List Cmd} {l : List Int} (v : VScr cs) (nd : l.Nodup) (hl : ∀ i ∈ named cs, i ∈ l) (n : Nat) : (rep cs n l).Perm l := rep_permW v.w nd hl n
theorem rep_succW {cs : List Cmd} {l : List Int} (v : WScr cs) (nd : l.Nodup) (hl : ∀ i ∈ named cs, i ∈ l) (n : Nat) : rep cs (n + 1) l = mvs (rep cs n l) cs := by
  have p := rep_permW v nd hl n
  rw [← subst_blocks v.ne (p.nodup_iff.mpr nd) fun i hi => p.mem_iff.mpr (hl i hi)]
  exact subst_join ((eff_pow v.eff n).ks.trans v.eff.ks.symm) l
theorem rep_lineW {cs : List Cmd} {l : List Int} (v : WScr cs) (vl : VLine l) (hl : ∀ i ∈ named cs, i ∈ l) (n : Nat) : VLine (rep cs n l) := by
  have p := rep_permW v vl.nd hl n
  exact ⟨fun e => vl.ne (by rw [e] at p; exact p.nil_eq.symm), p.nodup_iff.mpr vl.nd, fun i hi => vl.it i (p.mem_iff.mp hi)⟩
theorem rep_succ {cs : List Cmd} {l : List Int} (v : VScr cs) (nd : l.Nodup) (hl : ∀ i ∈ named cs, i ∈ l) (n : Nat) : rep cs (n + 1) l = mvs (rep cs n l) cs := rep_succW v.w nd hl n
theorem rep_line {cs : List Cmd} {l : List Int} (v : VScr cs) (vl : VLine l) (hl : ∀ i ∈ named cs, i ∈ l) (n : Nat) : VLine (rep cs n l) := rep_lineW v.w vl hl n
/-! ### what repr asks -/
theorem good_lin {l : List Int} (v : ∀ i ∈ l, VItem i) (hl : l.length ≤ 60) : Good 1 60 (linD l) := by
  refine .tup (Goods.mono (Goods.map (n := 0) (b := 0) (f := D.int) fun i hi => .int ?_) (Nat.le_refl _) (by omega))
  have := v i hi
  unfold VItem at this
  have h9 : (60 : Nat) < 10 ^ 400 := by decide +kernel
  omega
theorem good_scrW {cs : List Cmd} (v : WScr cs) : Good 2 4000 (scrD cs) := by
  refine .tup (Goods.mono (Goods.map (n := 1) (b := 19) (f := cmdD) fun c hc => ?_) (Nat.le_refl _) (by have := v.len; omega))
  obtain ⟨w, i, o⟩ := c
  obtain ⟨⟨a1, a2⟩, ⟨b1, b2⟩, _⟩ := v.it _ hc
  have h9 : (60 : Nat) < 10 ^ 400 := by decide +kernel
  replace a1 : 0 ≤ i := a1
  replace a2 : i < 60 := a2
  replace b1 : 0 ≤ o := b1
  replace b2 : o < 60 := b2
  show Good 1 19 (.tup [.str (wd w), .int i, .int o])
  refine .tup (.cons (c := 6) (e := 2) (.str ?_ ?_) (.cons (c := 0) (e := 1) (.int (by omega)) (.cons (c := 0) (e := 0) (.int (by omega)) .nil (by omega)) (by omega)) (by omega))
  · cases w <;> decide +kernel
  · cases w <;> decide +kernel
theorem good_scr {cs : List Cmd} (v : VScr cs) : Good 2 4000 (scrD cs) := good_scrW v.w
end Mv

namespace Mv
open PySem Py Pr
/-! ### friends -/
abbrev Fr := List (Int × Option Int)
def optD : Option Int → D
  | none => .non
  | some i => .int i
abbrev kvP (P : Fr) : List (L2.Key × D) := P.map fun p => (Sum.inl p.1, optD p.2)
abbrev frD (P : Fr) : D := fdD (kvP P)
def frK (P : Fr) : List Int := P.map (·.1)
def frO (P : Fr) (i : Int) : Option Int := (P.lookup i).getD none
structure VFr (P : Fr) : Prop where
  ne : P ≠ []
  nd : (frK P).Nodup
  it : ∀ i ∈ frK P, VItem i
  fr : ∀ p ∈ P, ∀ f, p.2 = some f → f ∈ frK P ∧ f ≠ p.1
theorem sortI_perm {l : List Int} : (sortI l).Perm l := List.mergeSort_perm l _
theorem sortI_le {l : List Int} : (sortI l).Pairwise (· ≤ ·) := by
  have := List.pairwise_mergeSort (le := fun a b : Int => decide (a ≤ b)) (by intro a b c h1 h2; simp at *; omega) (by intro a b; simp; omega) l
  exact this.imp fun h => by simpa using h
theorem sortI_eq {l m : List Int} (h : l.Perm m) : sortI l = sortI m :=
  (sortI_perm.trans (h.trans sortI_perm.symm)).eq_of_pairwise (le := fun a b : Int => a ≤ b) (fun a b _ _ h1 h2 => by omega) sortI_le sortI_le
theorem look_kvP {i : Int} : ∀ {P : Fr}, lookK (kvP P) (.inl i) = (P.lookup i).map optD
  | [] => rfl
  | (a, o) :: P => by
    show lookK ((Sum.inl a, optD o) :: kvP P) (.inl i) = _
    rw [lookK_cons, look_kvP, List.lookup_cons]
    by_cases h : i = a
    · subst h; simp
    · have h' : (Sum.inl a : L2.Key) ≠ .inl i := fun e => h (Sum.inl.inj e).symm
      simp [h, h', beq_eq_false_iff_ne.mpr h]
theorem fr_mem {P : Fr} {i : Int} : i ∈ frK P ↔ ∃ o, (i, o) ∈ P := by
  unfold frK
  constructor
  · intro h
    obtain ⟨⟨a, o⟩, h1, h2⟩ := List.mem_map.mp h
    cases h2
    exact ⟨o, h1⟩
  · rintro ⟨o, h⟩
    exact List.mem_map.mpr ⟨_, h, rfl⟩
theorem frO_at {P : Fr} {i : Int} {o : Option Int} (nd : (frK P).Nodup) (h : (i, o) ∈ P) : frO P i = o := by
  unfold frO
  rw [lookup_nd nd h]
  rfl
theorem look_fr {P : Fr} {i : Int} (nd : (frK P).Nodup) (h : i ∈ frK P) : lookK (kvP P) (.inl i) = some (optD (frO P i)) := by
  obtain ⟨o, ho⟩ := fr_mem.mp h
  rw [look_kvP, lookup_nd nd ho, frO_at nd ho]
  rfl
theorem look_no {P : Fr} {i : Int} (h : i ∉ frK P) : lookK (kvP P) (.inl i) = none := by
  rw [look_kvP]
  have : P.lookup i = none := by
    induction P with
    | nil => rfl
    | cons p P ih =>
      obtain ⟨a, o⟩ := p
      rw [List.lookup_cons]
      have h1 : i ≠ a := fun e => h (by simp [frK, e])
      rw [beq_eq_false_iff_ne.mpr h1]
      exact ih fun z => h (by unfold frK at *; rw [List.map_cons]; exact List.mem_cons_of_mem _ z)
  rw [this]
  rfl
theorem keys_fr (P : Fr) : ((kvP P).map (·.1)).map keyD = (frK P).map D.int := by
  unfold frK
  rw [List.map_map, List.map_map, List.map_map]
  rfl
theorem kvP_len (P : Fr) : (kvP P).length = P.length := List.length_map _
theorem frK_len (P : Fr) : (frK P).length = P.length := List.length_map _
/-- the commands of a day -/
def dayI (P : Fr) : List Int := (sortI (frK P)).filter fun i => (frO P i).isSome
def dayC (P : Fr) : List Cmd := (dayI P).map fun i => (true, i, (frO P i).getD 0)
theorem VFr.len {P : Fr} (v : VFr P) : P.length ≤ 60 := by rw [← frK_len]; exact items_len v.nd v.it
theorem mem_dayI {P : Fr} {i : Int} (h : i ∈ dayI P) : i ∈ frK P ∧ ∃ f, frO P i = some f := by
  unfold dayI at h
  rw [List.mem_filter] at h
  exact ⟨sortI_mem.mp h.1, Option.isSome_iff_exists.mp h.2⟩
theorem VFr.fr_of {P : Fr} (v : VFr P) {i f : Int} (h : frO P i = some f) : i ∈ frK P ∧ f ∈ frK P ∧ f ≠ i := by
  have hi : i ∈ frK P := by
    apply Classical.byContradiction
    intro z
    have := look_no z
    rw [look_kvP] at this
    have e : P.lookup i = none := by
      cases q : P.lookup i with
      | none => rfl
      | some o => rw [q] at this; cases this
    unfold frO at h
    rw [e] at h
    cases h
  obtain ⟨o, ho⟩ := fr_mem.mp hi
  rw [frO_at v.nd ho] at h
  subst h
  exact ⟨hi, v.fr _ ho f rfl⟩
theorem VFr.day {P : Fr} (v : VFr P) : WScr (dayC P) := by
  refine ⟨?_, fun c hc => ?_⟩
  · unfold dayC dayI
    rw [List.length_map]
    have h1 := List.length_filter_le (fun i => (frO P i).isSome) (sortI (frK P))
    have h2 := v.len
    rw [sortI_len, frK_len] at h1
    omega
  · obtain ⟨i, hi, rfl⟩ := List.mem_map.mp hc
    obtain ⟨h1, f, hf⟩ := mem_dayI hi
    obtain ⟨_, h2, h3⟩ := v.fr_of hf
    rw [hf]
    exact ⟨v.it i h1, v.it f h2, fun e => h3 e.symm⟩
theorem VFr.named_in {P : Fr} (v : VFr P) : ∀ i ∈ named (dayC P), i ∈ frK P := fun i hi => by
  obtain ⟨l, hl, hi⟩ := List.mem_flatten.mp (mem_named.mp hi)
  obtain ⟨c, hc, rfl⟩ := List.mem_map.mp hl
  obtain ⟨j, hj, rfl⟩ := List.mem_map.mp hc
  obtain ⟨h1, f, hf⟩ := mem_dayI hj
  rw [hf] at hi
  rcases List.mem_cons.mp hi with rfl | hi
  · exact h1
  · cases List.mem_singleton.mp hi
    exact (v.fr_of hf).2.1
theorem VFr.perm {P P' : Fr} (v : VFr P) (h : P'.Perm P) : VFr P' := by
  have hk : (frK P').Perm (frK P) := h.map _
  refine ⟨fun e => v.ne (by rw [e] at h; exact h.nil_eq.symm), hk.nodup_iff.mpr v.nd, fun i hi => v.it i (hk.mem_iff.mp hi), fun p hp f hf => ?_⟩
  have := v.fr p (h.mem_iff.mp hp) f hf
  exact ⟨hk.mem_iff.mpr this.1, this.2⟩
theorem VFr.frO_perm {P P' : Fr} (v : VFr P) (h : P'.Perm P) (i : Int) : frO P' i = frO P i := by
  have hk : (frK P').Perm (frK P) := h.map _
  by_cases hi : i ∈ frK P
  · obtain ⟨o, ho⟩ := fr_mem.mp hi
    rw [frO_at v.nd ho, frO_at (hk.nodup_iff.mpr v.nd) (h.mem_iff.mpr ho)]
  · have n1 := look_no hi
    have n2 := look_no (P := P') fun z => hi (hk.mem_iff.mp z)
    rw [look_kvP] at n1 n2
    unfold frO
    cases q : P.lookup i with
    | some o => rw [q] at n1; cases n1
    | none =>
      cases q' : P'.lookup i with
      | some o => rw [q'] at n2; cases n2
      | none => rfl
theorem VFr.day_perm {P P' : Fr} (v : VFr P) (h : P'.Perm P) : dayC P' = dayC P := by
  have e : frO P' = frO P := funext (v.frO_perm h)
  have e2 : sortI (frK P') = sortI (frK P) := sortI_eq (h.map _ : (frK P').Perm (frK P))
  unfold dayC dayI
  rw [e, e2]
theorem good_fr {P : Fr} (v : VFr P) : Good 1 120 (frD P) := by
  have h9 : (60 : Nat) < 10 ^ 400 := by decide +kernel
  refine .fd (e := 0) (b := 60) (by simp) ?_ ?_ ?_
  · intro k hk
    rw [List.map_map] at hk
    obtain ⟨p, hp, rfl⟩ := List.mem_map.mp hk
    have := v.it p.1 (List.mem_map.mpr ⟨p, hp, rfl⟩)
    unfold VItem at this
    show (p.1).natAbs < 10 ^ 400
    omega
  · rw [List.map_map]
    refine Goods.mono (Goods.map (n := 0) (b := 0) (f := fun p : Int × Option Int => optD p.2) fun p hp => ?_) (Nat.le_refl _) (by have := v.len; omega)
    obtain ⟨i, o⟩ := p
    cases o with
    | none => exact .non
    | some f =>
      have := v.it f (v.fr _ hp f rfl).1
      unfold VItem at this
      exact .int (by omega)
  · have := v.len
    simp
    omega
end Mv

/-! The final blocks of friends, counted: plain. -/
namespace Mv
open PySem Py Pr
variable {N : List Int} {B : Bl} {c : Cmd} {x i o : Int} {p r : List Int}
/-! ### the source, command by command -/
theorem put1_mem {b : Bool} : x ∈ put1 b i o r ↔ x = i ∨ x ∈ r := by
  unfold put1
  generalize r.idxOf o + (if b then 1 else 0) = n
  have : x ∈ r ↔ x ∈ r.take n ++ r.drop n := by rw [List.take_append_drop]
  rw [this]
  simp only [List.mem_append, List.mem_cons, List.not_mem_nil, or_false]
  constructor
  · rintro ((h | h) | h)
    · exact .inr (.inl h)
    · exact .inl h
    · exact .inr (.inr h)
  · rintro (h | h | h)
    · exact .inl (.inr h)
    · exact .inl (.inl h)
    · exact .inr h
theorem stepP_mem (nd : p.Nodup) (hn : c.2.1 ≠ c.2.2) : x ∈ stepP c p ↔ if x = c.2.1 then c.2.2 ∈ p else x ∈ p := by
  obtain ⟨b, i, o⟩ := c
  have hn : i ≠ o := hn
  have hq : ∀ y, y ∈ (if i ∈ p then p.erase i else p) ↔ y ≠ i ∧ y ∈ p := fun y => by
    by_cases h : i ∈ p
    · rw [if_pos h]; exact nd.mem_erase_iff
    · rw [if_neg h]; exact ⟨fun z => ⟨fun e => h (e ▸ z), z⟩, fun z => z.2⟩
  show x ∈ (if o ∈ (if i ∈ p then p.erase i else p) then put1 b i o (if i ∈ p then p.erase i else p) else (if i ∈ p then p.erase i else p)) ↔ if x = i then o ∈ p else x ∈ p
  have ho : o ∈ (if i ∈ p then p.erase i else p) ↔ o ∈ p := by rw [hq]; exact ⟨fun z => z.2, fun z => ⟨hn.symm, z⟩⟩
  by_cases h : o ∈ p
  · rw [if_pos (ho.mpr h), put1_mem, hq]
    by_cases e : x = i
    · simp [e, h]
    · simp [e]
  · rw [if_neg fun z => h (ho.mp z), hq]
    by_cases e : x = i
    · simp [e, h]
    · simp [e]
theorem Eff.step (e : Eff N B) (h1 : c.2.1 ∈ N) (h2 : c.2.2 ∈ N) (hn : c.2.1 ≠ c.2.2) : Eff N (stepB B c) := by
  refine ⟨by rw [stepB_map, keys_map]; exact e.ks, e.nd, ?_⟩
  have nd : (rows B).Nodup := e.pm.nodup_iff.mpr e.nd
  have m := mvd_flat (L := B.map fun p : Int × List Int => p.2) (c := c) (show (B.map fun p : Int × List Int => p.2).flatten.Nodup from nd) (show c.2.2 ∈ rows B from e.pm.mem_iff.mpr h2) hn
  have : rows (stepB B c) = mvd (rows B) c := by
    unfold rows
    rw [m, stepB_map, List.map_map, List.map_map]
    rfl
  rw [this]
  exact (mvd_perm (e.pm.mem_iff.mpr h1)).trans e.pm
theorem Eff.src_step (e : Eff N B) (h1 : c.2.1 ∈ N) (h2 : c.2.2 ∈ N) (hn : c.2.1 ≠ c.2.2) (hx : x ∈ N) : src (stepB B c) x = if x = c.2.1 then src B c.2.2 else src B x := by
  have e' := e.step h1 h2 hn
  have g : ∀ k ∈ N, (x ∈ getB (stepB B c) k ↔ if x = c.2.1 then c.2.2 ∈ getB B k else x ∈ getB B k) := fun k hk => by
    rw [getB_step (by rw [e.ks]; exact h1) (by rw [e.ks]; exact h2)]
    exact stepP_mem (e.get_nd hk) hn
  by_cases q : x = c.2.1
  · rw [if_pos q]
    obtain ⟨k1, k2⟩ := e.src_in h2
    exact e'.src_of k1 ((g _ k1).mpr (by rw [if_pos q]; exact k2))
  · rw [if_neg q]
    obtain ⟨k1, k2⟩ := e.src_in hx
    exact e'.src_of k1 ((g _ k1).mpr (by rw [if_neg q]; exact k2))
theorem fold_eff : ∀ {cs : List Cmd} {B : Bl}, Eff N B → (∀ c ∈ cs, c.2.1 ∈ N ∧ c.2.2 ∈ N ∧ c.2.1 ≠ c.2.2) → Eff N (cs.foldl stepB B)
  | [], _, e, _ => e
  | c :: cs, B, e, h => by
    obtain ⟨a1, a2, a3⟩ := h c List.mem_cons_self
    exact fold_eff (cs := cs) (e.step a1 a2 a3) fun d hd => h d (List.mem_cons_of_mem _ hd)
theorem fold_src (hx : x ∈ N) : ∀ {cs : List Cmd} {B : Bl}, Eff N B → (∀ c ∈ cs, c.2.1 ∈ N ∧ c.2.2 ∈ N ∧ c.2.1 ≠ c.2.2) → (∀ c ∈ cs, x ≠ c.2.1) → src (cs.foldl stepB B) x = src B x
  | [], _, _, _, _ => rfl
  | c :: cs, B, e, h, hn => by
    obtain ⟨a1, a2, a3⟩ := h c List.mem_cons_self
    rw [List.foldl_cons, fold_src hx (cs := cs) (e.step a1 a2 a3) (fun d hd => h d (List.mem_cons_of_mem _ hd)) fun d hd => hn d (List.mem_cons_of_mem _ hd), e.src_step a1 a2 a3 hx, if_neg (hn c List.mem_cons_self)]
theorem src_start {i : Int} (nd : N.Nodup) (h : i ∈ N) : src (startB N) i = i := by
  have e := eff_start nd
  refine e.src_of h ?_
  have : getB (startB N) i = [i] := by
    have := subst_start (ns := N) (l := [i])
    unfold subst at this
    rw [List.map_cons, List.map_nil, List.flatten_cons, List.flatten_nil, List.append_nil] at this
    exact this
  rw [this]
  exact List.mem_singleton.mpr rfl
theorem src_off (e : Eff N B) (h : i ∉ N) : src B i = i := by
  unfold src
  have : (goL B).lookup i = none := by
    rw [List.lookup_eq_none_iff]
    intro q hq
    have : q.1 ∈ N := e.pm.mem_iff.mp (by rw [← goL_keys]; exact List.mem_map.mpr ⟨q, hq, rfl⟩)
    have : i ≠ q.1 := fun z => h (z ▸ this)
    simpa using this
  rw [this]
  rfl
/-- the sources of a day: up the friends as long as they stand ahead -/
theorem VFr.src_day {P : Fr} (v : VFr P) {a b : Int} (h : frO P a = some b) : src (blocks (dayC P)) a = if b < a then src (blocks (dayC P)) b else b := by
  obtain ⟨ha, hb, hab⟩ := v.fr_of h
  have ad : a ∈ dayI P := by
    unfold dayI
    rw [List.mem_filter]
    exact ⟨sortI_mem.mpr ha, by rw [h]; rfl⟩
  have srt : (dayI P).Pairwise (· < ·) := by
    have h1 : (sortI (frK P)).Pairwise (· ≤ ·) := sortI_le
    have h2 : (sortI (frK P)).Nodup := sortI_perm.nodup_iff.mpr v.nd
    have h3 : (sortI (frK P)).Pairwise (· < ·) := (h1.and (List.nodup_iff_pairwise_ne.mp h2)).imp fun z => by omega
    exact h3.sublist List.filter_sublist
  obtain ⟨pre, post, e⟩ := List.append_of_mem ad
  have hE := eff_start (N := named (dayC P)) named_nd
  have ok : ∀ c ∈ dayC P, c.2.1 ∈ named (dayC P) ∧ c.2.2 ∈ named (dayC P) ∧ c.2.1 ≠ c.2.2 := fun c hc => ⟨(VScr.in_named hc).1, (VScr.in_named hc).2, v.day.ne c hc⟩
  have ec : dayC P = (pre.map fun i => (true, i, (frO P i).getD 0)) ++ (true, a, b) :: (post.map fun i => (true, i, (frO P i).getD 0)) := by
    unfold dayC
    rw [e, List.map_append, List.map_cons, h]
    rfl
  have ok' := ok
  rw [ec] at ok'
  have okp : ∀ c ∈ (pre.map fun i => ((true, i, (frO P i).getD 0) : Cmd)), c.2.1 ∈ named (dayC P) ∧ c.2.2 ∈ named (dayC P) ∧ c.2.1 ≠ c.2.2 := fun c hc => ok c (by rw [ec]; exact List.mem_append_left _ hc)
  have okq : ∀ c ∈ (post.map fun i => ((true, i, (frO P i).getD 0) : Cmd)), c.2.1 ∈ named (dayC P) ∧ c.2.2 ∈ named (dayC P) ∧ c.2.1 ≠ c.2.2 := fun c hc => ok c (by rw [ec]; exact List.mem_append_right _ (List.mem_cons_of_mem _ hc))
  obtain ⟨a1, a2, a3⟩ := ok (true, a, b) (by rw [ec]; simp)
  have a1 : a ∈ named (dayC P) := a1
  have a2 : b ∈ named (dayC P) := a2
  have a3 : a ≠ b := a3
  rw [e] at srt
  obtain ⟨s1, s2, s3⟩ := List.pairwise_append.mp srt
  rw [List.pairwise_cons] at s2
  have apost : ∀ c ∈ (post.map fun i => ((true, i, (frO P i).getD 0) : Cmd)), a ≠ c.2.1 := fun c hc => by
    obtain ⟨i, hi, rfl⟩ := List.mem_map.mp hc
    have := s2.1 i hi
    show a ≠ i
    omega
  have hpre := fold_eff hE okp
  have bl : blocks (dayC P) = (post.map fun i => ((true, i, (frO P i).getD 0) : Cmd)).foldl stepB (stepB ((pre.map fun i => ((true, i, (frO P i).getD 0) : Cmd)).foldl stepB (startB (named (dayC P)))) (true, a, b)) := by
    show (dayC P).foldl stepB _ = _
    conv => lhs; arg 3; rw [ec]
    rw [List.foldl_append, List.foldl_cons]
  have hmid := hpre.step (c := (true, a, b)) a1 a2 a3
  have final : src (blocks (dayC P)) a = src ((pre.map fun i => ((true, i, (frO P i).getD 0) : Cmd)).foldl stepB (startB (named (dayC P)))) b := by
    rw [bl, fold_src a1 hmid okq apost, hpre.src_step (c := (true, a, b)) a1 a2 a3 a1, if_pos rfl]
  rw [final]
  by_cases q : b < a
  · rw [if_pos q, bl, fold_src a2 hmid okq (fun c hc => by
      obtain ⟨i, hi, rfl⟩ := List.mem_map.mp hc
      have := s2.1 i hi
      show b ≠ i
      omega), hpre.src_step (c := (true, a, b)) a1 a2 a3 a2, if_neg (show ¬ b = a from fun z => a3 z.symm)]
  · rw [if_neg q, fold_src a2 hE okp (fun c hc => by
      obtain ⟨i, hi, rfl⟩ := List.mem_map.mp hc
      have := s3 i hi a List.mem_cons_self
      show b ≠ i
      omega)]
    exact src_start named_nd a2
theorem VFr.src_none {P : Fr} (v : VFr P) {a : Int} (h : frO P a = none) : src (blocks (dayC P)) a = a := by
  by_cases ha : a ∈ named (dayC P)
  · have hE := eff_start (N := named (dayC P)) named_nd
    have ok : ∀ c ∈ dayC P, c.2.1 ∈ named (dayC P) ∧ c.2.2 ∈ named (dayC P) ∧ c.2.1 ≠ c.2.2 := fun c hc => ⟨(VScr.in_named hc).1, (VScr.in_named hc).2, v.day.ne c hc⟩
    show src ((dayC P).foldl stepB _) a = a
    rw [fold_src ha hE ok fun c hc => by
      obtain ⟨i, hi, rfl⟩ := List.mem_map.mp hc
      obtain ⟨_, f, hf⟩ := mem_dayI hi
      show a ≠ i
      rintro rfl
      rw [h] at hf
      cases hf]
    exact src_start named_nd ha
  · exact src_off v.day.eff ha
/-! ### ways along the friends -/
inductive Fw (f : Int → Option Int) : Int → Int → Prop
  | one {x y : Int} : f x = some y → Fw f x y
  | step {x y z : Int} : f x = some y → Fw f y z → Fw f x z
/-- .. the last step upward -/
inductive Asc (f : Int → Option Int) : Int → Int → Prop
  | one {x y : Int} : f x = some y → x < y → Asc f x y
  | step {x y z : Int} : f x = some y → Asc f y z → Asc f x z
variable {f : Int → Option Int} {y z a : Int}
theorem Fw.snoc (h : Fw f x y) (q : f y = some z) : Fw f x z := by
  induction h with
  | one h => exact .step h (.one q)
  | step h _ ih => exact .step h (ih q)
theorem Fw.trans (h : Fw f x y) (q : Fw f y z) : Fw f x z := by
  induction h with
  | one h => exact .step h q
  | step h _ ih => exact .step h (ih q)
theorem Asc.last (h : Asc f x y) : ∃ a, f a = some y ∧ a < y ∧ (a = x ∨ Fw f x a) := by
  induction h with
  | @one x y h q => exact ⟨x, h, q, .inl rfl⟩
  | @step x b y h _ ih =>
    obtain ⟨a, h1, h2, h3⟩ := ih
    refine ⟨a, h1, h2, .inr ?_⟩
    rcases h3 with rfl | h3
    · exact .one h
    · exact .step h h3
theorem Fw.asc (h : Fw f x a) (q : f a = some y) (l : a < y) : Asc f x y := by
  induction h with
  | one h => exact .step h (.one q l)
  | step h _ ih => exact .step h (ih q l)
def nxF (f : Int → Option Int) (x : Int) : Int := (f x).getD x
def itF (f : Int → Option Int) : Nat → Int → Int
  | 0, x => x
  | n + 1, x => itF f n (nxF f x)
theorem itF_add (m : Nat) : ∀ (n : Nat) (x : Int), itF f (m + n) x = itF f m (itF f n x)
  | 0, _ => rfl
  | n + 1, x => itF_add m n (nxF f x)
theorem itF_mul {p : Nat} (h : itF f p x = x) : ∀ q, itF f (p * q) x = x
  | 0 => rfl
  | q + 1 => by rw [Nat.mul_succ, itF_add, h, itF_mul h q]
theorem Fw.it (h : Fw f x y) : ∃ k, 1 ≤ k ∧ itF f k x = y := by
  induction h with
  | @one x y h => exact ⟨1, Nat.le_refl _, by show nxF f x = y; unfold nxF; rw [h]; rfl⟩
  | @step x b y h _ ih =>
    obtain ⟨k, h1, h2⟩ := ih
    refine ⟨k + 1, by omega, ?_⟩
    show itF f k (nxF f x) = y
    unfold nxF
    rw [h]
    exact h2
theorem cyc_inj {a b c : Int} (ha : Fw f a a) (hb : Fw f b b) (h1 : f a = some c) (h2 : f b = some c) : a = b := by
  obtain ⟨p, p1, p2⟩ := ha.it
  obtain ⟨q, q1, q2⟩ := hb.it
  have e1 := itF_mul p2 q
  have e2 := itF_mul q2 p
  rw [Nat.mul_comm] at e2
  obtain ⟨m, hm⟩ : ∃ m, p * q = m + 1 := ⟨p * q - 1, by have := Nat.mul_pos p1 q1; omega⟩
  rw [hm] at e1 e2
  have k1 : nxF f a = c := by unfold nxF; rw [h1]; rfl
  have k2 : nxF f b = c := by unfold nxF; rw [h2]; rfl
  rw [← e1, ← e2]
  show itF f m (nxF f a) = itF f m (nxF f b)
  rw [k1, k2]
/-! ### friends' ways and sources' ways -/
variable {P : Fr}
theorem VFr.asc_it (v : VFr P) (h : Asc (frO P) x y) : ∃ j, 1 ≤ j ∧ itB (blocks (dayC P)) j x = y := by
  induction h with
  | @one x y h q => exact ⟨1, Nat.le_refl _, by show src _ x = y; rw [v.src_day h, if_neg (by omega)]⟩
  | @step x b y h _ ih =>
    obtain ⟨j, h1, h2⟩ := ih
    have e := v.src_day h
    by_cases q : b < x
    · rw [if_pos q] at e
      obtain ⟨k, rfl⟩ : ∃ k, j = k + 1 := ⟨j - 1, by omega⟩
      refine ⟨k + 1, h1, ?_⟩
      show itB _ k (src _ x) = y
      rw [e]
      exact h2
    · rw [if_neg q] at e
      refine ⟨j + 1, by omega, ?_⟩
      show itB _ j (src _ x) = y
      rw [e]
      exact h2
theorem VFr.src_kind (v : VFr P) : ∀ (n : Nat) {y : Int}, y.toNat < n → (frO P (src (blocks (dayC P)) y) = none ∨ Asc (frO P) y (src (blocks (dayC P)) y)) ∧ (src (blocks (dayC P)) y = y ∨ Fw (frO P) y (src (blocks (dayC P)) y))
  | 0, y, h => absurd h (Nat.not_lt_zero _)
  | n + 1, y, h => by
    cases q : frO P y with
    | none =>
      rw [v.src_none q]
      exact ⟨.inl q, .inl rfl⟩
    | some b =>
      obtain ⟨h1, h2, h3⟩ := v.fr_of q
      have i1 := v.it y h1
      have i2 := v.it b h2
      unfold VItem at i1 i2
      rw [v.src_day q]
      by_cases l : b < y
      · rw [if_pos l]
        obtain ⟨k1, k2⟩ := v.src_kind n (y := b) (by omega)
        refine ⟨k1.imp id fun z => .step q z, .inr ?_⟩
        rcases k2 with k2 | k2
        · rw [k2]; exact .one q
        · exact .step q k2
      · rw [if_neg l]
        exact ⟨.inr (.one q (by omega)), .inr (.one q)⟩
theorem VFr.it_fw (v : VFr P) : ∀ (j : Nat) (y : Int), itB (blocks (dayC P)) j y = y ∨ Fw (frO P) y (itB (blocks (dayC P)) j y)
  | 0, _ => .inl rfl
  | j + 1, y => by
    rw [it_src]
    have k := (v.src_kind _ (y := itB (blocks (dayC P)) j y) (Nat.lt_succ_self _)).2
    rcases v.it_fw j y with h | h
    · rw [h] at k ⊢
      exact k
    · refine .inr ?_
      rcases k with k | k
      · rw [k]; exact h
      · exact h.trans k
theorem Eff.ring_ex {k : Int} (e : Eff N B) (h : k ∈ ringI N B) : ∃ p, 1 ≤ p ∧ itB B p k = k := by
  obtain ⟨p, p1, _, p2⟩ := e.bit_back h
  have := e.it_bit p h
  rw [p2] at this
  exact ⟨p, p1, this⟩
theorem it_mul {p : Nat} {k : Int} (h : itB B p k = k) : ∀ q, itB B (p * q) k = k
  | 0 => rfl
  | q + 1 => by rw [Nat.mul_succ, it_add, h, it_mul h q]
theorem Eff.ring_of {k : Int} {p : Nat} (e : Eff N B) (hk : k ∈ N) (h1 : 1 ≤ p) (h : itB B p k = k) : k ∈ ringI N B := by
  refine e.mem_ring.mpr ⟨itB B (p * N.length - N.length) k, e.it_in _ hk, ?_⟩
  rw [← it_add, show N.length + (p * N.length - N.length) = p * N.length from Nat.add_sub_cancel' (Nat.le_mul_of_pos_left _ h1)]
  exact it_mul h _
/-- the items that are counted -/
def CntQ (P : Fr) (a : Int) : Prop := frO P a = none ∨ (Fw (frO P) a a ∧ ∃ b, frO P a = some b ∧ a < b)
theorem VFr.named_of (v : VFr P) {a b : Int} (h : frO P a = some b) : a ∈ named (dayC P) ∧ b ∈ named (dayC P) := by
  obtain ⟨ha, hb, hab⟩ := v.fr_of h
  have : ((true, a, b) : Cmd) ∈ dayC P := by
    unfold dayC dayI
    refine List.mem_map.mpr ⟨a, ?_, by rw [h]; rfl⟩
    rw [List.mem_filter]
    exact ⟨sortI_mem.mpr ha, by rw [h]; rfl⟩
  exact VScr.in_named this
open Classical in
theorem VFr.count (v : VFr P) : ((frK P).filter fun a => decide (CntQ P a)).length = (ringI (named (dayC P)) (blocks (dayC P))).length + ((frK P).filter fun i => decide (i ∉ named (dayC P))).length := by
  have e := v.day.eff
  have alone : ∀ i, i ∉ named (dayC P) → frO P i = none := fun i hi => by
    cases q : frO P i with
    | none => rfl
    | some b => exact absurd (v.named_of q).1 hi
  rw [← List.length_map (f := nxF (frO P)), ← List.length_append]
  refine Nat.le_antisymm (len_of_sub ?_ ?_) (len_of_sub ?_ ?_)
  · rw [List.nodup_iff_pairwise_ne, List.pairwise_map]
    refine List.Pairwise.imp_of_mem ?_ (List.nodup_iff_pairwise_ne.mp (v.nd.sublist List.filter_sublist))
    intro a b ha hb hn q
    rw [List.mem_filter, decide_eq_true_iff] at ha hb
    unfold nxF at q
    rcases ha.2 with ha2 | ⟨ha2, c, hc, lc⟩ <;> rcases hb.2 with hb2 | ⟨hb2, d, hd, ld⟩
    · rw [ha2, hb2] at q
      exact hn q
    · rw [ha2, hd] at q
      have q : a = d := q
      subst q
      cases hb2 with
      | one h => rw [hd] at h; cases h; omega
      | step h h' =>
        rw [hd] at h
        cases h
        cases h' with
        | one h => rw [ha2] at h; cases h
        | step h _ => rw [ha2] at h; cases h
    · rw [hc, hb2] at q
      have q : c = b := q
      subst q
      cases ha2 with
      | one h => rw [hc] at h; cases h; omega
      | step h h' =>
        rw [hc] at h
        cases h
        cases h' with
        | one h => rw [hb2] at h; cases h
        | step h _ => rw [hb2] at h; cases h
    · rw [hc, hd] at q
      have q : c = d := q
      subst q
      exact hn (cyc_inj ha2 hb2 hc hd)
  · intro x hx
    obtain ⟨a, ha, rfl⟩ := List.mem_map.mp hx
    rw [List.mem_filter, decide_eq_true_iff] at ha
    rw [List.mem_append, List.mem_filter, decide_eq_true_iff]
    unfold nxF
    rcases ha.2 with h | ⟨h, b, hb, l⟩
    · rw [h]
      show a ∈ _ ∨ a ∈ _ ∧ a ∉ _
      by_cases hN : a ∈ named (dayC P)
      · exact .inl (e.ring_of hN (Nat.le_refl 1) (v.src_none h))
      · exact .inr ⟨ha.1, hN⟩
    · rw [hb]
      refine .inl ?_
      show b ∈ _
      have A : Asc (frO P) b b := by
        cases h with
        | one h => rw [hb] at h; cases h; omega
        | step h h' =>
          rw [hb] at h
          cases h
          exact h'.asc hb l
      obtain ⟨j, h1, h2⟩ := v.asc_it A
      exact e.ring_of (v.named_of hb).2 h1 h2
  · rw [List.nodup_append]
    refine ⟨ring_nd, v.nd.sublist List.filter_sublist, fun x hx y hy q => ?_⟩
    rw [List.mem_filter, decide_eq_true_iff] at hy
    exact hy.2 (q ▸ e.ring_sub hx)
  · intro x hx
    rw [List.mem_append, List.mem_filter, decide_eq_true_iff] at hx
    have fin : ∀ {x : Int}, x ∈ frK P → frO P x = none → x ∈ ((frK P).filter fun a => decide (CntQ P a)).map (nxF (frO P)) := fun {x} h1 h2 => by
      refine List.mem_map.mpr ⟨x, ?_, by unfold nxF; rw [h2]; rfl⟩
      rw [List.mem_filter, decide_eq_true_iff]
      exact ⟨h1, .inl h2⟩
    rcases hx with hx | hx
    · obtain ⟨p, p1, p2⟩ := e.ring_ex hx
      have xK := v.named_in x (e.ring_sub hx)
      cases q : frO P x with
      | none => exact fin xK q
      | some c =>
        obtain ⟨m, rfl⟩ : ∃ m, p = m + 1 := ⟨p - 1, by omega⟩
        rw [it_src] at p2
        have A := (v.src_kind _ (y := itB (blocks (dayC P)) m x) (Nat.lt_succ_self _)).1
        rw [p2] at A
        have A := A.resolve_left (by rw [q]; simp)
        obtain ⟨a, h1, h2, h3⟩ := A.last
        have W : Fw (frO P) x a := by
          rcases v.it_fw m x with w | w
          · rw [w] at h3
            rcases h3 with h3 | h3
            · omega
            · exact h3
          · rcases h3 with h3 | h3
            · rw [h3]; exact w
            · exact w.trans h3
        refine List.mem_map.mpr ⟨a, ?_, by unfold nxF; rw [h1]; rfl⟩
        rw [List.mem_filter, decide_eq_true_iff]
        exact ⟨(v.fr_of h1).1, .inr ⟨.step h1 W, x, h1, h2⟩⟩
    · exact fin hx.1 (alone x hx.2)
/-! ### the program's walk -/
def hereS (f : Int → Option Int) (i : Int) : Nat → Option Int → Option Int
  | 0, h => h
  | n + 1, none => hereS f i n none
  | n + 1, some x => hereS f i n (if x ≠ i then f x else some x)
theorem hereS_none : ∀ n, hereS f i n none = none
  | 0 => rfl
  | n + 1 => hereS_none n
theorem hereS_fw : ∀ (n : Nat) {x : Int}, hereS f i n (some x) = some i → x = i ∨ Fw f x i
  | 0, _, h => .inl (Option.some.inj h)
  | n + 1, x, h => by
    by_cases q : x = i
    · exact .inl q
    · have h : hereS f i n (if x ≠ i then f x else some x) = some i := h
      rw [if_pos q] at h
      refine .inr ?_
      cases r : f x with
      | none => rw [r, hereS_none] at h; cases h
      | some c =>
        rw [r] at h
        rcases hereS_fw n h with e | e
        · rw [← e]; exact .one r
        · exact .step r e
theorem itF_stay (h : f x = none) : ∀ m, itF f m x = x
  | 0 => rfl
  | m + 1 => by
    show itF f m (nxF f x) = x
    rw [show nxF f x = x by unfold nxF; rw [h]; rfl]
    exact itF_stay h m
theorem hereS_it : ∀ (n : Nat) {m : Nat} {x : Int}, m ≤ n → itF f m x = i → hereS f i n (some x) = some i
  | 0, m, x, h, q => by
    have : m = 0 := by omega
    subst this
    exact congrArg some q
  | n + 1, m, x, h, q => by
    show hereS f i n (if x ≠ i then f x else some x) = some i
    by_cases e : x = i
    · rw [if_neg fun z => z e]
      exact hereS_it n (m := 0) (Nat.zero_le _) e
    · rw [if_pos e]
      cases r : f x with
      | none => exact absurd ((itF_stay r m).symm.trans q) e
      | some c =>
        cases m with
        | zero => exact absurd q e
        | succ m =>
          refine hereS_it n (m := m) (by omega) ?_
          have q : itF f m (nxF f x) = i := q
          rw [show nxF f x = c by unfold nxF; rw [r]; rfl] at q
          exact q
theorem VFr.nx_in (v : VFr P) (h : x ∈ frK P) : nxF (frO P) x ∈ frK P := by
  unfold nxF
  cases q : frO P x with
  | none => exact h
  | some c => exact (v.fr_of q).2.1
theorem VFr.itF_in (v : VFr P) : ∀ (m : Nat) {x : Int}, x ∈ frK P → itF (frO P) m x ∈ frK P
  | 0, _, h => h
  | m + 1, _, h => v.itF_in m (v.nx_in h)
theorem VFr.here (v : VFr P) {n : Nat} (hn : P.length ≤ n) {b : Int} (h : frO P i = some b) : hereS (frO P) i n (some b) = some i ↔ Fw (frO P) i i := by
  constructor
  · intro q
    rcases hereS_fw n q with e | e
    · exact absurd e (v.fr_of h).2.2
    · exact .step h e
  · intro q
    obtain ⟨p, p1, p2⟩ := q.it
    obtain ⟨c, d, hcd, hd, eq⟩ := pigeon (N := frK P) (f := fun j => itF (frO P) j i) fun j => v.itF_in j (v.fr_of h).1
    have hk : itF (frO P) (d - c) i = i := by
      have e1 := itF_mul p2 c
      have hc : c ≤ p * c := Nat.le_mul_of_pos_left _ p1
      have eq : itF (frO P) c i = itF (frO P) d i := eq
      have e2 : itF (frO P) (p * c - c) (itF (frO P) c i) = i := by rw [← itF_add, Nat.sub_add_cancel hc]; exact e1
      rw [eq, ← itF_add, show p * c - c + d = (d - c) + p * c by omega, itF_add, e1] at e2
      exact e2
    obtain ⟨k, e⟩ : ∃ k, d - c = k + 1 := ⟨d - c - 1, by omega⟩
    rw [e] at hk
    have hk : itF (frO P) k (nxF (frO P) i) = i := hk
    rw [show nxF (frO P) i = b by unfold nxF; rw [h]; rfl] at hk
    exact hereS_it n (m := k) (by rw [frK_len] at hd; omega) hk
/-- one item of the program's count -/
def cntB (P : Fr) (p : Int × Option Int) : Bool := match p.2 with
  | none => true
  | some b => decide (hereS (frO P) p.1 P.length (some b) = some p.1) && decide (p.1 < b)
def cntN (P : Fr) : Nat := (P.filter (cntB P)).length
open Classical in
theorem VFr.cntN_eq (v : VFr P) : cntN P = ((frK P).filter fun a => decide (CntQ P a)).length := by
  unfold cntN frK
  rw [List.filter_map, List.length_map]
  congr 1
  refine List.filter_congr fun p hp => ?_
  obtain ⟨a, o⟩ := p
  have ha : frO P a = o := frO_at v.nd hp
  show cntB P (a, o) = decide (CntQ P a)
  rw [Bool.eq_iff_iff, decide_eq_true_iff]
  unfold CntQ cntB
  rw [ha]
  cases o with
  | none => simp
  | some b =>
    show (decide (hereS (frO P) a P.length (some b) = some a) && decide (a < b)) = true ↔ _
    rw [Bool.and_eq_true, decide_eq_true_iff, decide_eq_true_iff, v.here (Nat.le_refl _) ha]
    constructor
    · rintro ⟨h1, h2⟩
      exact .inr ⟨h1, b, rfl, h2⟩
    · rintro (h | ⟨h1, c, hc, h2⟩)
      · cases h
      · cases hc
        exact ⟨h1, h2⟩
end Mv

/-! The rings of sources as the program finds them: plain. -/
namespace Mv
open PySem Py Pr
variable {N : List Int} {B : Bl}
/-- what is asked of one ring -/
structure RingOk (B : Bl) (r : List Int) : Prop where
  ne : r ≠ []
  nd : r.Nodup
  per : ∀ x ∈ r, itB B r.length x = x
  min : ∀ x ∈ r, ∀ m, itB B m x = x → r.length ∣ m
/-- all the rings -/
structure RingsOk (N : List Int) (B : Bl) (R : List (List Int)) : Prop where
  mem : ∀ x, (∃ r ∈ R, x ∈ r) ↔ x ∈ ringI N B
  ok : ∀ r ∈ R, RingOk B r
  dj : R.flatten.Nodup
theorem RingOk.perm {r r' : List Int} (h : RingOk B r) (p : r'.Perm r) : RingOk B r' :=
  ⟨fun e => h.ne (by rw [e] at p; exact p.nil_eq.symm), p.nodup_iff.mpr h.nd, fun x hx => by rw [p.length_eq]; exact h.per x (p.mem_iff.mp hx), fun x hx m hm => by rw [p.length_eq]; exact h.min x (p.mem_iff.mp hx) m hm⟩
theorem RingsOk.perm {R R' : List (List Int)} (h : RingsOk N B R) (p : R'.Perm R) : RingsOk N B R' :=
  ⟨fun x => ⟨fun ⟨r, hr, hx⟩ => (h.mem x).mp ⟨r, p.mem_iff.mp hr, hx⟩, fun z => by obtain ⟨r, hr, hx⟩ := (h.mem x).mpr z; exact ⟨r, p.mem_iff.mpr hr, hx⟩⟩, fun r hr => h.ok r (p.mem_iff.mp hr), p.flatten.nodup_iff.mpr h.dj⟩
/-- the least common multiple of the rings' lengths -/
def lcmN (ns : List Nat) : Nat := ns.foldl Nat.lcm 1
theorem lcm_fold : ∀ (ns : List Nat) (a m : Nat), ns.foldl Nat.lcm a ∣ m ↔ a ∣ m ∧ ∀ n ∈ ns, n ∣ m
  | [], a, m => by simp
  | n :: ns, a, m => by
    rw [List.foldl_cons, lcm_fold ns, Nat.lcm_dvd_iff]
    simp only [List.mem_cons, forall_eq_or_imp]
    exact and_assoc
theorem lcm_dvd {ns : List Nat} {m : Nat} : lcmN ns ∣ m ↔ ∀ n ∈ ns, n ∣ m := by
  unfold lcmN
  rw [lcm_fold]
  exact ⟨fun h => h.2, fun h => ⟨Nat.one_dvd m, h⟩⟩
theorem it_dvd {p m : Nat} {k : Int} (h : itB B p k = k) (d : p ∣ m) : itB B m k = k := by
  obtain ⟨q, rfl⟩ := d
  exact it_mul h q
theorem RingsOk.dvd {R : List (List Int)} (h : RingsOk N B R) (m : Nat) : lcmN (R.map List.length) ∣ m ↔ ∀ x ∈ ringI N B, itB B m x = x := by
  rw [lcm_dvd]
  constructor
  · intro d x hx
    obtain ⟨r, hr, hx⟩ := (h.mem x).mpr hx
    exact it_dvd ((h.ok r hr).per x hx) (d _ (List.mem_map.mpr ⟨r, hr, rfl⟩))
  · intro z n hn
    obtain ⟨r, hr, rfl⟩ := List.mem_map.mp hn
    obtain ⟨x, hx⟩ := List.exists_mem_of_ne_nil r (h.ok r hr).ne
    exact (h.ok r hr).min x hx m (z x ((h.mem x).mp ⟨r, hr, hx⟩))
/-- the period does not hang on how the rings are told -/
theorem RingsOk.uniq {R R' : List (List Int)} (h : RingsOk N B R) (h' : RingsOk N B R') : lcmN (R.map List.length) = lcmN (R'.map List.length) :=
  Nat.dvd_antisymm ((h.dvd _).mpr ((h'.dvd _).mp (Nat.dvd_refl _))) ((h'.dvd _).mpr ((h.dvd _).mp (Nat.dvd_refl _)))
theorem lcm_pos : ∀ (ns : List Nat) (a : Nat), 0 < a → (∀ n ∈ ns, 0 < n) → 0 < ns.foldl Nat.lcm a
  | [], a, h, _ => h
  | n :: ns, a, h, k => lcm_pos ns _ (Nat.lcm_pos h (k n List.mem_cons_self)) fun m hm => k m (List.mem_cons_of_mem _ hm)
theorem RingsOk.pos {R : List (List Int)} (h : RingsOk N B R) : 0 < lcmN (R.map List.length) := lcm_pos _ _ (by decide) fun n hn => by
  obtain ⟨r, hr, rfl⟩ := List.mem_map.mp hn
  exact List.length_pos_iff.mpr (h.ok r hr).ne
/-! ### a way from an item on -/
def wayB (B : Bl) (s : Int) (w : Nat) : List Int := (List.range w).map fun i => itB B i s
theorem way_len (B : Bl) (s : Int) (w : Nat) : (wayB B s w).length = w := by simp [wayB]
theorem way_succ (B : Bl) (s : Int) (w : Nat) : wayB B s (w + 1) = wayB B s w ++ [itB B w s] := by unfold wayB; rw [List.range_succ]; simp
theorem way_mem {s x : Int} {w : Nat} : x ∈ wayB B s w ↔ ∃ i, i < w ∧ itB B i s = x := by
  unfold wayB
  rw [List.mem_map]
  exact ⟨fun ⟨i, hi, e⟩ => ⟨i, List.mem_range.mp hi, e⟩, fun ⟨i, hi, e⟩ => ⟨i, List.mem_range.mpr hi, e⟩⟩
theorem way_inj {s : Int} {w i j : Nat} (nd : (wayB B s w).Nodup) (hi : i < w) (hj : j < w) (e : itB B i s = itB B j s) : i = j := by
  unfold wayB at nd
  exact inj_map (fun i => itB B i s) nd (List.mem_range.mpr hi) (List.mem_range.mpr hj) e
theorem way_get (s : Int) {w i : Nat} : (wayB B s w)[i]? = if i < w then some (itB B i s) else none := by
  unfold wayB
  rw [List.getElem?_map]
  by_cases c : i < w
  · rw [List.getElem?_range c, if_pos c]; rfl
  · rw [List.getElem?_eq_none (by simpa using c), if_neg c]; rfl
theorem way_drop (s : Int) {j w : Nat} (h : j ≤ w) : (wayB B s w).drop j = wayB B (itB B j s) (w - j) := by
  refine List.ext_getElem? fun i => ?_
  rw [List.getElem?_drop, way_get, way_get]
  by_cases c : i < w - j
  · rw [if_pos (by omega), if_pos c, Nat.add_comm, it_add]
  · rw [if_neg (by omega), if_neg c]
theorem way_idx {s : Int} {j w : Nat} (nd : (wayB B s w).Nodup) (hj : j < w) : (wayB B s w).idxOf (itB B j s) = j := by
  have hl : j < (wayB B s w).length := by rw [way_len]; exact hj
  have e : (wayB B s w)[j]? = some (itB B j s) := by
    unfold wayB
    rw [List.getElem?_map, List.getElem?_range hj]
    rfl
  obtain ⟨h1, h2⟩ := List.getElem?_eq_some_iff.mp e
  rw [← h2]
  exact nd.idxOf_getElem j h1
/-- the ring at the end of a way -/
theorem way_ring {s : Int} {j w : Nat} (nd : (wayB B s w).Nodup) (hj : j < w) (e : itB B w s = itB B j s) : RingOk B (wayB B (itB B j s) (w - j)) := by
  have hp : itB B (w - j) (itB B j s) = itB B j s := by rw [← it_add, Nat.sub_add_cancel (Nat.le_of_lt hj)]; exact e
  refine ⟨fun z => ?_, ?_, fun x hx => ?_, fun x hx m hm => ?_⟩
  · have := congrArg List.length z
    rw [way_len] at this
    simp at this
    omega
  · rw [← way_drop s (Nat.le_of_lt hj)]
    exact nd.sublist (List.drop_sublist _ _)
  · obtain ⟨i, hi, rfl⟩ := way_mem.mp hx
    rw [way_len, ← it_add, Nat.add_comm, it_add, hp]
  · obtain ⟨i, hi, rfl⟩ := way_mem.mp hx
    rw [way_len]
    have per : itB B (w - j) (itB B i (itB B j s)) = itB B i (itB B j s) := by rw [← it_add, Nat.add_comm, it_add, hp]
    refine Nat.dvd_of_mod_eq_zero ?_
    apply Classical.byContradiction
    intro hne
    have hlt : m % (w - j) < w - j := Nat.mod_lt _ (by omega)
    have hm2 : itB B (m % (w - j)) (itB B i (itB B j s)) = itB B i (itB B j s) := by
      have e2 : itB B (m % (w - j) + (w - j) * (m / (w - j))) (itB B i (itB B j s)) = itB B i (itB B j s) := by rw [Nat.mod_add_div]; exact hm
      rw [it_add, it_mul per] at e2
      exact e2
    generalize m % (w - j) = q at *
    rw [← it_add, ← it_add, ← it_add, Nat.add_assoc] at hm2
    by_cases c : q + i + j < w
    · have := way_inj nd (i := q + (i + j)) (j := i + j) (by omega) (by omega) hm2
      omega
    · have e3 : itB B (q + (i + j)) s = itB B (q + (i + j) - (w - j)) s := by
        have e4 : q + (i + j) = (q + (i + j) - w) + w := by omega
        rw [e4, it_add, e, ← it_add]
        congr 1
        omega
      rw [e3] at hm2
      have := way_inj nd (i := q + (i + j) - (w - j)) (j := i + j) (by omega) (by omega) hm2
      omega
/-- no item ahead of the ring is on a ring -/
theorem way_off {s : Int} {i j w : Nat} (nd : (wayB B s w).Nodup) (hj : j < w) (e : itB B w s = itB B j s) (hi : i < j) {q : Nat} (hq : 1 ≤ q) (h : itB B q (itB B i s) = itB B i s) : False := by
  have hp : itB B (w - j) (itB B j s) = itB B j s := by rw [← it_add, Nat.sub_add_cancel (Nat.le_of_lt hj)]; exact e
  have h1 : itB B (q * j) (itB B i s) = itB B i s := it_mul h j
  have hqj : j ≤ q * j := Nat.le_mul_of_pos_left _ hq
  rw [← it_add] at h1
  obtain ⟨d, hd⟩ : ∃ d, q * j + i = d + j := ⟨q * j + i - j, by omega⟩
  rw [hd, it_add] at h1
  have e2 : itB B d (itB B j s) = itB B (d % (w - j)) (itB B j s) := by
    conv => lhs; rw [← Nat.mod_add_div d (w - j), it_add, it_mul hp]
  have hlt : d % (w - j) < w - j := Nat.mod_lt _ (by omega)
  rw [e2, ← it_add] at h1
  have := way_inj nd (i := d % (w - j) + j) (j := i) (by omega) (by omega) h1
  omega
/-! ### the program's state -/
/-- seen items with the item they were first met from; the rings found -/
structure Seen (N : List Int) (B : Bl) (ds : List Int) (T : List (Int × Int)) (F : List (List Int)) : Prop where
  nd : (T.map (·.1)).Nodup
  sub : ∀ x ∈ T.map (·.1), x ∈ N
  cl : ∀ x ∈ T.map (·.1), src B x ∈ T.map (·.1)
  val : ∀ p ∈ T, p.2 ∈ ds
  all : ∀ x ∈ ds, x ∈ T.map (·.1)
  mem : ∀ x, (∃ r ∈ F, x ∈ r) ↔ x ∈ T.map (·.1) ∧ x ∈ ringI N B
  ok : ∀ r ∈ F, RingOk B r
  len : F.length ≤ ds.length
  dj : F.flatten.Nodup
theorem Seen.start : Seen N B [] [] [] := ⟨.nil, fun _ h => (nomatch h), fun _ h => (nomatch h), fun _ h => (nomatch h), fun _ h => (nomatch h), fun x => ⟨fun ⟨r, hr, _⟩ => (nomatch hr), fun h => (nomatch h.1)⟩, fun _ h => (nomatch h), Nat.le_refl _, .nil⟩
theorem Seen.it {ds : List Int} {T : List (Int × Int)} {F : List (List Int)} (h : Seen N B ds T F) : ∀ (m : Nat) {x : Int}, x ∈ T.map (·.1) → itB B m x ∈ T.map (·.1)
  | 0, _, hx => hx
  | m + 1, _, hx => h.it m (h.cl _ hx)
theorem Seen.done {ds : List Int} {T : List (Int × Int)} {F : List (List Int)} (e : Eff N B) (h : Seen N B ds T F) (hd : ∀ x ∈ N, x ∈ ds) : RingsOk N B F :=
  ⟨fun x => (h.mem x).trans ⟨fun z => z.2, fun z => ⟨h.all x (hd x (e.ring_sub z)), z⟩⟩, h.ok, h.dj⟩
/-- the pairs after a way -/
def seenW (B : Bl) (T : List (Int × Int)) (s : Int) (w : Nat) : List (Int × Int) := T ++ (wayB B s w).map fun x => (x, s)
theorem seenW_keys (B : Bl) (T : List (Int × Int)) (s : Int) (w : Nat) : (seenW B T s w).map (·.1) = T.map (·.1) ++ wayB B s w := by
  unfold seenW
  rw [List.map_append, List.map_map]
  congr 1
  exact List.map_id _
theorem seenW_succ (B : Bl) (T : List (Int × Int)) (s : Int) (w : Nat) : seenW B T s (w + 1) = seenW B T s w ++ [(itB B w s, s)] := by
  unfold seenW
  rw [way_succ, List.map_append, List.append_assoc]
  rfl
/-- a way that has come upon an old item -/
theorem Seen.old {ds : List Int} {T : List (Int × Int)} {F : List (List Int)} (e : Eff N B) (h : Seen N B ds T F) {s : Int} {w : Nat} (hs : s ∈ N) (nd : (T.map (·.1) ++ wayB B s w).Nodup) (hx : itB B w s ∈ T.map (·.1)) : Seen N B (ds ++ [s]) (seenW B T s w) F := by
  refine ⟨by rw [seenW_keys]; exact nd, fun x hx => ?_, fun x hx => ?_, fun p hp => ?_, fun x hx => ?_, fun x => ?_, h.ok, by rw [List.length_append]; exact Nat.le_trans h.len (Nat.le_add_right _ _), h.dj⟩
  · rw [seenW_keys, List.mem_append] at hx
    rcases hx with hx | hx
    · exact h.sub x hx
    · obtain ⟨i, _, rfl⟩ := way_mem.mp hx
      exact e.it_in i hs
  · rw [seenW_keys, List.mem_append] at hx ⊢
    rcases hx with hx' | hx'
    · exact .inl (h.cl x hx')
    · obtain ⟨i, hi, rfl⟩ := way_mem.mp hx'
      rw [← it_src]
      by_cases c : i + 1 < w
      · exact .inr (way_mem.mpr ⟨i + 1, c, rfl⟩)
      · have : i + 1 = w := by omega
        rw [this]
        exact .inl (by assumption)
  · unfold seenW at hp
    rcases List.mem_append.mp hp with hp | hp
    · exact List.mem_append_left _ (h.val p hp)
    · obtain ⟨x, _, rfl⟩ := List.mem_map.mp hp
      exact List.mem_append_right _ (List.mem_singleton.mpr rfl)
  · rw [seenW_keys, List.mem_append]
    rcases List.mem_append.mp hx with hx | hx
    · exact .inl (h.all x hx)
    · cases List.mem_singleton.mp hx
      by_cases c : 0 < w
      · exact .inr (way_mem.mpr ⟨0, c, rfl⟩)
      · have : w = 0 := by omega
        subst this
        exact .inl (by assumption)
  · rw [h.mem, seenW_keys, List.mem_append]
    refine ⟨fun z => ⟨.inl z.1, z.2⟩, fun z => ⟨z.1.resolve_right fun q => ?_, z.2⟩⟩
    obtain ⟨i, hi, rfl⟩ := way_mem.mp q
    obtain ⟨p, p1, p2⟩ := e.ring_ex z.2
    have h1 : itB B (p * w) (itB B i s) = itB B i s := it_mul p2 w
    have hw : w ≤ p * w := Nat.le_mul_of_pos_left _ p1
    rw [← it_add, show p * w + i = (p * w + i - w) + w by omega, it_add] at h1
    have h2 := h.it (p * w + i - w) hx
    rw [h1] at h2
    exact (List.nodup_append.mp nd).2.2 _ h2 _ (way_mem.mpr ⟨i, hi, rfl⟩) rfl
/-- a way that has come upon itself -/
theorem Seen.new {ds : List Int} {T : List (Int × Int)} {F : List (List Int)} (e : Eff N B) (h : Seen N B ds T F) {s : Int} {j w : Nat} (hs : s ∈ N) (nd : (T.map (·.1) ++ wayB B s w).Nodup) (hj : j < w) (hx : itB B w s = itB B j s) {r : List Int} (hr : r.Perm ((wayB B s w).drop j)) : Seen N B (ds ++ [s]) (seenW B T s w) (F ++ [r]) := by
  have ndw : (wayB B s w).Nodup := (List.nodup_append.mp nd).2.1
  have ok : RingOk B r := by
    rw [way_drop s (Nat.le_of_lt hj)] at hr
    exact (way_ring ndw hj hx).perm hr
  refine ⟨by rw [seenW_keys]; exact nd, fun x hx => ?_, fun x hx => ?_, fun p hp => ?_, fun x hx => ?_, fun x => ?_, fun r' hr' => ?_, by rw [List.length_append, List.length_append]; exact Nat.add_le_add_right h.len 1, ?_⟩
  · rw [seenW_keys, List.mem_append] at hx
    rcases hx with hx | hx
    · exact h.sub x hx
    · obtain ⟨i, _, rfl⟩ := way_mem.mp hx
      exact e.it_in i hs
  · rw [seenW_keys, List.mem_append] at hx ⊢
    rcases hx with hx' | hx'
    · exact .inl (h.cl x hx')
    · obtain ⟨i, hi, rfl⟩ := way_mem.mp hx'
      rw [← it_src]
      by_cases c : i + 1 < w
      · exact .inr (way_mem.mpr ⟨i + 1, c, rfl⟩)
      · have : i + 1 = w := by omega
        rw [this]
        exact .inr (way_mem.mpr ⟨j, hj, by rw [← ‹itB B w s = itB B j s›]⟩)
  · unfold seenW at hp
    rcases List.mem_append.mp hp with hp | hp
    · exact List.mem_append_left _ (h.val p hp)
    · obtain ⟨x, _, rfl⟩ := List.mem_map.mp hp
      exact List.mem_append_right _ (List.mem_singleton.mpr rfl)
  · rw [seenW_keys, List.mem_append]
    rcases List.mem_append.mp hx with hx | hx
    · exact .inl (h.all x hx)
    · cases List.mem_singleton.mp hx
      exact .inr (way_mem.mpr ⟨0, by omega, rfl⟩)
  · rw [seenW_keys, List.mem_append]
    have inr : ∀ y, y ∈ r ↔ ∃ i, j ≤ i ∧ i < w ∧ itB B i s = y := fun y => by
      rw [hr.mem_iff, way_drop s (Nat.le_of_lt hj), way_mem]
      constructor
      · rintro ⟨i, hi, rfl⟩
        exact ⟨i + j, by omega, by omega, it_add B i j s⟩
      · rintro ⟨i, h1, h2, rfl⟩
        refine ⟨i - j, by omega, ?_⟩
        rw [← it_add, Nat.sub_add_cancel h1]
    constructor
    · rintro ⟨r', hr', hx'⟩
      rcases List.mem_append.mp hr' with hr' | hr'
      · have := (h.mem x).mp ⟨r', hr', hx'⟩
        exact ⟨.inl this.1, this.2⟩
      · cases List.mem_singleton.mp hr'
        obtain ⟨i, h1, h2, rfl⟩ := (inr x).mp hx'
        exact ⟨.inr (way_mem.mpr ⟨i, h2, rfl⟩), e.ring_of (e.it_in i hs) (List.length_pos_iff.mpr ok.ne) (ok.per _ hx')⟩
    · rintro ⟨h1, h2⟩
      rcases h1 with h1 | h1
      · obtain ⟨r', hr', hx'⟩ := (h.mem x).mpr ⟨h1, h2⟩
        exact ⟨r', List.mem_append_left _ hr', hx'⟩
      · obtain ⟨i, hi, rfl⟩ := way_mem.mp h1
        refine ⟨r, List.mem_append_right _ (List.mem_singleton.mpr rfl), (inr _).mpr ⟨i, ?_, hi, rfl⟩⟩
        apply Classical.byContradiction
        intro c
        obtain ⟨p, p1, p2⟩ := e.ring_ex h2
        exact way_off ndw hj hx (by omega) p1 p2
  · rcases List.mem_append.mp hr' with hr' | hr'
    · exact h.ok r' hr'
    · cases List.mem_singleton.mp hr'
      exact ok
  · rw [List.flatten_append, List.nodup_append]
    refine ⟨h.dj, by simpa using ok.nd, fun x hx y hy e => ?_⟩
    obtain ⟨r', hr', hx⟩ := List.mem_flatten.mp hx
    have h1 := ((h.mem x).mp ⟨r', hr', hx⟩).1
    have hy : y ∈ r := by simpa using hy
    subst e
    exact (List.nodup_append.mp nd).2.2 _ h1 _ (List.mem_of_mem_drop (hr.mem_iff.mp hy)) rfl
/-! ### settled -/
structure Settled (N : List Int) (B : Bl) (T : Nat) : Prop where
  on : Onr N B T
  min : ∀ m, Onr N B m → T ≤ m
theorem Settled.uniq {T T' : Nat} (h : Settled N B T) (h' : Settled N B T') : T = T' := Nat.le_antisymm (h.min _ h'.on) (h'.min _ h.on)
theorem Settled.le {T : Nat} (e : Eff N B) (h : Settled N B T) : T ≤ N.length := h.min _ e.onr_len
/-- the rows that are not empty -/
theorem Eff.fin_len (e : Eff N B) {T : Nat} (h : Onr N B T) : (((powB N B T).map (·.2)).filter fun r => decide (r ≠ [])).length = (ringI N B).length := by
  have ep := eff_pow e T
  have e1 : (((powB N B T).map (·.2)).filter fun r => decide (r ≠ [])).length = ((powB N B T).filter fun p => decide (p.2 ≠ [])).length := by
    rw [List.filter_map, List.length_map]
    rfl
  have e2 : ((powB N B T).filter fun p => decide (p.2 ≠ [])).length = (((powB N B T).filter fun p => decide (p.2 ≠ [])).map (·.1)).length := (List.length_map _).symm
  rw [e1, e2]
  have nd : (((powB N B T).filter fun p => decide (p.2 ≠ [])).map (·.1)).Nodup := ep.nodK.sublist (List.filter_sublist.map _)
  refine Nat.le_antisymm (len_of_sub nd fun x hx => ?_) (len_of_sub ring_nd fun x hx => ?_)
  · obtain ⟨p, hp, rfl⟩ := List.mem_map.mp hx
    obtain ⟨h1, h2⟩ := List.mem_filter.mp hp
    apply Classical.byContradiction
    intro c
    have := e.off_ring h (ep.key h1) c
    rw [ep.get_at h1] at this
    exact (of_decide_eq_true h2) this
  · have xN := e.ring_sub hx
    refine List.mem_map.mpr ⟨(x, getB (powB N B T) x), List.mem_filter.mpr ⟨ep.row xN, decide_eq_true fun z => ?_⟩, rfl⟩
    have yr := e.bit_in T hx
    have m : bit N B T x ∈ getB (powB N B T) x := (e.mem_pow T (e.ring_sub yr) xN).mpr (e.it_bit T hx)
    have z : getB (powB N B T) x = [] := z
    rw [z] at m
    cases m
/-- once settled, the lines come again after a period -/
theorem Eff.again (e : Eff N B) {T m : Nat} (h : Onr N B T) (hm : ∀ x ∈ ringI N B, itB B m x = x) (i : Int) : getB (powB N B (T + m)) i = getB (powB N B T) i := by
  by_cases hi : i ∈ N
  · by_cases hr : i ∈ ringI N B
    · rw [e.turns h m hr]
      have : bit N B m i = i := by
        have yr := e.bit_in m hr
        have := e.it_bit m hr
        rw [hm _ yr] at this
        exact this
      rw [this]
    · rw [e.off_ring h hi hr, e.off_ring (e.onr_more h (Nat.le_add_right T m)) hi hr]
  · rw [getB_not (by rw [(eff_pow e _).ks]; exact hi), getB_not (by rw [(eff_pow e _).ks]; exact hi)]
/-- the steps till an item on a ring -/
def entN (N : List Int) (B : Bl) : Nat → Int → Nat
  | 0, _ => 0
  | n + 1, i => if i ∈ ringI N B then 0 else entN N B n (src B i) + 1
theorem ent_on : ∀ (n : Nat) {i : Int}, itB B n i ∈ ringI N B → itB B (entN N B n i) i ∈ ringI N B
  | 0, _, h => h
  | n + 1, i, h => by
    unfold entN
    by_cases c : i ∈ ringI N B
    · rw [if_pos c]; exact c
    · rw [if_neg c]; exact ent_on n h
theorem ent_min : ∀ (n : Nat) {i : Int} (m : Nat), itB B m i ∈ ringI N B → entN N B n i ≤ m
  | 0, _, _, _ => Nat.zero_le _
  | n + 1, i, m, h => by
    unfold entN
    by_cases c : i ∈ ringI N B
    · rw [if_pos c]; exact Nat.zero_le _
    · rw [if_neg c]
      cases m with
      | zero => exact absurd h c
      | succ m => exact Nat.succ_le_succ (ent_min n m h)
abbrev ent (N : List Int) (B : Bl) (i : Int) : Nat := entN N B N.length i
theorem fold_max : ∀ (l : List Int) (f : Int → Nat) (a : Nat), a ≤ l.foldl (fun m i => max m (f i)) a ∧ (∀ i ∈ l, f i ≤ l.foldl (fun m i => max m (f i)) a) ∧ ∀ m, a ≤ m → (∀ i ∈ l, f i ≤ m) → l.foldl (fun m i => max m (f i)) a ≤ m
  | [], _, a => ⟨Nat.le_refl _, fun _ h => (nomatch h), fun _ h _ => h⟩
  | i :: l, f, a => by
    obtain ⟨h1, h2, h3⟩ := fold_max l f (max a (f i))
    rw [List.foldl_cons]
    refine ⟨by omega, fun j hj => ?_, fun m hm hl => h3 m (by have := hl i List.mem_cons_self; omega) fun j hj => hl j (List.mem_cons_of_mem _ hj)⟩
    rcases List.mem_cons.mp hj with rfl | hj
    · omega
    · exact h2 j hj
theorem Eff.settled (e : Eff N B) : Settled N B (N.foldl (fun m i => max m (ent N B i)) 0) := by
  obtain ⟨_, h2, h3⟩ := fold_max N (ent N B) 0
  refine ⟨fun i hi => ?_, fun m hm => h3 m (Nat.zero_le _) fun i hi => ent_min _ m (hm i hi)⟩
  have h := ent_on N.length (e.onr_len i hi)
  have le := h2 i hi
  generalize N.foldl (fun m i => max m (ent N B i)) 0 = T at *
  have : T = (T - ent N B i) + ent N B i := by omega
  rw [this, it_add]
  exact e.ring_it _ h
theorem lcm_le : ∀ (ns : List Nat) (a : Nat), 0 < a → (∀ n ∈ ns, 0 < n) → ns.foldl Nat.lcm a ≤ a * 2 ^ ns.sum
  | [], a, _, _ => by simp
  | n :: ns, a, ha, h => by
    have hn := h n List.mem_cons_self
    have ih := lcm_le ns (Nat.lcm a n) (Nat.lcm_pos ha hn) fun m hm => h m (List.mem_cons_of_mem _ hm)
    rw [List.foldl_cons, List.sum_cons, Nat.pow_add]
    refine Nat.le_trans ih ?_
    rw [← Nat.mul_assoc]
    refine Nat.mul_le_mul_right _ (Nat.le_trans (Nat.lcm_le_mul ha hn) (Nat.mul_le_mul_left a (Nat.le_of_lt Nat.lt_two_pow_self)))
theorem RingsOk.le {R : List (List Int)} (e : Eff N B) (hN : N.length ≤ 60) (h : RingsOk N B R) : lcmN (R.map List.length) ≤ 2 ^ 60 := by
  have l := lcm_le (R.map List.length) 1 (by decide) fun n hn => by
    obtain ⟨r, hr, rfl⟩ := List.mem_map.mp hn
    exact List.length_pos_iff.mpr (h.ok r hr).ne
  have s : (R.map List.length).sum ≤ 60 := by
    rw [← List.length_flatten]
    refine Nat.le_trans (len_of_sub (m := N) h.dj fun x hx => ?_) hN
    obtain ⟨r, hr, hx⟩ := List.mem_flatten.mp hx
    exact e.ring_sub ((h.mem x).mp ⟨r, hr, hx⟩)
  rw [Nat.one_mul] at l
  exact Nat.le_trans l (Nat.pow_le_pow_right (by decide) s)
/-! ### days on days -/
theorem rep_add {cs : List Cmd} (v : WScr cs) (m n : Nat) (l : List Int) : rep cs n (rep cs m l) = rep cs (m + n) l := by
  have e := v.eff
  unfold rep
  rw [← subst_join ((eff_pow e m).ks.trans (eff_pow e n).ks.symm), pow_add e]
theorem rep_again {cs : List Cmd} (v : WScr cs) {T m : Nat} (hT : Onr (named cs) (blocks cs) T) (hm : ∀ x ∈ ringI (named cs) (blocks cs), itB (blocks cs) m x = x) (l : List Int) : rep cs (T + m) l = rep cs T l := by
  unfold rep subst
  congr 1
  exact List.map_congr_left fun i _ => v.eff.again hT hm i
end Mv

namespace Mv
open PySem Py
/-! ### who is ahead -/
theorem idx_ne {xs : List Int} {z x : Int} (h : z ≠ x) : (z :: xs).idxOf x = xs.idxOf x + 1 := by rw [List.idxOf_cons, beq_eq_false_iff_ne.mpr h]; rfl
theorem idx_left {xs ys : List Int} {x : Int} (h : x ∈ xs) : (xs ++ ys).idxOf x = xs.idxOf x := by rw [List.idxOf_append, if_pos h]
theorem idx_right {xs ys : List Int} {x : Int} (h : x ∉ xs) : (xs ++ ys).idxOf x = ys.idxOf x + xs.length := by rw [List.idxOf_append, if_neg h]
theorem idx_split {xs ys : List Int} {x y : Int} (hx : x ∈ xs) (hy : y ∉ xs) : (xs ++ ys).idxOf x < (xs ++ ys).idxOf y := by
  rw [idx_left hx, idx_right hy]
  have := List.idxOf_lt_length_of_mem hx
  omega
theorem idx_inj {l : List Int} {x y : Int} (hx : x ∈ l) (h : l.idxOf x = l.idxOf y) : x = y := by
  have h1 := List.idxOf_lt_length_of_mem hx
  have h2 : l.idxOf y < l.length := by omega
  have e1 : l[l.idxOf x] = x := List.getElem_idxOf h1
  have e2 : l[l.idxOf y] = y := List.getElem_idxOf h2
  rw [← e1, ← e2]
  congr 1
/-- the source of any item, the block of its source -/
theorem src_get {N : List Int} {P : Bl} (e : Eff N P) (i : Int) : i ∈ getB P (src P i) := by
  by_cases h : i ∈ N
  · exact (e.src_in h).2
  · have h1 : (goL P).lookup i = none := by
      have : i ∉ (goL P).map (·.1) := by
        rw [goL_keys]
        exact fun z => h (e.pm.mem_iff.mp z)
      have go : ∀ l : List (Int × Int), i ∉ l.map (·.1) → l.lookup i = none := fun l => by
        induction l with
        | nil => intro _; rfl
        | cons p l ih =>
          intro h
          obtain ⟨a, b⟩ := p
          rw [List.lookup_cons]
          have : i ≠ a := fun e => h (by simp [e])
          rw [beq_eq_false_iff_ne.mpr this]
          exact ih fun z => h (by rw [List.map_cons]; exact List.mem_cons_of_mem _ z)
      exact go _ this
    have e1 : src P i = i := by unfold src; rw [h1]; rfl
    rw [e1, getB_not (by rw [e.ks]; exact h)]
    exact List.mem_singleton_self i
theorem src_not {N : List Int} {P : Bl} (e : Eff N P) {i : Int} (h : i ∉ N) : src P i = i := by
  have := src_get e i
  by_cases c : src P i ∈ N
  · exact absurd (e.sub c this) h
  · rw [getB_not (by rw [e.ks]; exact c)] at this
    exact (List.mem_singleton.mp this).symm
theorem src_in_line {N l : List Int} {P : Bl} (e : Eff N P) (hl : ∀ i ∈ N, i ∈ l) {i : Int} (h : i ∈ l) : src P i ∈ l := by
  by_cases c : i ∈ N
  · exact hl _ (e.src_in c).1
  · rw [src_not e c]; exact h
theorem mem_subst {P : Bl} {l : List Int} {x : Int} : x ∈ subst P l ↔ ∃ k ∈ l, x ∈ getB P k := by
  unfold subst
  constructor
  · intro h
    obtain ⟨r, hr, hx⟩ := List.mem_flatten.mp h
    obtain ⟨k, hk, rfl⟩ := List.mem_map.mp hr
    exact ⟨k, hk, hx⟩
  · rintro ⟨k, hk, hx⟩
    exact List.mem_flatten.mpr ⟨_, List.mem_map.mpr ⟨k, hk, rfl⟩, hx⟩
/-- an item stands in one block alone -/
theorem get_src {N : List Int} {P : Bl} (e : Eff N P) {i k : Int} (h : i ∈ getB P k) : k = src P i := by
  by_cases c : k ∈ N
  · exact (e.src_of c h).symm
  · rw [getB_not (by rw [e.ks]; exact c)] at h
    have h := List.mem_singleton.mp h
    subst h
    exact (src_not e c).symm
theorem ahead_diff {N l : List Int} {P : Bl} (e : Eff N P) (hl : ∀ i ∈ N, i ∈ l) {i o : Int} (hi : i ∈ l) (ho : o ∈ l) (h : l.idxOf (src P i) < l.idxOf (src P o)) : (subst P l).idxOf i < (subst P l).idxOf o := by
  have ki := src_in_line e hl hi
  have ko := src_in_line e hl ho
  have hlt := List.idxOf_lt_length_of_mem ki
  have es : l = l.take (l.idxOf (src P i) + 1) ++ l.drop (l.idxOf (src P i) + 1) := (List.take_append_drop _ _).symm
  have h1 : src P i ∈ l.take (l.idxOf (src P i) + 1) := by
    rw [List.take_succ]
    have : l[l.idxOf (src P i)]? = some (src P i) := by rw [List.getElem?_eq_getElem hlt, List.getElem_idxOf]
    rw [this]
    simp
  have h2 : src P o ∉ l.take (l.idxOf (src P i) + 1) := fun z => by
    have q := idx_left (ys := l.drop (l.idxOf (src P i) + 1)) z
    rw [List.take_append_drop] at q
    have := List.idxOf_lt_length_of_mem z
    rw [List.length_take] at this
    omega
  rw [show subst P l = subst P (l.take (l.idxOf (src P i) + 1)) ++ subst P (l.drop (l.idxOf (src P i) + 1)) from by rw [← subst_app, List.take_append_drop]]
  refine idx_split (mem_subst.mpr ⟨_, h1, src_get e i⟩) fun z => ?_
  obtain ⟨k, hk, hz⟩ := mem_subst.mp z
  rw [get_src e hz] at hk
  exact h2 hk
theorem ahead_same {N l : List Int} {P : Bl} (e : Eff N P) (nd : l.Nodup) (hl : ∀ i ∈ N, i ∈ l) {i o : Int} (hi : i ∈ l) (h : src P i = src P o) : ((subst P l).idxOf i < (subst P l).idxOf o ↔ (getB P (src P i)).idxOf i < (getB P (src P i)).idxOf o) := by
  have ki := src_in_line e hl hi
  obtain ⟨a, b, ea⟩ := List.append_of_mem ki
  have hn : src P i ∉ a := fun z => by
    rw [ea, List.nodup_append] at nd
    exact nd.2.2 _ z _ (by simp) rfl
  have e1 : subst P l = subst P a ++ (getB P (src P i) ++ subst P b) := by
    rw [show subst P l = subst P (a ++ src P i :: b) from by rw [← ea], subst_app]
    unfold subst
    simp
  have n1 : ∀ x, src P x = src P i → x ∉ subst P a := fun x hx z => by
    obtain ⟨k, hk, hz⟩ := mem_subst.mp z
    rw [get_src e hz, hx] at hk
    exact hn hk
  rw [e1, idx_right (n1 i rfl), idx_right (n1 o h.symm), idx_left (src_get e i), idx_left (by rw [h]; exact src_get e o)]
  omega
/-! ### what follows from pairs -/
inductive Rch (K : List (Int × Int)) : Int → Int → Prop
  | one {a b : Int} : (a, b) ∈ K → Rch K a b
  | step {a b c : Int} : Rch K a b → (b, c) ∈ K → Rch K a c
theorem Rch.trans {K : List (Int × Int)} {a b c : Int} (h : Rch K a b) (h' : Rch K b c) : Rch K a c := by
  induction h' with
  | one p => exact .step h p
  | step _ p ih => exact .step ih p
theorem Rch.mono {K L : List (Int × Int)} (hs : ∀ p ∈ K, p ∈ L) {a b : Int} (h : Rch K a b) : Rch L a b := by
  induction h with
  | one p => exact .one (hs _ p)
  | step _ p ih => exact .step ih (hs _ p)
/-- the line has the pairs -/
def HasP (l : List Int) (K : List (Int × Int)) : Prop := ∀ p ∈ K, l.idxOf p.1 < l.idxOf p.2
theorem HasP.rch {l : List Int} {K : List (Int × Int)} (h : HasP l K) {a b : Int} (r : Rch K a b) : l.idxOf a < l.idxOf b := by
  induction r with
  | one p => exact h _ p
  | step _ p ih => exact Nat.lt_trans ih (h _ p)
open Classical in
/-- b may stand ahead of a, unless a is ahead of b for sure -/
theorem lin_ext {l : List Int} {K : List (Int × Int)} (h : HasP l K) (nd : l.Nodup) (hm : ∀ p ∈ K, p.1 ∈ l ∧ p.2 ∈ l) {a b : Int} (hb : b ∈ l) (hne : a ≠ b) (hr : ¬ Rch K a b) : ∃ l' : List Int, l'.Perm l ∧ HasP l' K ∧ l'.idxOf b < l'.idxOf a := by
  let S : Int → Bool := fun x => decide (x = b ∨ Rch K x b)
  have key : ∀ {xs : List Int} {p q : Int → Bool}, True := trivial
  refine ⟨l.filter S ++ l.filter (fun x => !S x), List.filter_append_perm S l, fun p hp => ?_, ?_⟩
  · obtain ⟨m1, m2⟩ := hm p hp
    have hlt := h p hp
    -- order within a filtered list is that of the list
    have ord : ∀ (f : Int → Bool) {xs : List Int} {x y : Int}, xs.Nodup → f x = true → f y = true → x ∈ xs → xs.idxOf x < xs.idxOf y → (xs.filter f).idxOf x < (xs.filter f).idxOf y := fun f xs x y nd fx fy hx hlt => by
      induction xs with
      | nil => cases hx
      | cons z xs ih =>
        rw [List.nodup_cons] at nd
        by_cases ez : z = x
        · subst ez
          have hne : z ≠ y := fun e => by subst e; simp at hlt
          rw [List.filter_cons_of_pos (by exact fx), List.idxOf_cons_self, idx_ne hne]
          omega
        · have hx' : x ∈ xs := (List.mem_cons.mp hx).resolve_left (Ne.symm ez)
          rw [idx_ne ez] at hlt
          have ezy : z ≠ y := fun e => by subst e; simp at hlt
          rw [idx_ne ezy] at hlt
          have := ih nd.2 hx' (by omega)
          by_cases fz : f z = true
          · rw [List.filter_cons_of_pos fz, idx_ne ez, idx_ne ezy]
            omega
          · rw [List.filter_cons_of_neg fz]
            exact this
    by_cases s2 : S p.2 = true
    · have s1 : S p.1 = true := by
        have := of_decide_eq_true s2
        refine decide_eq_true (.inr ?_)
        rcases this with e | r
        · exact .one (by rw [← e]; exact hp)
        · have : Rch K p.1 p.2 := .one hp
          exact this.trans r
      have i1 : p.1 ∈ l.filter S := List.mem_filter.mpr ⟨m1, s1⟩
      have i2 : p.2 ∈ l.filter S := List.mem_filter.mpr ⟨m2, s2⟩
      rw [idx_left i1, idx_left i2]
      exact ord S nd s1 s2 m1 hlt
    · have j2 : p.2 ∉ l.filter S := fun z => s2 (List.mem_filter.mp z).2
      by_cases s1 : S p.1 = true
      · exact idx_split (List.mem_filter.mpr ⟨m1, s1⟩) j2
      · have j1 : p.1 ∉ l.filter S := fun z => s1 (List.mem_filter.mp z).2
        rw [idx_right j1, idx_right j2]
        have := ord (fun x => !S x) nd (by simpa using s1) (by simpa using s2) m1 hlt
        omega
  · refine idx_split (List.mem_filter.mpr ⟨hb, decide_eq_true (.inl rfl)⟩) fun z => ?_
    have := of_decide_eq_true (List.mem_filter.mp z).2
    exact this.elim hne hr
end Mv

namespace Mv
open PySem Py
abbrev Prs := List (Int × Int)
abbrev pairD (p : Int × Int) : D := .tup [.int p.1, .int p.2]
abbrev prsD (K : Prs) : D := .tup (K.map pairD)
def VPair (p : Int × Int) : Prop := VItem p.1 ∧ VItem p.2 ∧ p.1 ≠ p.2
/-- the items directly behind an item -/
def dirK (K : Prs) (a : Int) : List Int := (K.filter fun p => decide (p.1 = a)).map (·.2)
theorem mem_dir {K : Prs} {a b : Int} : b ∈ dirK K a ↔ (a, b) ∈ K := by
  unfold dirK
  constructor
  · intro h
    obtain ⟨⟨x, y⟩, h1, rfl⟩ := List.mem_map.mp h
    obtain ⟨h2, h3⟩ := List.mem_filter.mp h1
    have h3 : x = a := of_decide_eq_true h3
    subst h3
    exact h2
  · intro h
    exact List.mem_map.mpr ⟨(a, b), List.mem_filter.mpr ⟨h, by simp⟩, rfl⟩
theorem dir_app {K : Prs} {x y a : Int} : dirK (K ++ [(x, y)]) a = if x = a then dirK K a ++ [y] else dirK K a := by
  unfold dirK
  rw [List.filter_append]
  by_cases h : x = a
  · simp [h]
  · simp [h]
theorem Rch.first {K : Prs} {a b : Int} (h : Rch K a b) : ∃ c, (a, c) ∈ K := by
  induction h with
  | one p => exact ⟨_, p⟩
  | step _ _ ih => exact ih
theorem Rch.last {K : Prs} {a b : Int} (h : Rch K a b) : b ∈ K.map (·.2) := by
  cases h with
  | one p => exact List.mem_map.mpr ⟨_, p, rfl⟩
  | step _ p => exact List.mem_map.mpr ⟨_, p, rfl⟩
/-- what is behind each first item for sure -/
structure Fol (K : Prs) (F : Bl) : Prop where
  nd : (keys F).Nodup
  mem : ∀ a, a ∈ keys F ↔ ∃ b, (a, b) ∈ K
  rch : ∀ q ∈ F, ∀ x, x ∈ q.2 ↔ Rch K q.1 x
  len : ∀ q ∈ F, q.2.length ≤ K.length
abbrev kvF (F : Bl) : List (L2.Key × D) := F.map fun q => (Sum.inl q.1, D.fl (q.2.map .int))
theorem lookK_kvF (F : Bl) (i : Int) : lookK (kvF F) (.inl i) = (F.lookup i).map fun r => D.fl (r.map .int) := by
  induction F with
  | nil => rfl
  | cons p F ih =>
    obtain ⟨a, b⟩ := p
    show lookK ((Sum.inl a, D.fl (b.map .int)) :: kvF F) _ = _
    rw [lookK_cons, ih, List.lookup_cons]
    by_cases h : a = i
    · subst h; simp
    · have : (i == a) = false := by simp; exact fun e => h e.symm
      rw [this, if_neg (fun z => h (Sum.inl.inj z))]
theorem kvF_put {F : Bl} {i : Int} {r : List Int} (h : i ∉ keys F) : setK (kvF F) (.inl i) (.fl (r.map .int)) = kvF (F ++ [(i, r)]) := by
  rw [setK_new]
  · simp [kvF]
  · intro z
    rw [List.map_map] at z
    obtain ⟨p, hp, e⟩ := List.mem_map.mp z
    exact h (List.mem_map.mpr ⟨p, hp, Sum.inl.inj e⟩)
/-- the list that a dict of followers gives -/
theorem Fol.get {K : Prs} {F : Bl} (f : Fol K F) (a : Int) : ∃ L : List Int, (lookK (kvF F) (.inl a)).getD (.fl []) = .fl (L.map .int) ∧ ∀ x, x ∈ L ↔ Rch K a x := by
  rw [lookK_kvF]
  by_cases h : a ∈ keys F
  · obtain ⟨r, e, hr⟩ := lookup_some h
    exact ⟨r, by rw [e]; rfl, f.rch _ hr⟩
  · refine ⟨[], by rw [lookup_none h]; rfl, fun x => ⟨fun z => (nomatch z), fun z => ?_⟩⟩
    obtain ⟨c, hc⟩ := z.first
    exact absurd ((f.mem a).mpr ⟨c, hc⟩) h
end Mv
namespace Pr
open PySem Py Mv
variable {t : Tb} [Has t] {k : Nat} {A : AH} {X : Dx} {Q : Dk}
theorem items_blk (B : Bl) : itemsD ((kvB B).map (·.1)) ((kvB B).map (·.2)) = B.map fun p => D.tup [.int p.1, linD p.2] := by
  unfold itemsD
  induction B with
  | nil => rfl
  | cons p P ih => simp only [List.map_cons, List.zipWith_cons_cons, ih]; rfl
theorem goL_len {N : List Int} {B : Bl} (b : Eff N B) : (goL B).length = N.length := by
  have := congrArg List.length (goL_keys B)
  rw [List.length_map] at this
  rw [this, b.pm.length_eq]
theorem sp_sources_in {N : List Int} {B : Bl} (b : Eff N B) (hN : N.length ≤ 60) (h : Q (fdD (kvI (goL B))) A) : cal t (k + 1) "sources_in" [blkD B] A X Q := by
  refine calN_eq t_sources_in rfl ?_
  walk_at "run"
  intro L hL
  rw [items_blk]
  refine dc2_inv (e := fun p : Int × List Int => D.tup [.int p.1, linD p.2]) (fun r A' => ∃ d, d ++ r = B ∧ A' = put A L (.dct (kvI (goL d)))) B ⟨[], rfl, rfl⟩ (fun _ _ _ => holds_nil) ?_ ?_
  · rintro ⟨key, row⟩ r A' nx hp ⟨d, hd, rfl⟩ hk
    walk_at "run"
    have nd := b.go_nd
    have gl := goL_len b
    have e1 : goL d ++ row.map (fun j => (j, key)) ++ goL r = goL B := by
      rw [← hd, ← goL_app]
      unfold goL
      simp
    have nd2 : ((goL d ++ row.map (fun j => (j, key))).map (·.1)).Nodup := by
      rw [← e1, List.map_append] at nd
      exact (List.nodup_append.mp nd).1
    have hz : (goL d).length + row.length ≤ 60 := by
      rw [← e1] at gl
      simp only [List.length_append, List.length_map] at gl
      omega
    refine dc_go (e := D.int) (gk := Sum.inl) (g := fun _ => D.int key) hL (fun _ => holds_nil) row _ (by rw [kvI_len, PySem.sizeLine_eq]; omega) ?_ ?_
    · intro y hy
      refine ⟨_, fun k h => h, fun A' R h _ => ?_, fun A' R h _ => ?_⟩
      · walk_at "run"
        exact h
      · walk_at "run"
        exact h
    have e2 : (row.map fun y => ((Sum.inl y : L2.Key), D.int key)) = kvI (row.map fun j => (j, key)) := by unfold kvI; rw [List.map_map]; rfl
    rw [e2, kvI_merge nd2, ← goL_app]
    exact hk _ ⟨d ++ [(key, row)], by simpa using hd, rfl⟩
  · rintro A' ⟨d, hd, rfl⟩
    rw [List.append_nil] at hd
    subst hd
    refine outD.fz put_same ?_
    rw [rem_put hL]
    walk_at "run"
    exact .id h
theorem src_getD (B : Bl) (i : Int) : (lookK (kvI (goL B)) (.inl i)).getD (.int i) = .int (src B i) := by
  rw [kvI_look]
  unfold src
  cases (goL B).lookup i <;> rfl
theorem sp_sources_of {N : List Int} {B : Bl} (b : Eff N B) (hN : N.length ≤ 60) {i o : Int} (h : Q (.tup [.int (src B i), .int (src B o)]) A) : cal t (k + 2) "sources_of" [blkD B, .int i, .int o] A X Q := by
  refine calN_eq t_sources_of rfl ?_
  walk_at "run"
  refine sp_sources_in b hN ?_
  walk_at "run"
  rw [src_getD]
  walk_at "run"
  rw [src_getD]
  walk_at "run"
  exact .id h
/-- the relation of two items -/
def relW (B : Bl) (i o : Int) : Str := if src B i = src B o then (if (getB B (src B i)).idxOf i < (getB B (src B i)).idxOf o then "ahead" else "behind") else "open"
theorem sp_relation_in {N : List Int} {B : Bl} (b : Eff N B) (hN : N.length ≤ 60) {i o : Int} (h : Q (.str (relW B i o)) A) : cal t (k + 3) "relation_in" [blkD B, .int i, .int o] A X Q := by
  refine calN_eq t_relation_in rfl ?_
  walk_at "run"
  refine sp_sources_of b hN ?_
  walk_at "run"
  by_cases e : src B i = src B o
  · have m1 := src_get b i
    have m2 : o ∈ getB B (src B i) := by rw [e]; exact src_get b o
    walk_at "run"
    refine sp_block_in ?_
    walk_at "run"
    by_cases c : (((getB B (src B i)).idxOf i : Nat) : Int) < (((getB B (src B i)).idxOf o : Nat) : Int)
    · walk_at "run"
      unfold relW at h
      rw [if_pos e, if_pos (by omega)] at h
      exact .id h
    · walk_at "run"
      unfold relW at h
      rw [if_pos e, if_neg (by omega)] at h
      exact .id h
  · walk_at "run"
    unfold relW at h
    rw [if_neg e] at h
    exact .id h
theorem sp_require_two {i o : Int} (hi : VItem i) (ho : VItem o) (hn : i ≠ o) (h : Q .non A) : cal t (k + 5) "require_two" [.int i, .int o] A X Q := by
  refine calN_eq t_require_two rfl ?_
  walk_at "run"
  refine sp_require_item hi ?_
  walk_at "run"
  refine sp_require_item ho ?_
  walk_at "run"
  have e : decide (i = o) = false := decide_eq_false hn
  walk_at "run"
  exact .id h
theorem sp_is_pair {p : Int × Int} (v : VPair p) (h : Q (.bl true) A) : cal t (k + 4) "is_pair" [pairD p] A X Q := by
  obtain ⟨a, b⟩ := p
  obtain ⟨v1, v2, v3⟩ := v
  refine calN_eq t_is_pair rfl ?_
  walk_at "run"
  intro L hL
  refine lc_map (e := D.int) (p := fun _ => true) (g := fun _ => .bl true) hL [a, b] (by show 2 ≤ sizeLine; decide) (fun _ => holds_nil) ?_ ?_
  · intro x hx
    refine ⟨_, fun k h => h, fun A' R h _ => h, fun _ A' R h _ => sp_is_item ?_ h⟩
    simp only [List.mem_cons, List.not_mem_nil, or_false] at hx
    rcases hx with rfl | rfl
    · exact v1
    · exact v2
  walk_at "run"
  have e : decide (a = b) = false := decide_eq_false v3
  walk_at "run"
  exact .id h
end Pr

namespace Pr
open PySem Py Mv
variable {t : Tb} [Has t] {k : Nat} {A : AH} {X : Dx} {Q : Dk}
abbrev rowsF (R : List (List Int)) : D := .fl (R.map fun r => .fl (r.map .int))
theorem minI_mem {ns : List Int} (h : 0 < ns.length) : minI ns ∈ ns := by
  cases ns with
  | nil => cases h
  | cons x r => exact foldl_min.1
theorem rowsD_map : ∀ F : List (List Int), rowsD (F.map fun r => D.fl (r.map D.int)) = some F
  | [] => rfl
  | r :: F => by
    rw [List.map_cons, rowsD, intsD_map, rowsD_map F]
theorem sub_put {A A' : AH} {p : Addr} {o : AO} (s : Py.Sub A A') (h : A p = none) : Py.Sub A (put A' p o) := fun z o' hz => by
  have : z ≠ p := fun e => by rw [e, h] at hz; cases hz
  rw [put_ne this]
  exact s z o' hz
theorem sub_none {A A' : AH} {p : Addr} (s : Py.Sub A A') (h : A' p = none) : A p = none := by
  cases e : A p with
  | none => rfl
  | some o => rw [s p o e] at h; cases h
theorem kvI_some (l : List (Int × Int)) (j : Int) : (lookK (kvI l) (.inl j)).isSome = decide (j ∈ l.map (·.1)) := by
  rw [kvI_look, Option.isSome_map]
  induction l with
  | nil => rfl
  | cons p l ih =>
    obtain ⟨a, b⟩ := p
    rw [List.lookup_cons]
    by_cases h : j = a
    · subst h; simp
    · rw [beq_eq_false_iff_ne.mpr h, ih]
      simp [h]
theorem seen_lookup {T : List (Int × Int)} {s x : Int} {w : Nat} {B : Bl} (nd : (T.map (·.1) ++ wayB B s w).Nodup) (hx : x ∈ wayB B s w) : (seenW B T s w).lookup x = some s := by
  refine lookup_nd (by rw [seenW_keys]; exact nd) ?_
  unfold seenW
  exact List.mem_append_right _ (List.mem_map.mpr ⟨x, hx, rfl⟩)
set_option maxHeartbeats 4000000 in
theorem sp_rings_in {N : List Int} {B : Bl} (b : Eff N B) (hN : N.length ≤ 60) (hs : sortI N = N) (h : ∀ R, RingsOk N B R → R.length ≤ 60 → Q (rowsF R) A) : cal t (k + 2) "rings_in" [blkD B] A X Q := by
  refine calN_eq t_rings_in rfl ?_
  walk_at "run"
  refine sp_sources_in b hN ?_
  walk_at "run"
  refine .new fun ps hps => ?_
  walk_at "run"
  refine .new fun pf hpf => ?_
  walk_at "run"
  rw [show (List.map (fun p => keyD p.fst) (List.map (fun p : Int × List Int => ((Sum.inl p.1 : L2.Key), linD p.2)) B)) = N.map D.int from by
    rw [← b.ks, List.map_map]
    unfold keys
    rw [List.map_map]
    rfl, intsD_map]
  refine ⟨by omega, ?_⟩
  rw [hs]
  refine .fz ?_
  walk_at "run"
  have pfs : pf ≠ ps := fun e => by rw [e, put_same] at hpf; cases hpf
  have hpf' : A pf = none := sub_none (Sub.fresh hps) hpf
  refine for_st (β := List Int) (b := []) (e := D.int) (fun ds r σ A' => ∃ (T : List (Int × Int)) (F : List (List Int)), Seen N B ds T F ∧ ds ++ r = N ∧ A' ps = some (.dct (kvI T)) ∧ A' pf = some (.lst (F.map fun r => .fl (r.map .int))) ∧ Py.Sub A A' ∧ σ = [none, some (fdD (kvI (goL B))), some (.ref ps), some (.ref pf), none, none, none, none, none]) (fun d s => d ++ [s]) N
    ⟨[], [], .start, rfl, by rw [put_ne (Ne.symm pfs), put_same]; rfl, put_same, sub_put (Sub.fresh hps) hpf', rfl⟩ (fun _ _ _ _ _ => holds_nil) ?_ ?_
  · rintro ds s r σ A' nx hsN ⟨T, F, hS, hd, hT, hF, hsub, rfl⟩ hk
    have nds : (ds ++ s :: r).Nodup := by rw [hd]; exact b.nd
    have sd : s ∉ ds := fun z => (List.nodup_append.mp nds).2.2 s z s List.mem_cons_self rfl
    walk_at "run"
    refine .new fun pw hpw => ?_
    have wps : pw ≠ ps := fun e => by rw [e, hT] at hpw; cases hpw
    have wpf : pw ≠ pf := fun e => by rw [e, hF] at hpw; cases hpw
    have hpw' := sub_none hsub hpw
    have bound : ∀ {w : Nat}, (T.map (·.1) ++ wayB B s w).Nodup → T.length + w ≤ N.length := fun {w} nd => by
      have := len_of_sub nd fun x hx => by
        rcases List.mem_append.mp hx with hx | hx
        · exact hS.sub x hx
        · obtain ⟨i, _, rfl⟩ := way_mem.mp hx
          exact b.it_in i hsN
      rw [List.length_append, List.length_map, way_len] at this
      exact this
    walk_at "run"
    refine whl_by (fun m σ A2 => ∃ w, m + (T.length + w) = N.length ∧ (T.map (·.1) ++ wayB B s w).Nodup ∧ A2 ps = some (.dct (kvI (seenW B T s w))) ∧ A2 pf = some (.lst (F.map fun r => .fl (r.map .int))) ∧ A2 pw = some (.lst ((wayB B s w).map .int)) ∧ Py.Sub A A2 ∧ σ = [none, some (fdD (kvI (goL B))), some (.ref ps), some (.ref pf), some (.int s), some (.ref pw), some (.int (itB B w s)), none, none]) ?_ (N.length - T.length)
      ⟨0, by have := bound (w := 0) (by simpa [wayB] using hS.nd); omega, by simpa [wayB] using hS.nd, by rw [put_ne (Ne.symm wps), hT]; simp [seenW, wayB], by rw [put_ne (Ne.symm wpf), hF], by rw [put_same]; rfl, sub_put hsub hpw', rfl⟩
    rintro m σ A2 nx2 ⟨w, hm, nd, hT2, hF2, hW2, hsub2, rfl⟩ hk2
    have wN : itB B w s ∈ N := b.it_in w hsN
    walk_at "run"
    by_cases c : itB B w s ∈ (seenW B T s w).map (·.1)
    · rw [kvI_some, decide_eq_true c]
      walk_at "run"
      by_cases hw : itB B w s ∈ wayB B s w
      · obtain ⟨j, hj, ej⟩ := way_mem.mp hw
        rw [show lookK (kvI (seenW B T s w)) (.inl (itB B w s)) = some (.int s) from by rw [kvI_look, seen_lookup nd hw]; rfl]
        have wne : wayB B s w ≠ [] := fun z => by rw [z] at hw; cases hw
        have ndw : (wayB B s w).Nodup := (List.nodup_append.mp nd).2.1
        walk_at "runz"
        rw [eqD_refL hW2, eqD_good (x := .fl ((wayB B s w).map D.int)) (y := .fl []) (n := 1) (m := 1) (.fl (GoodEs.map fun _ _ => .int)) (.fl .nil) (by decide) (by decide) false (by simp [wne])]
        walk_at "runz"
        have hdrop : j < (wayB B s w).length := by rw [way_len]; exact hj
        rw [show cutD (List.map D.int (wayB B s w)) (some ((List.idxOf (itB B w s) (wayB B s w) : Nat) : Int)) none = ((wayB B s w).drop j).map D.int from by
          rw [← ej, way_idx ndw hj, cut_lo, List.map_drop]]
        rw [intsD_map]
        generalize hg : (wayB B s w).drop j = ring
        have rl : 0 < ring.length := by rw [← hg, List.length_drop]; omega
        have rl2 : ring.length ≤ 60 := by rw [← hg, List.length_drop, way_len]; have := bound nd; omega
        refine ⟨rl, ?_⟩
        walk_at "runz"
        refine ⟨minI_mem rl, ?_⟩
        walk_at "runz"
        rw [cut_lo, cut_hi, ← List.map_drop, ← List.map_take, ← List.map_append]
        have lF : (F.map fun r => D.fl (r.map D.int)).length < sizeLine := by
          have := hS.len
          have : ds.length ≤ 60 := by
            have := congrArg List.length hd
            rw [List.length_append] at this
            omega
          rw [List.length_map, PySem.sizeLine_eq]
          omega
        refine ⟨by rw [List.length_map, List.length_map, List.length_drop, List.length_take, PySem.sizeLine_eq]; omega, ?_⟩
        walk_at "runz"
        have pm : (ring.drop (ring.idxOf (minI ring)) ++ ring.take (ring.idxOf (minI ring))).Perm ((wayB B s w).drop j) := by
          rw [hg]
          refine List.perm_append_comm.trans ?_
          rw [List.take_append_drop]
        refine hk _ _ ⟨seenW B T s w, F ++ [ring.drop (ring.idxOf (minI ring)) ++ ring.take (ring.idxOf (minI ring))], hS.new b hsN nd hj ej.symm pm, by simpa using hd, ?_, ?_, ?_, rfl⟩
        · rw [put_ne (Ne.symm pfs)]
          exact hT2
        · rw [put_same, List.map_append (f := fun r : List Int => D.fl (r.map D.int))]
          rfl
        · exact sub_put hsub2 hpf'
      · have hxT : itB B w s ∈ T.map (·.1) := by
          rw [seenW_keys, List.mem_append] at c
          exact c.resolve_right hw
        obtain ⟨⟨x0, s0⟩, hp0, e0⟩ := List.mem_map.mp hxT
        have e0 : x0 = itB B w s := e0
        have s0d : s0 ∈ ds := hS.val _ hp0
        have s0s : s0 ≠ s := fun e => sd (e ▸ s0d)
        rw [show lookK (kvI (seenW B T s w)) (.inl (itB B w s)) = some (.int s0) from by
          rw [kvI_look, lookup_nd (b := s0) (by rw [seenW_keys]; exact nd) (by rw [← e0]; unfold seenW; exact List.mem_append_left _ hp0)]
          rfl]
        walk_at "run"
        exact hk _ _ ⟨seenW B T s w, F, hS.old b hsN nd hxT, by simpa using hd, hT2, hF2, hsub2, rfl⟩
    · rw [kvI_some, decide_eq_false c]
      rw [seenW_keys] at c
      have nd2 : (T.map (·.1) ++ wayB B s (w + 1)).Nodup := by
        rw [way_succ, ← List.append_assoc, List.nodup_append]
        exact ⟨nd, by simp, fun x hx y hy e => by
          cases List.mem_singleton.mp hy
          exact c (e ▸ hx)⟩
      have lt := bound nd2
      have l2 : ((wayB B s w).map D.int).length < sizeLine := by
        rw [List.length_map, way_len, PySem.sizeLine_eq]
        omega
      have hput : setK (kvI (seenW B T s w)) (.inl (itB B w s)) (.int s) = kvI (seenW B T s (w + 1)) := by
        rw [kvI_put (by rw [seenW_keys]; exact c), ← seenW_succ]
      have hW3 : put A2 ps (.dct (kvI (seenW B T s (w + 1)))) pw = some (.lst ((wayB B s w).map .int)) := by rw [put_ne wps]; exact hW2
      have l1 : (kvI (seenW B T s w)).length < sizeLine := by
        rw [kvI_len, PySem.sizeLine_eq]
        unfold seenW
        rw [List.length_append, List.length_map, way_len]
        omega
      walk_at "run"
      rw [hput]
      walk_at "run"
      rw [show lookK (kvI (goL B)) (.inl (itB B w s)) = some (.int (src B (itB B w s))) from by rw [kvI_look, b.look_src wN]; rfl]
      walk_at "run"
      refine hk2 (m - 1) _ _ (by omega) ⟨w + 1, by omega, nd2, ?_, ?_, ?_, ?_, ?_⟩
      · rw [put_ne (Ne.symm wps), put_same]
      · rw [put_ne (Ne.symm wpf), put_ne pfs]
        exact hF2
      · rw [put_same, way_succ, List.map_append]
        rfl
      · exact sub_put (sub_put hsub2 hps) hpw'
      · rw [it_src]
        rfl
  · rintro σ A' ⟨T, F, hS, hd, hT, hF, hsub, rfl⟩
    rw [List.append_nil] at hd
    rw [hd] at hS
    have ok : RingsOk N B F := hS.done b fun x hx => hx
    have fl : F.length ≤ 60 := Nat.le_trans hS.len hN
    walk_at "run"
    cases F with
    | nil =>
      show allocL _ _ _
      refine .fz ?_
      walk_at "run"
      rw [show sortI [] = [] from by unfold sortI; simp]
      exact .of hsub (h [] ok (by simp))
    | cons r F =>
      rw [show intsD ((r :: F).map fun r => D.fl (r.map D.int)) = none from rfl, rowsD_map]
      dsimp only
      refine .fz ?_
      walk_at "run"
      have pm : (sortR (r :: F)).Perm (r :: F) := List.mergeSort_perm _ _
      exact .of hsub (h _ (ok.perm pm) (by rw [pm.length_eq]; exact fl))
/-- the marks of the items on rings -/
theorem mk_merge : ∀ (r l : List Int), mergK (mkK l) (r.map fun i => ((Sum.inl i : L2.Key), D.bl true)) = mkK (r.foldl PyProof.Rows.step_dedup l)
  | [], l => rfl
  | i :: r, l => by
    rw [List.map_cons, List.foldl_cons, ← mk_merge r, ← mk_step]
    rfl
set_option maxHeartbeats 4000000 in
theorem sp_settled_in {N : List Int} {B : Bl} (b : Eff N B) (hN : N.length ≤ 60) (hs : sortI N = N) (h : ∀ T, Settled N B T → Q (.int (T : Nat)) A) : cal t (k + 3) "settled_in" [blkD B] A X Q := by
  refine calN_eq t_settled_in rfl ?_
  walk_at "run"
  refine sp_sources_in b hN ?_
  walk_at "run"
  refine sp_rings_in b hN hs ?_
  intro R hR hRl
  walk_at "run"
  intro L hL
  have mk60 : ∀ d r : List (List Int), d ++ r = R → (mkK (ddI d.flatten)).length ≤ 60 := fun d r e => by
    rw [mk_len]
    refine Nat.le_trans (len_of_sub (m := N) ddI_nodup fun x hx => ?_) hN
    obtain ⟨l, hl, hx⟩ := List.mem_flatten.mp (ddI_mem.mp hx)
    exact b.ring_sub ((hR.mem x).mp ⟨l, by rw [← e]; exact List.mem_append_left _ hl, hx⟩)
  refine dc2_inv (e := fun r : List Int => D.fl (r.map .int)) (fun r A' => ∃ d, d ++ r = R ∧ A' = put A L (.dct (mkK (ddI d.flatten)))) R ⟨[], rfl, rfl⟩ (fun _ _ _ => holds_nil) ?_ ?_
  · rintro row r A' nx hp ⟨d, hd, rfl⟩ hk
    walk_at "run"
    have row60 : row.length ≤ 60 := Nat.le_trans (len_of_sub (hR.ok row hp).nd fun x hx => b.ring_sub ((hR.mem x).mp ⟨row, hp, hx⟩)) hN
    refine dc_go (e := D.int) (gk := Sum.inl) (g := fun _ => D.bl true) hL (fun _ => holds_nil) row _ (by have := mk60 _ _ hd; rw [PySem.sizeLine_eq]; omega) ?_ ?_
    · intro y hy
      refine ⟨_, fun k h => h, fun A' R h _ => ?_, fun A' R h _ => ?_⟩
      · walk_at "run"
        exact h
      · walk_at "run"
        exact h
    rw [mk_merge]
    exact hk _ ⟨d ++ [row], by simpa using hd, by unfold ddI; rw [List.flatten_append, List.foldl_append]; simp⟩
  · rintro A' ⟨d, hd, rfl⟩
    rw [List.append_nil] at hd
    subst hd
    refine outD.fz put_same ?_
    rw [rem_put hL]
    have hM : ∀ x, x ∈ ddI d.flatten ↔ x ∈ ringI N B := fun x => by
      rw [ddI_mem, List.mem_flatten]
      exact hR.mem x
    generalize ddI d.flatten = M at hM
    walk_at "run"
    rw [show (List.map keyD (List.map (fun x => x.fst) (List.map (fun p : Int × List Int => ((Sum.inl p.1 : L2.Key), linD p.2)) B))) = N.map D.int from by
      rw [← b.ks, List.map_map, List.map_map]
      unfold keys
      rw [List.map_map]
      rfl]
    refine for_fold D.int (fun m : Nat => [none, some (fdD (kvI (goL B))), some (fdD (mkK M)), none, none, some (.int m), none]) (fun m i => max m (ent N B i)) N (b := 0) rfl ?_ ?_
    · intro m0 i nx hi hk
      walk_at "run"
      have he := ent_on N.length (b.onr_len i hi)
      refine whl_by (fun m σ A' => ∃ w, m + w = ent N B i ∧ A' = A ∧ σ = [none, some (fdD (kvI (goL B))), some (fdD (mkK M)), none, some (.int (itB B w i)), some (.int m0), some (.int w)]) ?_ (ent N B i) ⟨0, rfl, rfl, rfl⟩
      rintro m σ A' nx2 ⟨w, hm, rfl, rfl⟩ hk2
      have wN : itB B w i ∈ N := b.it_in w hi
      walk_at "run"
      by_cases c : itB B w i ∈ ringI N B
      · rw [show (lookK (mkK M) (.inl (itB B w i))).isSome = true from by rw [mk_look, decide_eq_true ((hM _).mpr c)]]
        have hw := ent_min N.length w c
        have hw : w = ent N B i := Nat.le_antisymm (by omega) hw
        walk_at "run"
        have e : (if (w : Int) > m0 then (w : Int) else m0) = ((max m0 (ent N B i) : Nat) : Int) := by
          rw [← hw]
          split <;> omega
        rw [e]
        exact hk _ rfl
      · rw [show (lookK (mkK M) (.inl (itB B w i))).isSome = false from by rw [mk_look, decide_eq_false fun z => c ((hM _).mp z)]]
        have m0 : m ≠ 0 := fun z => c (by
          have : w = ent N B i := by omega
          rw [this]
          exact he)
        walk_at "run"
        rw [show lookK (kvI (goL B)) (.inl (itB B w i)) = some (.int (src B (itB B w i))) from by rw [kvI_look, b.look_src wN]; rfl]
        walk_at "run"
        refine hk2 (m - 1) _ _ (by omega) ⟨w + 1, by omega, rfl, ?_⟩
        rw [it_src]
        rfl
    · walk_at "run"
      exact .id (h _ b.settled)
theorem gcd_step (a b : Nat) : Nat.gcd a b = Nat.gcd b (a % b) := by rw [Nat.gcd_comm, Nat.gcd_rec, Nat.gcd_comm]
/-- the turns of Euclid's way -/
def euc (a b : Nat) : Nat := if h : b = 0 then 0 else euc b (a % b) + 1
termination_by b
decreasing_by exact Nat.mod_lt _ (Nat.pos_of_ne_zero h)
theorem euc_succ {a b : Nat} (h : b ≠ 0) : euc a b = euc b (a % b) + 1 := by rw [euc, dif_neg h]
theorem sp_gcd {a b : Nat} (h : Q (.int (Nat.gcd a b)) A) : cal t (k + 1) "greatest_divisor" [.int a, .int b] A X Q := by
  refine calN_eq t_greatest_divisor rfl ?_
  walk_at "run"
  refine whl_by (fun m σ A' => ∃ a' b' : Nat, A' = A ∧ σ = [some (.int a'), some (.int b')] ∧ m = euc a' b' ∧ Nat.gcd a' b' = Nat.gcd a b) ?_ (euc a b) ⟨a, b, rfl, rfl, rfl, rfl⟩
  rintro m σ A' nx ⟨a', b', rfl, rfl, rfl, hg⟩ hk
  walk_at "run"
  by_cases c : b' = 0
  · subst c
    walk_at "run"
    rw [Nat.gcd_zero_right] at hg
    rw [hg]
    exact .id h
  · have c2 : (0 : Int) < b' := by omega
    walk_at "run"
    exact hk _ _ _ (euc_succ c) ⟨b', a' % b', rfl, by show [some (D.int b'), some (D.int ((a' : Int) % b'))] = _; rw [Int.natCast_emod], rfl, by rw [← gcd_step]; exact hg⟩
theorem log_small {n : Nat} (h : n ≤ 60 ^ 60) : n.log2 < 500 := by
  by_cases c : n = 0
  · subst c; decide
  · rw [Nat.log2_lt c]
    exact Nat.lt_of_le_of_lt h (by decide +kernel)
theorem sp_lcm_of {ns : List Nat} (hp : ∀ n ∈ ns, 0 < n ∧ n ≤ 60) (hl : ns.length ≤ 60) (h : Q (.int (lcmN ns)) A) : cal t (k + 2) "lcm_of" [.fl (ns.map fun n : Nat => D.int n)] A X Q := by
  refine calN_eq t_lcm_of rfl ?_
  walk_at "run"
  refine for_st (fun n : Nat => D.int n) (fun (a : Nat) r σ A' => A' = A ∧ σ = [none, some (.int a), none] ∧ 0 < a ∧ a * 60 ^ r.length ≤ 60 ^ 60) Nat.lcm ns (b := 1) ⟨rfl, rfl, by decide, by rw [Nat.one_mul]; exact Nat.pow_le_pow_right (by decide) hl⟩ (fun _ _ _ _ _ => holds_nil) ?_ ?_
  · rintro a n r σ A' nx hn ⟨rfl, rfl, ha, hb⟩ hk
    obtain ⟨n0, n60⟩ := hp n hn
    have a60 : a ≤ 60 ^ 60 := Nat.le_trans (Nat.le_mul_of_pos_right a (Nat.pow_pos (by decide))) hb
    have l1 := log_small a60
    have l2 := log_small (n := n) (Nat.le_trans n60 (by decide +kernel))
    walk_at "run"
    refine ⟨by unfold L2.CMulW; rw [Int.natAbs_natCast, Int.natAbs_natCast]; omega, ?_⟩
    walk_at "run"
    refine sp_gcd ?_
    have g0 : (0 : Int) < (Nat.gcd a n : Nat) := by have := Nat.gcd_pos_of_pos_left n ha; omega
    have l3 := log_small (n := Nat.gcd a n) (Nat.le_trans (Nat.gcd_le_left n ha) a60)
    walk_at "run"
    refine ⟨⟨g0, by rw [Int.natAbs_natCast]; omega⟩, ?_⟩
    walk_at "run"
    have le : Nat.lcm a n ≤ a * 60 := Nat.le_trans (Nat.lcm_le_mul ha n0) (Nat.mul_le_mul_left a n60)
    refine hk _ _ ⟨rfl, ?_, Nat.lcm_pos ha n0, ?_⟩
    · show [none, some (D.int ((a : Int) * n / (Nat.gcd a n : Nat))), none] = [none, some (D.int (Nat.lcm a n : Nat)), none]
      rw [show ((Nat.lcm a n : Nat) : Int) = (a : Int) * n / (Nat.gcd a n : Nat) from by unfold Nat.lcm; rw [Int.natCast_ediv, Int.natCast_mul]]
    · rw [List.length_cons, Nat.pow_succ] at hb
      refine Nat.le_trans (Nat.mul_le_mul_right _ le) ?_
      rw [Nat.mul_assoc, Nat.mul_comm 60]
      exact hb
  · rintro σ A' ⟨rfl, rfl, _, _⟩
    walk_at "run"
    exact .id h
theorem sort_named {cs : List Cmd} : sortI (named cs) = named cs := by
  unfold named
  have h : (sortI (ddI (allN cs))).Pairwise (· ≤ ·) := sortI_le
  exact List.mergeSort_of_pairwise (by simpa using h)
set_option maxHeartbeats 4000000 in
theorem sp_settled_after {cs : List Cmd} (v : VScr cs) (h : ∀ T, Settled (named cs) (blocks cs) T → Q (.int (T : Nat)) A) : cal t (k + 7) "settled_after" [scrD cs] A X Q := by
  refine calN_eq t_settled_after rfl ?_
  walk_at "run"
  refine sp_require_script v ?_
  walk_at "run"
  refine sp_blocks_in v ?_
  walk_at "run"
  refine sp_settled_in v.eff v.len60 sort_named ?_
  intro T hT
  walk_at "run"
  exact .id (h T hT)
theorem lens_ok {N : List Int} {B : Bl} {R : List (List Int)} (b : Eff N B) (hN : N.length ≤ 60) (hR : RingsOk N B R) : ∀ n ∈ R.map List.length, 0 < n ∧ n ≤ 60 := fun n hn => by
  obtain ⟨r, hr, rfl⟩ := List.mem_map.mp hn
  exact ⟨List.length_pos_iff.mpr (hR.ok r hr).ne, Nat.le_trans (len_of_sub (hR.ok r hr).nd fun x hx => b.ring_sub ((hR.mem x).mp ⟨r, hr, hx⟩)) hN⟩
theorem sp_period {cs : List Cmd} (v : VScr cs) (h : ∀ R, RingsOk (named cs) (blocks cs) R → Q (.int (lcmN (R.map List.length) : Nat)) A) : cal t (k + 7) "period" [scrD cs] A X Q := by
  refine calN_eq t_period rfl ?_
  walk_at "run"
  refine sp_require_script v ?_
  walk_at "run"
  refine sp_blocks_in v ?_
  walk_at "run"
  refine sp_rings_in v.eff v.len60 sort_named ?_
  intro R hR hl
  walk_at "run"
  intro L hL
  refine lc_map (e := fun r : List Int => D.fl (r.map .int)) (p := fun _ => true) (g := fun r => .int (r.length : Nat)) hL R (by rw [PySem.sizeLine_eq]; omega) (fun _ => holds_nil) ?_ ?_
  · intro r hr
    refine ⟨_, fun k h => h, fun A' R h _ => h, fun _ A' R h _ => ?_⟩
    walk_at "run"
    rw [List.length_map]
    exact h
  rw [List.filter_eq_self.mpr fun _ _ => rfl, show (R.map fun r => D.int (r.length : Nat)) = (R.map List.length).map fun n : Nat => D.int n from by rw [List.map_map]; rfl]
  walk_at "run"
  refine sp_lcm_of (lens_ok v.eff v.len60 hR) (by rw [List.length_map]; exact hl) ?_
  walk_at "run"
  exact .id (h R hR)
theorem tupsD_map : ∀ F : List (List Int), (∀ r ∈ F, r ≠ []) → tupsD (F.map linD) = some F
  | [], _ => rfl
  | r :: F, h => by
    show tupsD (.tup (r.map .int) :: F.map linD) = _
    rw [tupsD, intsD_map, tupsD_map F fun x hx => h x (List.mem_cons_of_mem _ hx)]
    dsimp only
    rw [if_neg (h r List.mem_cons_self)]
set_option maxHeartbeats 4000000 in
theorem sp_final_blocks {cs : List Cmd} (v : VScr cs) (h : ∀ (T : Nat) (F : List (List Int)), Settled (named cs) (blocks cs) T → F.Perm (((powB (named cs) (blocks cs) T).map (·.2)).filter fun r => decide (r ≠ [])) → Q (.fl (F.map linD)) A) : cal t (k + 7) "final_blocks" [scrD cs] A X Q := by
  refine calN_eq t_final_blocks rfl ?_
  walk_at "run"
  refine sp_require_script v ?_
  walk_at "run"
  refine sp_blocks_in v ?_
  walk_at "run"
  refine sp_settled_in v.eff v.len60 sort_named ?_
  intro T hT
  walk_at "run"
  have T60 : T ≤ 60 := Nat.le_trans (hT.le v.eff) v.len60
  refine sp_powers v.eff v.len60 (Nat.lt_of_le_of_lt T60 (by decide +kernel)) ?_
  walk_at "run"
  intro L hL
  have ep := eff_pow v.eff T
  have h2 := fun F => h T F hT
  clear h
  generalize powB (named cs) (blocks cs) T = P at *
  rw [show (List.map (fun x => x.snd) (List.map (fun p : Int × List Int => ((Sum.inl p.1 : L2.Key), linD p.2)) P)) = (P.map (·.2)).map linD from by rw [List.map_map, List.map_map]; rfl]
  have len : (P.map (·.2)).length ≤ 60 := by
    have := congrArg List.length ep.ks
    unfold keys at this
    rw [List.length_map] at this
    rw [List.length_map, this]
    exact v.len60
  refine lc_map (e := linD) (p := fun r => decide (r ≠ [])) (g := linD) hL (P.map (·.2)) (by rw [PySem.sizeLine_eq]; omega) (fun _ => holds_nil) ?_ ?_
  · intro r hr
    refine ⟨_, fun k h => h, fun A' R h _ => ?_, fun _ A' R h _ => ?_⟩
    · walk_at "run"
      rw [eqD_good (goodLin (l := r) 0) (.tup .nil : GoodE 1 (.tup [])) (by decide) (by decide) (decide (r = [])) (by
        rw [decide_eq_true_iff]
        constructor
        · rintro rfl; rfl
        · intro e; have := D.tup.inj e; simpa using this)]
      walk_at "run"
      have e : (!decide (r = [])) = decide (r ≠ []) := by simp
      rw [e]
      exact h
    · walk_at "run"
      exact h
  generalize hF : (P.map (·.2)).filter (fun r => decide (r ≠ [])) = F
  have hne : ∀ r ∈ F, r ≠ [] := fun r hr => by
    rw [← hF] at hr
    simpa using (List.mem_filter.mp hr).2
  rw [hF] at h2
  walk_at "run"
  cases F with
  | nil =>
    show allocL _ _ _
    refine .fz ?_
    walk_at "run"
    rw [show sortI [] = [] from by unfold sortI; simp]
    exact .id (h2 [] (.refl _))
  | cons r F =>
    rw [show intsD ((r :: F).map linD) = none from rfl, show rowsD ((r :: F).map linD) = none from rfl, tupsD_map _ hne]
    dsimp only
    refine .fz ?_
    walk_at "run"
    exact .id (h2 _ (List.mergeSort_perm _ _))
end Pr

namespace FD
open PySem Py
def b__law_fount : Ss := (.cons (.asg 2 "cell" (.cst (.int 0))) (.cons (.if_ (.cmp .lt (.var 1 "k") (.bif .len (.cons (.var 0 "script") .nil))) (.cons (.asg 2 "cell" (.idx (.var 0 "script") (.var 1 "k"))) .nil) .nil) (.cons (.ret (.lst (.cons (.bif .max (.cons (.cst (.int 0)) (.cons (.bin .sub (.var 2 "cell") (.bin .pow (.cst (.int 10)) (.cst (.int 18)))) .nil))) (.cons (.bin .add (.bin .mul (.bin .mod (.var 2 "cell") (.bin .add (.bin .pow (.cst (.int 10)) (.cst (.int 38))) (.cst (.int 133)))) (.cst (.int 256))) (.var 1 "k")) (.cons (.cst (.int 0)) .nil))))) .nil)))
def d__law_fount : Fd := ⟨2, 3, b__law_fount⟩
def b__law_sip : Ss := (.cons (.if_ (.cmp .gt (.idx (.var 0 "fount") (.cst (.int 0))) (.cst (.int 0))) (.cons (.asg 2 "found" (.bin .mod (.idx (.var 0 "fount") (.cst (.int 0))) (.var 1 "many"))) (.cons (.sto (.var 0 "fount") (.cst (.int 0)) (.bin .fdiv (.idx (.var 0 "fount") (.cst (.int 0))) (.var 1 "many"))) (.cons (.ret (.var 2 "found")) .nil))) .nil) (.cons (.sto (.var 0 "fount") (.cst (.int 2)) (.bin .add (.idx (.var 0 "fount") (.cst (.int 2))) (.cst (.int 1)))) (.cons (.asg 3 "mixed" (.bin .mod (.bin .pow (.bin .add (.idx (.var 0 "fount") (.cst (.int 1))) (.bin .mul (.cst (.int 122949823)) (.idx (.var 0 "fount") (.cst (.int 2))))) (.cst (.int 3))) (.bin .add (.bin .pow (.cst (.int 10)) (.cst (.int 43))) (.cst (.int 57))))) (.cons (.asg 3 "mixed" (.bin .mod (.bin .pow (.bin .add (.var 3 "mixed") (.bin .mul (.cst (.int 67867979)) (.idx (.var 0 "fount") (.cst (.int 2))))) (.cst (.int 3))) (.bin .add (.bin .pow (.cst (.int 10)) (.cst (.int 41))) (.cst (.int 109))))) (.cons (.ret (.bin .mod (.bin .fdiv (.var 3 "mixed") (.cst (.int 131071))) (.var 1 "many"))) .nil)))))
def d__law_sip : Fd := ⟨2, 4, b__law_sip⟩
def b__law_mixed : Ss := (.cons (.asg 2 "left" (.bif .list (.cons (.var 1 "items") .nil))) (.cons (.ret (.lc (.mth .pop (.var 2 "left") (.cons (.call "_law_sip" (.cons (.var 0 "fount") (.cons (.bif .len (.cons (.var 2 "left") .nil)) .nil))) .nil)) (.name 3 "turn") (.rng1 (.bif .len (.cons (.var 2 "left") .nil))) .nil [("turn", 3)])) .nil))
def d__law_mixed : Fd := ⟨2, 4, b__law_mixed⟩
def b__law_line : Ss := (.cons (.asg 2 "wide" (.idx (.lst (.cons (.bif .max (.cons (.cst (.int 1)) (.cons (.var 1 "most") .nil))) (.cons (.cst (.int 60)) (.cons (.bif .min (.cons (.cst (.int 60)) (.cons (.bin .add (.bin .mul (.cst (.int 2)) (.var 1 "most")) (.cst (.int 1))) .nil))) .nil)))) (.call "_law_sip" (.cons (.var 0 "fount") (.cons (.cst (.int 3)) .nil))))) (.cons (.asg 3 "count" (.bif .min (.cons (.var 2 "wide") (.cons (.idx (.lst (.cons (.bin .add (.cst (.int 1)) (.call "_law_sip" (.cons (.var 0 "fount") (.cons (.var 1 "most") .nil)))) (.cons (.var 1 "most") (.cons (.bin .add (.cst (.int 1)) (.call "_law_sip" (.cons (.var 0 "fount") (.cons (.bif .min (.cons (.var 1 "most") (.cons (.cst (.int 4)) .nil))) .nil)))) .nil)))) (.call "_law_sip" (.cons (.var 0 "fount") (.cons (.cst (.int 3)) .nil)))) .nil)))) (.cons (.ret (.bif .tuple (.cons (.slc (.call "_law_mixed" (.cons (.var 0 "fount") (.cons (.lrg (.rng1 (.var 2 "wide"))) .nil))) .no (.yes (.var 3 "count"))) .nil))) .nil)))
def d__law_line : Fd := ⟨2, 4, b__law_line⟩
def b__law_pair : Ss := (.cons (.asg 2 "one" (.idx (.var 1 "items") (.call "_law_sip" (.cons (.var 0 "fount") (.cons (.bif .len (.cons (.var 1 "items") .nil)) .nil))))) (.cons (.asg 3 "others" (.lc (.var 4 "item") (.name 4 "item") (.seq (.var 1 "items")) (.cons (.cmp .ne (.var 4 "item") (.var 2 "one")) .nil) [("item", 4)])) (.cons (.ret (.tup (.cons (.var 2 "one") (.cons (.idx (.var 3 "others") (.call "_law_sip" (.cons (.var 0 "fount") (.cons (.bif .len (.cons (.var 3 "others") .nil)) .nil)))) .nil)))) .nil)))
def d__law_pair : Fd := ⟨2, 5, b__law_pair⟩
def b__law_script : Ss := (.cons (.par [(1, "items"), (3, "style")] (.cons (.call "_law_mixed" (.cons (.var 0 "fount") (.cons (.var 1 "items") .nil))) (.cons (.call "_law_sip" (.cons (.var 0 "fount") (.cons (.cst (.int 5)) .nil))) .nil))) (.cons (.asg 4 "count" (.idx (.lst (.cons (.bin .add (.cst (.int 1)) (.call "_law_sip" (.cons (.var 0 "fount") (.cons (.var 2 "most") .nil)))) (.cons (.var 2 "most") (.cons (.bin .add (.cst (.int 1)) (.call "_law_sip" (.cons (.var 0 "fount") (.cons (.bif .min (.cons (.var 2 "most") (.cons (.cst (.int 6)) .nil))) .nil)))) .nil)))) (.call "_law_sip" (.cons (.var 0 "fount") (.cons (.cst (.int 3)) .nil))))) (.cons (.asg 5 "some" (.ite (.cmp .eq (.var 3 "style") (.cst (.int 0))) (.var 1 "items") (.slc (.var 1 "items") .no (.yes (.bin .add (.cst (.int 2)) (.call "_law_sip" (.cons (.var 0 "fount") (.cons (.cst (.int 4)) .nil)))))))) (.cons (.asg 6 "found" (.lst .nil)) (.cons (.for_ (.name 7 "turn") (.rng1 (.var 4 "count")) (.cons (.unp [(8, "one"), (9, "other")] (.call "_law_pair" (.cons (.var 0 "fount") (.cons (.var 5 "some") .nil)))) (.cons (.if_ (.cmp .eq (.var 3 "style") (.cst (.int 1))) (.cons (.asg 8 "one" (.idx (.var 1 "items") (.bin .mod (.var 7 "turn") (.bif .len (.cons (.var 1 "items") .nil))))) (.cons (.asg 9 "other" (.idx (.var 1 "items") (.bin .mod (.bin .add (.var 7 "turn") (.cst (.int 1))) (.bif .len (.cons (.var 1 "items") .nil))))) .nil)) .nil) (.cons (.if_ (.cmp .eq (.var 3 "style") (.cst (.int 2))) (.cons (.asg 8 "one" (.idx (.var 1 "items") (.cst (.int 0)))) (.cons (.asg 9 "other" (.idx (.var 1 "items") (.bin .add (.cst (.int 1)) (.bin .mod (.var 7 "turn") (.bin .sub (.bif .len (.cons (.var 1 "items") .nil)) (.cst (.int 1))))))) .nil)) .nil) (.cons (.asg 10 "word" (.ite (.cmp .ne (.var 3 "style") (.cst (.int 1))) (.idx (.lst (.cons (.cst (.str "behind")) (.cons (.cst (.str "before")) .nil))) (.call "_law_sip" (.cons (.var 0 "fount") (.cons (.cst (.int 2)) .nil)))) (.cst (.str "behind")))) (.cons (.exp (.mth .append (.var 6 "found") (.cons (.tup (.cons (.var 10 "word") (.cons (.var 8 "one") (.cons (.var 9 "other") .nil)))) .nil))) .nil))))) [2, 4, 7, 8, 9, 10]) (.cons (.ret (.bif .tuple (.cons (.var 6 "found") .nil))) .nil))))))
def d__law_script : Fd := ⟨3, 11, b__law_script⟩
def b__law_next : Ss := (.cons (.unp [(2, "word"), (3, "one"), (4, "other")] (.var 1 "command")) (.cons (.asg 5 "rest" (.lc (.var 6 "item") (.name 6 "item") (.seq (.var 0 "line")) (.cons (.cmp .ne (.var 6 "item") (.var 3 "one")) .nil) [("item", 6)])) (.cons (.asg 7 "at" (.bin .add (.mth .index (.var 5 "rest") (.cons (.var 4 "other") .nil)) (.bif .int (.cons (.cmp .eq (.var 2 "word") (.cst (.str "behind"))) .nil)))) (.cons (.ret (.bif .tuple (.cons (.bin .add (.bin .add (.slc (.var 5 "rest") .no (.yes (.var 7 "at"))) (.lst (.cons (.var 3 "one") .nil))) (.slc (.var 5 "rest") (.yes (.var 7 "at")) .no)) .nil))) .nil))))
def d__law_next : Fd := ⟨2, 8, b__law_next⟩
def b__law_played : Ss := (.cons (.for_ (.name 2 "command") (.seq (.var 1 "script")) (.cons (.asg 0 "line" (.call "_law_next" (.cons (.var 0 "line") (.cons (.var 2 "command") .nil)))) .nil) [1, 2]) (.cons (.ret (.var 0 "line")) .nil))
def d__law_played : Fd := ⟨2, 3, b__law_played⟩
def b__law_pieces : Ss := (.cons (.asg 2 "found" (.dnil)) (.cons (.for_ (.name 3 "item") (.seq (.var 1 "items")) (.cons (.sto (.var 2 "found") (.var 3 "item") (.tup (.cons (.var 3 "item") .nil))) .nil) [3, 4, 5, 6, 7, 8, 9]) (.cons (.for_ (.tup [(4, "word"), (5, "one"), (6, "other")]) (.seq (.var 0 "script")) (.cons (.for_ (.name 3 "item") (.seq (.var 1 "items")) (.cons (.asg 7 "rest" (.lc (.var 8 "piece") (.name 8 "piece") (.seq (.idx (.var 2 "found") (.var 3 "item"))) (.cons (.cmp .ne (.var 8 "piece") (.var 5 "one")) .nil) [("piece", 8)])) (.cons (.if_ (.cmp .in_ (.var 6 "other") (.var 7 "rest")) (.cons (.asg 9 "at" (.bin .add (.mth .index (.var 7 "rest") (.cons (.var 6 "other") .nil)) (.bif .int (.cons (.cmp .eq (.var 4 "word") (.cst (.str "behind"))) .nil)))) (.cons (.asg 7 "rest" (.bin .add (.bin .add (.slc (.var 7 "rest") .no (.yes (.var 9 "at"))) (.lst (.cons (.var 5 "one") .nil))) (.slc (.var 7 "rest") (.yes (.var 9 "at")) .no))) .nil)) .nil) (.cons (.sto (.var 2 "found") (.var 3 "item") (.bif .tuple (.cons (.var 7 "rest") .nil))) .nil))) [0, 3, 7, 8, 9]) .nil) [0, 3, 4, 5, 6, 7, 8, 9]) (.cons (.ret (.var 2 "found")) .nil))))
def d__law_pieces : Fd := ⟨2, 10, b__law_pieces⟩
def b__law_put_in : Ss := (.cons (.asg 2 "found" (.dnil)) (.cons (.for_ (.name 3 "item") (.seq (.var 0 "pieces_here")) (.cons (.asg 4 "whole" (.tup .nil)) (.cons (.for_ (.name 5 "piece") (.seq (.idx (.var 0 "pieces_here") (.var 3 "item"))) (.cons (.asg 4 "whole" (.bin .add (.var 4 "whole") (.idx (.var 1 "other") (.var 5 "piece")))) .nil) [5]) (.cons (.sto (.var 2 "found") (.var 3 "item") (.var 4 "whole")) .nil))) [3, 4, 5]) (.cons (.ret (.var 2 "found")) .nil)))
def d__law_put_in : Fd := ⟨2, 6, b__law_put_in⟩
def b__law_far : Ss := (.cons (.par [(3, "power"), (4, "whole")] (.cons (.call "_law_pieces" (.cons (.var 1 "script") (.cons (.var 0 "line") .nil))) (.cons (.dnil) .nil))) (.cons (.for_ (.name 5 "item") (.seq (.var 0 "line")) (.cons (.sto (.var 4 "whole") (.var 5 "item") (.tup (.cons (.var 5 "item") .nil))) .nil) [1, 5, 6]) (.cons (.whl (.cmp .gt (.var 2 "many") (.cst (.int 0))) (.cons (.if_ (.cmp .eq (.bin .mod (.var 2 "many") (.cst (.int 2))) (.cst (.int 1))) (.cons (.asg 4 "whole" (.call "_law_put_in" (.cons (.var 4 "whole") (.cons (.var 3 "power") .nil)))) .nil) .nil) (.cons (.par [(3, "power"), (2, "many")] (.cons (.call "_law_put_in" (.cons (.var 3 "power") (.cons (.var 3 "power") .nil))) (.cons (.bin .fdiv (.var 2 "many") (.cst (.int 2))) .nil))) .nil)) [1, 5, 6]) (.cons (.asg 6 "found" (.tup .nil)) (.cons (.for_ (.name 5 "item") (.seq (.var 0 "line")) (.cons (.asg 6 "found" (.bin .add (.var 6 "found") (.idx (.var 4 "whole") (.var 5 "item")))) .nil) [0, 1, 2, 3, 5]) (.cons (.ret (.var 6 "found")) .nil))))))
def d__law_far : Fd := ⟨3, 7, b__law_far⟩
def b__law_pals : Ss := (.cons (.asg 2 "items" (.bif .list (.cons (.call "_law_line" (.cons (.var 0 "fount") (.cons (.var 1 "most") .nil))) .nil))) (.cons (.par [(3, "style"), (4, "found")] (.cons (.call "_law_sip" (.cons (.var 0 "fount") (.cons (.cst (.int 6)) .nil))) (.cons (.dnil) .nil))) (.cons (.for_ (.tup [(5, "spot"), (6, "item")]) (.enum (.var 2 "items")) (.cons (.asg 7 "others" (.lc (.var 8 "other") (.name 8 "other") (.seq (.var 2 "items")) (.cons (.cmp .ne (.var 8 "other") (.var 6 "item")) .nil) [("other", 8)])) (.cons (.if_ (.cmp .eq (.var 7 "others") (.lst .nil)) (.cons (.sto (.var 4 "found") (.var 6 "item") (.cst .non)) .nil) (.cons (.if_ (.cmp .eq (.var 3 "style") (.cst (.int 0))) (.cons (.sto (.var 4 "found") (.var 6 "item") (.idx (.bin .add (.var 7 "others") (.lst (.cons (.cst .non) .nil))) (.call "_law_sip" (.cons (.var 0 "fount") (.cons (.bin .add (.bif .len (.cons (.var 7 "others") .nil)) (.cst (.int 1))) .nil))))) .nil) (.cons (.if_ (.cmp .eq (.var 3 "style") (.cst (.int 1))) (.cons (.sto (.var 4 "found") (.var 6 "item") (.idx (.var 7 "others") (.call "_law_sip" (.cons (.var 0 "fount") (.cons (.bif .len (.cons (.var 7 "others") .nil)) .nil))))) .nil) (.cons (.if_ (.cmp .eq (.var 3 "style") (.cst (.int 2))) (.cons (.sto (.var 4 "found") (.var 6 "item") (.idx (.var 2 "items") (.bin .mod (.bin .add (.var 5 "spot") (.cst (.int 1))) (.bif .len (.cons (.var 2 "items") .nil))))) .nil) (.cons (.if_ (.cmp .eq (.var 3 "style") (.cst (.int 3))) (.cons (.sto (.var 4 "found") (.var 6 "item") (.idx (.var 7 "others") (.cst (.int 0)))) .nil) (.cons (.if_ (.cmp .eq (.var 3 "style") (.cst (.int 4))) (.cons (.sto (.var 4 "found") (.var 6 "item") (.ite (.cmp .lt (.bin .add (.var 5 "spot") (.cst (.int 1))) (.bif .len (.cons (.var 2 "items") .nil))) (.idx (.var 2 "items") (.bin .add (.var 5 "spot") (.cst (.int 1)))) (.idx (.lst (.cons (.cst .non) (.cons (.idx (.var 2 "items") (.cst (.int 0))) .nil))) (.call "_law_sip" (.cons (.var 0 "fount") (.cons (.cst (.int 2)) .nil)))))) .nil) (.cons (.sto (.var 4 "found") (.var 6 "item") (.ite (.cmp .eq (.call "_law_sip" (.cons (.var 0 "fount") (.cons (.cst (.int 4)) .nil))) (.cst (.int 0))) (.idx (.var 7 "others") (.neg (.cst (.int 1)))) (.cst .non))) .nil)) .nil)) .nil)) .nil)) .nil)) .nil)) .nil)) [1, 5, 6, 7, 8]) (.cons (.ret (.var 4 "found")) .nil))))
def d__law_pals : Fd := ⟨2, 9, b__law_pals⟩
def b__law_commands : Ss := (.cons (.ret (.bif .tuple (.cons (.lc (.tup (.cons (.cst (.str "behind")) (.cons (.var 1 "item") (.cons (.idx (.var 0 "pals") (.var 1 "item")) .nil)))) (.name 1 "item") (.seq (.bif .sorted (.cons (.var 0 "pals") .nil))) (.cons (.cmp .isn (.idx (.var 0 "pals") (.var 1 "item")) (.cst .non)) .nil) [("item", 1)]) .nil))) .nil)
def d__law_commands : Fd := ⟨1, 2, b__law_commands⟩
def b__law_same : Ss := (.cons (.if_ (.isis (.var 1 "due") [.list, .tuple]) (.cons (.if_ (.bop false (.cons (.cmp .ne (.isi (.var 0 "found") .list) (.isi (.var 1 "due") .list)) (.cons (.cmp .ne (.isi (.var 0 "found") .tuple) (.isi (.var 1 "due") .tuple)) .nil))) (.cons (.ret (.cst (.bl false))) .nil) .nil) (.cons (.ret (.bop true (.cons (.cmp .eq (.bif .len (.cons (.var 0 "found") .nil)) (.bif .len (.cons (.var 1 "due") .nil))) (.cons (.bif .all (.cons (.lc (.call "_law_same" (.cons (.idx (.var 0 "found") (.var 2 "k")) (.cons (.idx (.var 1 "due") (.var 2 "k")) .nil))) (.name 2 "k") (.rng1 (.bif .len (.cons (.var 1 "due") .nil))) .nil [("k", 2)]) .nil)) .nil)))) .nil)) .nil) (.cons (.ret (.bop true (.cons (.cmp .eq (.isi (.var 0 "found") .bool) (.isi (.var 1 "due") .bool)) (.cons (.cmp .eq (.var 0 "found") (.var 1 "due")) .nil)))) .nil))
def d__law_same : Fd := ⟨2, 3, b__law_same⟩
def b__law_no_lines : Ss := (.cons (.asg 2 "at" (.call "_law_sip" (.cons (.var 0 "fount") (.cons (.bif .len (.cons (.var 1 "line") .nil)) .nil)))) (.cons (.asg 3 "odd" (.lst (.cons (.cst .non) (.cons (.cst (.bl true)) (.cons (.cst (.bl false)) (.cons (.cst (.str "1")) (.cons (.tup (.cons (.cst (.int 1)) .nil)) (.cons (.lst (.cons (.cst (.int 1)) .nil)) (.cons (.dnil) (.cons (.neg (.cst (.int 1))) (.cons (.neg (.cst (.int 2))) (.cons (.cst (.int 60)) (.cons (.cst (.int 61)) (.cons (.bin .pow (.cst (.int 10)) (.cst (.int 60))) .nil)))))))))))))) (.cons (.asg 4 "found" (.bin .add (.lc (.bin .add (.bin .add (.slc (.var 1 "line") .no (.yes (.var 2 "at"))) (.tup (.cons (.var 5 "one") .nil))) (.slc (.var 1 "line") (.yes (.bin .add (.var 2 "at") (.cst (.int 1)))) .no)) (.name 5 "one") (.seq (.var 3 "odd")) .nil [("one", 5)]) (.lst (.cons (.bin .add (.bin .add (.slc (.var 1 "line") .no (.yes (.var 2 "at"))) (.tup (.cons (.idx (.var 1 "line") (.neg (.cst (.int 1)))) .nil))) (.slc (.var 1 "line") (.yes (.var 2 "at")) .no)) .nil)))) (.cons (.asg 4 "found" (.bin .add (.var 4 "found") (.lst (.cons (.bif .list (.cons (.var 1 "line") .nil)) (.cons (.tup (.cons (.var 1 "line") .nil)) (.cons (.tup .nil) (.cons (.bin .mul (.tup (.cons (.cst (.int 0)) .nil)) (.cst (.int 2))) (.cons (.tup (.cons (.cst (.int 5)) (.cons (.cst (.int 0)) (.cons (.cst (.int 5)) .nil)))) (.cons (.trg (.rng1 (.cst (.int 61)))) (.cons (.bin .mul (.tup (.cons (.cst (.int 0)) .nil)) (.cst (.int 300))) (.cons (.cst .non) (.cons (.cst (.int 0)) (.cons (.cst (.bl true)) (.cons (.cst (.str "")) (.cons (.cst (.str "1")) .nil))))))))))))))) (.cons (.ret (.bin .add (.var 4 "found") (.lst (.cons (.lst .nil) (.cons (.lst (.cons (.cst (.int 1)) .nil)) (.cons (.dnil) (.cons (.tup (.cons (.cst .non) .nil)) (.cons (.tup (.cons (.cst (.bl false)) .nil)) (.cons (.tup (.cons (.cst (.str "1")) .nil)) (.cons (.tup (.cons (.tup (.cons (.cst (.int 1)) .nil)) .nil)) (.cons (.tup (.cons (.lst .nil) .nil)) (.cons (.tup (.cons (.dnil) .nil)) (.cons (.tup (.cons (.cst (.int 0)) (.cons (.cst (.bl true)) .nil))) .nil))))))))))))) .nil)))))
def d__law_no_lines : Fd := ⟨2, 6, b__law_no_lines⟩
def b__law_no_scripts : Ss := (.cons (.asg 2 "at" (.call "_law_sip" (.cons (.var 0 "fount") (.cons (.bif .len (.cons (.var 1 "script") .nil)) .nil)))) (.cons (.unp [(3, "word"), (4, "one"), (5, "other")] (.idx (.var 1 "script") (.var 2 "at"))) (.cons (.asg 6 "odd" (.lst (.cons (.cst .non) (.cons (.tup .nil) (.cons (.tup (.cons (.var 3 "word") (.cons (.var 4 "one") .nil))) (.cons (.tup (.cons (.var 3 "word") (.cons (.var 4 "one") (.cons (.var 5 "other") (.cons (.cst (.int 1)) .nil))))) (.cons (.lst (.cons (.var 3 "word") (.cons (.var 4 "one") (.cons (.var 5 "other") .nil)))) (.cons (.tup (.cons (.var 3 "word") (.cons (.var 4 "one") (.cons (.var 4 "one") .nil)))) (.cons (.tup (.cons (.cst (.str "after")) (.cons (.var 4 "one") (.cons (.var 5 "other") .nil)))) .nil))))))))) (.cons (.asg 6 "odd" (.bin .add (.var 6 "odd") (.lst (.cons (.tup (.cons (.cst (.str "Behind")) (.cons (.var 4 "one") (.cons (.var 5 "other") .nil)))) (.cons (.tup (.cons (.cst .non) (.cons (.var 4 "one") (.cons (.var 5 "other") .nil)))) (.cons (.tup (.cons (.var 4 "one") (.cons (.var 3 "word") (.cons (.var 5 "other") .nil)))) (.cons (.tup (.cons (.cst (.str "")) (.cons (.var 4 "one") (.cons (.var 5 "other") .nil)))) (.cons (.tup (.cons (.cst (.int 1)) (.cons (.var 4 "one") (.cons (.var 5 "other") .nil)))) .nil)))))))) (.cons (.for_ (.name 7 "item") (.seq (.lst (.cons (.cst .non) (.cons (.cst (.bl true)) (.cons (.cst (.bl false)) (.cons (.cst (.str "1")) (.cons (.tup (.cons (.cst (.int 1)) .nil)) (.cons (.lst (.cons (.cst (.int 1)) .nil)) (.cons (.dnil) (.cons (.neg (.cst (.int 1))) (.cons (.neg (.cst (.int 2))) (.cons (.cst (.int 60)) (.cons (.cst (.int 61)) (.cons (.bin .pow (.cst (.int 10)) (.cst (.int 60))) .nil)))))))))))))) (.cons (.asg 6 "odd" (.bin .add (.var 6 "odd") (.lst (.cons (.tup (.cons (.var 3 "word") (.cons (.var 7 "item") (.cons (.var 5 "other") .nil)))) (.cons (.tup (.cons (.var 3 "word") (.cons (.var 4 "one") (.cons (.var 7 "item") .nil)))) .nil))))) .nil) [0, 7, 8, 9]) (.cons (.asg 8 "found" (.bin .add (.lc (.bin .add (.bin .add (.slc (.var 1 "script") .no (.yes (.var 2 "at"))) (.tup (.cons (.var 9 "part") .nil))) (.slc (.var 1 "script") (.yes (.bin .add (.var 2 "at") (.cst (.int 1)))) .no)) (.name 9 "part") (.seq (.var 6 "odd")) .nil [("part", 9)]) (.lst (.cons (.bif .list (.cons (.var 1 "script") .nil)) (.cons (.tup (.cons (.var 1 "script") .nil)) (.cons (.tup .nil) (.cons (.idx (.var 1 "script") (.var 2 "at")) .nil))))))) (.cons (.ret (.bin .add (.var 8 "found") (.lst (.cons (.cst .non) (.cons (.cst (.int 0)) (.cons (.cst (.bl true)) (.cons (.cst (.str "")) (.cons (.cst (.str "0>1")) (.cons (.lst .nil) (.cons (.dnil) (.cons (.bin .mul (.tup (.cons (.idx (.var 1 "script") (.var 2 "at")) .nil)) (.cst (.int 201))) (.cons (.bin .mul (.tup (.cons (.idx (.var 1 "script") (.var 2 "at")) .nil)) (.cst (.int 300))) (.cons (.tup (.cons (.tup .nil) .nil)) (.cons (.tup (.cons (.cst .non) .nil)) .nil)))))))))))))) .nil)))))))
def d__law_no_scripts : Fd := ⟨2, 10, b__law_no_scripts⟩
def b__law_after : Ss := (.cons (.asg 2 "word" (.idx (.var 1 "operation") (.cst (.int 0)))) (.cons (.if_ (.cmp .in_ (.var 2 "word") (.tup (.cons (.cst (.str "behind")) (.cons (.cst (.str "before")) .nil)))) (.cons (.ret (.tup (.cons (.call "_law_next" (.cons (.var 0 "line") (.cons (.var 1 "operation") .nil))) (.cons (.call "_law_next" (.cons (.var 0 "line") (.cons (.var 1 "operation") .nil))) .nil)))) .nil) .nil) (.cons (.if_ (.cmp .eq (.var 2 "word") (.cst (.str "run"))) (.cons (.asg 3 "later" (.call "_law_far" (.cons (.var 0 "line") (.cons (.idx (.var 1 "operation") (.cst (.int 1))) (.cons (.idx (.var 1 "operation") (.cst (.int 2))) .nil))))) (.cons (.ret (.tup (.cons (.var 3 "later") (.cons (.var 3 "later") .nil)))) .nil)) .nil) (.cons (.if_ (.cmp .eq (.var 2 "word") (.cst (.str "put"))) (.cons (.ret (.tup (.cons (.cst .non) (.cons (.bin .add (.var 0 "line") (.slc (.var 1 "operation") (.yes (.cst (.int 1))) .no)) .nil)))) .nil) .nil) (.cons (.ret (.tup (.cons (.cst .non) (.cons (.bif .tuple (.cons (.lc (.var 4 "item") (.name 4 "item") (.seq (.var 0 "line")) (.cons (.cmp .ne (.var 4 "item") (.idx (.var 1 "operation") (.cst (.int 1)))) .nil) [("item", 4)]) .nil)) .nil)))) .nil)))))
def d__law_after : Fd := ⟨2, 5, b__law_after⟩
def b__law_operation : Ss := (.cons (.par [(3, "way"), (4, "free")] (.cons (.call "_law_sip" (.cons (.var 0 "fount") (.cons (.cst (.int 9)) .nil))) (.cons (.lc (.var 5 "item") (.name 5 "item") (.rng1 (.cst (.int 60))) (.cons (.cmp .nin (.var 5 "item") (.var 1 "line")) .nil) [("item", 5)]) .nil))) (.cons (.if_ (.bop true (.cons (.cmp .lt (.var 3 "way") (.cst (.int 2))) (.cons (.cmp .ne (.var 4 "free") (.lst .nil)) .nil))) (.cons (.ret (.tup (.cons (.cst (.str "put")) (.cons (.idx (.var 4 "free") (.call "_law_sip" (.cons (.var 0 "fount") (.cons (.bif .len (.cons (.var 4 "free") .nil)) .nil)))) .nil)))) .nil) .nil) (.cons (.if_ (.cmp .lt (.bif .len (.cons (.var 1 "line") .nil)) (.cst (.int 2))) (.cons (.ret (.tup (.cons (.cst (.str "put")) (.cons (.idx (.var 4 "free") (.cst (.int 0))) .nil)))) .nil) .nil) (.cons (.if_ (.cmp .lt (.var 3 "way") (.cst (.int 3))) (.cons (.ret (.tup (.cons (.cst (.str "take")) (.cons (.idx (.var 1 "line") (.call "_law_sip" (.cons (.var 0 "fount") (.cons (.bif .len (.cons (.var 1 "line") .nil)) .nil)))) .nil)))) .nil) .nil) (.cons (.if_ (.cmp .lt (.var 3 "way") (.cst (.int 6))) (.cons (.unp [(6, "one"), (7, "other")] (.call "_law_pair" (.cons (.var 0 "fount") (.cons (.bif .list (.cons (.var 1 "line") .nil)) .nil)))) (.cons (.ret (.tup (.cons (.idx (.lst (.cons (.cst (.str "behind")) (.cons (.cst (.str "before")) .nil))) (.call "_law_sip" (.cons (.var 0 "fount") (.cons (.cst (.int 2)) .nil)))) (.cons (.var 6 "one") (.cons (.var 7 "other") .nil))))) .nil)) .nil) (.cons (.asg 8 "many" (.idx (.lst (.cons (.cst (.int 1)) (.cons (.cst (.int 2)) (.cons (.bin .add (.cst (.int 1)) (.call "_law_sip" (.cons (.var 0 "fount") (.cons (.cst (.int 9)) .nil)))) (.cons (.bin .add (.cst (.int 1)) (.call "_law_sip" (.cons (.var 0 "fount") (.cons (.bin .pow (.cst (.int 10)) (.cst (.int 30))) .nil)))) (.cons (.bin .pow (.cst (.int 10)) (.cst (.int 30))) .nil)))))) (.call "_law_sip" (.cons (.var 0 "fount") (.cons (.cst (.int 5)) .nil))))) (.cons (.ret (.tup (.cons (.cst (.str "run")) (.cons (.call "_law_script" (.cons (.var 0 "fount") (.cons (.bif .list (.cons (.var 1 "line") .nil)) (.cons (.var 2 "most") .nil)))) (.cons (.var 8 "many") .nil))))) .nil)))))))
def d__law_operation : Fd := ⟨3, 9, b__law_operation⟩
def table : List (Str × Fd) := [tp "_law_fount" d__law_fount, tp "_law_sip" d__law_sip, tp "_law_mixed" d__law_mixed, tp "_law_line" d__law_line, tp "_law_pair" d__law_pair, tp "_law_script" d__law_script, tp "_law_next" d__law_next, tp "_law_played" d__law_played, tp "_law_pieces" d__law_pieces, tp "_law_put_in" d__law_put_in, tp "_law_far" d__law_far, tp "_law_pals" d__law_pals, tp "_law_commands" d__law_commands, tp "_law_same" d__law_same, tp "_law_no_lines" d__law_no_lines, tp "_law_no_scripts" d__law_no_scripts, tp "_law_after" d__law_after, tp "_law_operation" d__law_operation]
/-- a table that holds these -/
class Has (t : Tb) : Prop where
  h : ∀ x d, table.lookup x = some d → t.T x = some d
theorem t__law_fount {t : Tb} [h : Has t] : t.T "_law_fount" = some d__law_fount := h.h _ _ (by rfl)
theorem t__law_sip {t : Tb} [h : Has t] : t.T "_law_sip" = some d__law_sip := h.h _ _ (by rfl)
theorem t__law_mixed {t : Tb} [h : Has t] : t.T "_law_mixed" = some d__law_mixed := h.h _ _ (by rfl)
theorem t__law_line {t : Tb} [h : Has t] : t.T "_law_line" = some d__law_line := h.h _ _ (by rfl)
theorem t__law_pair {t : Tb} [h : Has t] : t.T "_law_pair" = some d__law_pair := h.h _ _ (by rfl)
theorem t__law_script {t : Tb} [h : Has t] : t.T "_law_script" = some d__law_script := h.h _ _ (by rfl)
theorem t__law_next {t : Tb} [h : Has t] : t.T "_law_next" = some d__law_next := h.h _ _ (by rfl)
theorem t__law_played {t : Tb} [h : Has t] : t.T "_law_played" = some d__law_played := h.h _ _ (by rfl)
theorem t__law_pieces {t : Tb} [h : Has t] : t.T "_law_pieces" = some d__law_pieces := h.h _ _ (by rfl)
theorem t__law_put_in {t : Tb} [h : Has t] : t.T "_law_put_in" = some d__law_put_in := h.h _ _ (by rfl)
theorem t__law_far {t : Tb} [h : Has t] : t.T "_law_far" = some d__law_far := h.h _ _ (by rfl)
theorem t__law_pals {t : Tb} [h : Has t] : t.T "_law_pals" = some d__law_pals := h.h _ _ (by rfl)
theorem t__law_commands {t : Tb} [h : Has t] : t.T "_law_commands" = some d__law_commands := h.h _ _ (by rfl)
theorem t__law_same {t : Tb} [h : Has t] : t.T "_law_same" = some d__law_same := h.h _ _ (by rfl)
theorem t__law_no_lines {t : Tb} [h : Has t] : t.T "_law_no_lines" = some d__law_no_lines := h.h _ _ (by rfl)
theorem t__law_no_scripts {t : Tb} [h : Has t] : t.T "_law_no_scripts" = some d__law_no_scripts := h.h _ _ (by rfl)
theorem t__law_after {t : Tb} [h : Has t] : t.T "_law_after" = some d__law_after := h.h _ _ (by rfl)
theorem t__law_operation {t : Tb} [h : Has t] : t.T "_law_operation" = some d__law_operation := h.h _ _ (by rfl)
end FD

namespace FD
open PySem Py Mv Pr
variable {t : Tb} [Has t] {k : Nat} {A B : AH} {X : Dx} {Q : Dk}
/-- the state of the draws at a, all else as in B; fewer than m draws so far -/
def Wel (B : AH) (a : PySem.Addr) (A : AH) (m : Nat) : Prop := ∃ x y z : Int, A = put B a (.lst [.int x, .int y, .int z]) ∧ 0 ≤ y ∧ y < 2 ^ 200 ∧ 0 ≤ z ∧ z ≤ m
theorem Wel.at {a : PySem.Addr} {m : Nat} (h : Wel B a A m) {p : PySem.Addr} (hp : p ≠ a) : A p = B p := by obtain ⟨x, y, z, rfl, _⟩ := h; exact put_ne hp
theorem Wel.some {a : PySem.Addr} {m : Nat} (h : Wel B a A m) : ∃ o, A a = some o := by obtain ⟨x, y, z, rfl, _⟩ := h; exact ⟨_, put_same⟩
theorem Wel.more {a : PySem.Addr} {m n : Nat} (h : Wel B a A m) (hn : m ≤ n) : Wel B a A n := by
  obtain ⟨x, y, z, e, b1, b2, b3, b4⟩ := h
  exact ⟨x, y, z, e, b1, b2, b3, by omega⟩
/-- with one more object -/
theorem Wel.put {a p : PySem.Addr} {m : Nat} {o : AO} (h : Wel B a A m) (hp : p ≠ a) : Wel (put B p o) a (put A p o) m := by
  obtain ⟨x, y, z, rfl, b⟩ := h
  exact ⟨x, y, z, by rw [put_comm (Ne.symm hp)], b⟩
theorem Wel.ne {a p : PySem.Addr} {m : Nat} (h : Wel B a A m) (hp : A p = none) : p ≠ a := fun e => by
  obtain ⟨o, ho⟩ := h.some
  rw [e, ho] at hp
  cases hp
theorem Wel.nil {a p : PySem.Addr} {m : Nat} (h : Wel B a A m) (hp : A p = none) : B p = none := by rw [← h.at (h.ne hp)]; exact hp
/-- an object taken away again -/
theorem Wel.rem {a p : PySem.Addr} {m : Nat} {o : AO} (h : Wel (Py.put B p o) a A m) (hp : p ≠ a) (hB : B p = none) : Wel B a (Py.rem A p) m := by
  obtain ⟨x, y, z, rfl, b⟩ := h
  refine ⟨x, y, z, ?_, b⟩
  rw [put_comm hp, rem_put (by rw [put_ne hp]; exact hB)]
theorem Wel.sub {a p : PySem.Addr} {m : Nat} {o : AO} (h : Wel (Py.put B p o) a A m) (hp : p ≠ a) (hB : B p = none) : ∃ A2, Wel B a A2 m ∧ Py.Sub A2 A ∧ A2 p = Option.none := by
  obtain ⟨x, y, z, rfl, b⟩ := h
  refine ⟨_, ⟨x, y, z, rfl, b⟩, ?_, by rw [put_ne hp]; exact hB⟩
  rw [put_comm hp]
  exact Sub.fresh (by rw [put_ne hp]; exact hB)
theorem sp_fount {ns : List Int} {j : Nat} (hj : j < 2 ^ 60) (h : ∀ p A', A p = none → Wel A p A' 0 → Q (.ref p) A') : cal t (k + 1) "_law_fount" [.fl (ns.map .int), .int j] A X Q := by
  refine calN_eq t__law_fount rfl ?_
  have core : ∀ c : Int, ∀ p, A p = none → EndOk (put A p (.lst [.int (if c - 10 ^ Int.toNat 18 > 0 then c - 10 ^ Int.toNat 18 else 0), .int (c % (10 ^ Int.toNat 38 + 133) * 256 + j), .int 0])) (.ref p) Q := fun c p hp => by
    have x1 : 0 ≤ c % (10 ^ Int.toNat 38 + 133) := Int.emod_nonneg _ (by decide +kernel)
    have x2 : c % (10 ^ Int.toNat 38 + 133) < 2 ^ 150 := Int.lt_trans (Int.emod_lt_of_pos _ (by decide +kernel)) (by decide +kernel)
    generalize c % (10 ^ Int.toNat 38 + 133) = y at *
    exact .id (h p _ hp ⟨_, _, _, rfl, by omega, by omega, by omega, by omega⟩)
  have cm : ∀ c : Int, L2.CMulW (c % (10 ^ Int.toNat 38 + 133)) 256 := fun c => by
    have x1 : 0 ≤ c % (10 ^ Int.toNat 38 + 133) := Int.emod_nonneg _ (by decide +kernel)
    have x2 : c % (10 ^ Int.toNat 38 + 133) < 2 ^ 150 := Int.lt_trans (Int.emod_lt_of_pos _ (by decide +kernel)) (by decide +kernel)
    generalize c % (10 ^ Int.toNat 38 + 133) = y at *
    exact cmulw 150 9 (by omega) (by decide) (by decide) (by decide) (by decide)
  walk_at "run"
  by_cases c : (j : Int) < (List.map D.int ns).length
  · have e : L2.atI (List.map D.int ns) (j : Int) = some (.int ns[j]!) := L2.atI_nat (by
      have : j < ns.length := by simpa using c
      simp [this])
    walk_at "run"
    refine ⟨cm _, ?_⟩
    walk_at "run"
    refine .new fun p hp => ?_
    exact core _ p hp
  · walk_at "run"
    refine .new fun p hp => ?_
    exact core _ p hp
theorem sp_sip {a : PySem.Addr} {m : Nat} {many : Int} (w : Wel B a A m) (hm : m < 2 ^ 60) (h0 : 0 < many) (h1 : many < 2 ^ 200) (h : ∀ r A', 0 ≤ r → r < many → Wel B a A' (m + 1) → Q (.int r) A') : cal t (k + 1) "_law_sip" [.ref a, .int many] A X Q := by
  obtain ⟨x, y, z, rfl, b1, b2, b3, b4⟩ := w
  refine calN_eq t__law_sip rfl ?_
  walk_at "run"
  by_cases c : 0 < x
  · walk_at "run"
    refine ⟨cdivw 200 h0 (by omega) (by decide) (by decide), ?_⟩
    walk_at "run"
    rw [put_put]
    exact .id (h _ _ (Int.emod_nonneg _ (by omega)) (Int.emod_lt_of_pos _ h0) ⟨_, _, _, rfl, b1, b2, b3, by omega⟩)
  · walk_at "run"
    refine ⟨cmulw 30 61 (by decide) (by omega) (by decide) (by decide) (by decide), ?_⟩
    walk_at "run"
    refine ⟨cpoww 300 (by omega) (by decide) (by decide) (by decide) (by decide), ?_⟩
    walk_at "run"
    generalize hx : (y + 122949823 * (z + 1)) ^ Int.toNat 3 % (10 ^ Int.toNat 43 + 57) = x1
    have y1 : 0 ≤ x1 := by rw [← hx]; exact Int.emod_nonneg _ (by decide +kernel)
    have y2 : x1 < 10 ^ Int.toNat 43 + 57 := by rw [← hx]; exact Int.emod_lt_of_pos _ (by decide +kernel)
    have y3 : x1 < 2 ^ 200 := Int.lt_trans y2 (by decide +kernel)
    refine ⟨cmulw 30 61 (by decide) (by omega) (by decide) (by decide) (by decide), ?_⟩
    walk_at "run"
    refine ⟨cpoww 300 (by omega) (by decide) (by decide) (by decide) (by decide), ?_⟩
    walk_at "run"
    rw [put_put]
    exact .id (h _ _ (Int.emod_nonneg _ (by omega)) (Int.emod_lt_of_pos _ h0) ⟨_, _, _, rfl, b1, b2, by omega, by omega⟩)
theorem erase_perm {ds : List D} {i : Nat} {d : D} (h : ds[i]? = some d) : (d :: ds.eraseIdx i).Perm ds := by
  obtain ⟨hi, rfl⟩ := List.getElem?_eq_some_iff.mp h
  have e : ds = ds.take i ++ ds[i] :: ds.drop (i + 1) := by rw [List.getElem_cons_drop, List.take_append_drop]
  rw [List.eraseIdx_eq_take_drop_succ]
  exact (List.perm_middle (l₁ := ds.take i) (l₂ := ds.drop (i + 1)) (a := ds[i])).symm.trans (by rw [← e])
set_option maxHeartbeats 1000000 in
theorem sp_mixed {a : PySem.Addr} {m : Nat} {ds : List D} (w : Wel B a A m) (hm : m < 2 ^ 59) (hz : ds.length ≤ 1000) (h : ∀ es A', es.Perm ds → Wel B a A' (m + 1000) → Q (.fl es) A') : cal t (k + 2) "_law_mixed" [.ref a, .fl ds] A X Q := by
  refine calN_eq t__law_mixed rfl ?_
  walk_at "run"
  refine .new fun q hq => ?_
  walk_at "run"
  intro L hL
  have qa := w.ne hq
  have hBq := w.nil hq
  have w1 := w.put (o := .lst ds) qa
  have La := w1.ne hL
  have Lq : L ≠ q := fun e => by rw [e, put_same] at hL; cases hL
  have w2 := w1.put (o := .lst []) La
  have hBL : B L = none := by have := w1.nil hL; rwa [put_ne Lq] at this
  rw [rng_eq]
  refine lc_inv (e := fun k : Nat => D.int (0 + (k : Nat))) (fun r acc A' => ∃ rest : List D, Wel (put (put B q (.lst rest)) L (.lst acc)) a A' (m + acc.length) ∧ (acc ++ rest).Perm ds ∧ rest.length = r.length) _ [] ⟨ds, w2, .refl _, by simp⟩ (fun _ _ _ _ => holds_nil) ?_ ?_
  · rintro i r acc A' nx hi ⟨rest, wr, hp, hl⟩ hk
    have hq1 : A' q = some (.lst rest) := by rw [wr.at qa, put_ne (Ne.symm Lq), put_same]
    have hL1 : A' L = some (.lst acc) := by rw [wr.at La, put_same]
    have hlen := hp.length_eq
    rw [List.length_append] at hlen
    walk_at "run"
    refine sp_sip wr (by omega) (by rw [hl, List.length_cons]; omega) (by omega) ?_
    intro v A2 v0 v1 wv
    have hq2 : A2 q = some (.lst rest) := by rw [wv.at qa, put_ne (Ne.symm Lq), put_same]
    have hL2 : A2 L = some (.lst acc) := by rw [wv.at La, put_same]
    obtain ⟨d, hd⟩ : ∃ d, rest[v.toNat]? = some d := ⟨_, List.getElem?_eq_getElem (by omega)⟩
    walk_at "run"
    rw [hd]
    walk_at "run"
    have hz2 : acc.length < sizeLine := by rw [PySem.sizeLine_eq]; omega
    have hL3 : put A2 q (.lst (rest.eraseIdx v.toNat)) L = some (.lst acc) := by rw [put_ne Lq]; exact hL2
    walk_at "run"
    refine hk (acc ++ [d]) _ ⟨rest.eraseIdx v.toNat, ?_, ?_, ?_⟩
    · obtain ⟨x, y, z, rfl, b1, b2, b3, b4⟩ := wv
      refine ⟨x, y, z, ?_, b1, b2, b3, by simp; omega⟩
      funext b
      unfold Py.put
      by_cases e1 : b = L
      · have n1 : L ≠ a := La
        simp [e1, n1, Lq]
      · by_cases e2 : b = q
        · have n2 : q ≠ a := qa
          simp [e2, n2, Ne.symm Lq]
        · simp [e1, e2]
    · have := erase_perm hd
      rw [List.append_assoc]
      exact (List.Perm.append_left acc this).trans hp
    · have := (List.getElem?_eq_some_iff.mp hd).1
      rw [List.length_eraseIdx_of_lt this, hl, List.length_cons]
      omega
  · rintro acc A' ⟨rest, wr, hp, hl⟩
    have : rest = [] := List.length_eq_zero_iff.mp (by simpa using hl)
    subst this
    rw [List.append_nil] at hp
    obtain ⟨A2, w2, s2, n2⟩ := wr.sub La (by rw [put_ne Lq]; exact hBL)
    refine outL.keep ?_
    walk_at "run"
    have hL1 : A' L = some (.lst acc) := by rw [wr.at La, put_same]
    obtain ⟨A3, w3, s3, n3⟩ := w2.sub qa hBq
    have n4 : A3 L = none := by rw [w3.at La]; exact hBL
    refine .lst hL1 (s3.trans s2) n4 (h acc A3 hp (w3.more ?_))
    have := hp.length_eq
    omega
theorem perm_ints {ns : List Int} {es : List D} (h : es.Perm (ns.map .int)) : ∃ ms : List Int, es = ms.map .int ∧ ms.Perm ns := by
  have go : ∀ es : List D, (∀ x ∈ es, ∃ i, x = .int i) → ∃ ms : List Int, es = ms.map .int := fun es => by
    induction es with
    | nil => intro _; exact ⟨[], rfl⟩
    | cons e es ih =>
      intro h
      obtain ⟨i, rfl⟩ := h e List.mem_cons_self
      obtain ⟨ms, rfl⟩ := ih fun x hx => h x (List.mem_cons_of_mem _ hx)
      exact ⟨i :: ms, rfl⟩
  obtain ⟨ms, rfl⟩ := go es fun x hx => by
    obtain ⟨i, _, rfl⟩ := List.mem_map.mp (h.mem_iff.mp hx)
    exact ⟨i, rfl⟩
  refine ⟨ms, rfl, ?_⟩
  have g : ∀ l : List Int, (l.map D.int).filterMap (fun d => match d with | .int i => some i | _ => none) = l := fun l => by
    induction l with
    | nil => rfl
    | cons a l ih => simp [ih]
  have := h.filterMap (fun d => match d with | .int i => some i | _ => none)
  rwa [g, g] at this
theorem sp_mixedI {a : PySem.Addr} {m : Nat} {ns : List Int} (w : Wel B a A m) (hm : m < 2 ^ 59) (hz : ns.length ≤ 1000) (h : ∀ (ms : List Int) A', ms.Perm ns → Wel B a A' (m + 1000) → Q (.fl (ms.map .int)) A') : cal t (k + 2) "_law_mixed" [.ref a, .fl (ns.map .int)] A X Q := by
  refine sp_mixed w hm (by simpa using hz) fun es A' hp w' => ?_
  obtain ⟨ms, rfl, hp2⟩ := perm_ints hp
  exact h ms A' hp2 w'
theorem at_int {ns : List Int} {i : Int} (h0 : 0 ≤ i) (h1 : i < ns.length) : ∃ x, x ∈ ns ∧ L2.atI (ns.map D.int) i = some (.int x) := by
  obtain ⟨j, rfl⟩ : ∃ j : Nat, i = j := ⟨i.toNat, by omega⟩
  have hj : j < ns.length := by omega
  exact ⟨ns[j], List.getElem_mem hj, L2.atI_nat (by simp [hj])⟩
theorem at_nat {ns : List Int} {j : Nat} (h1 : j < ns.length) : L2.atI (ns.map D.int) (j : Int) = some (.int (ns[j]'h1)) := L2.atI_nat (by simp [h1])
def rng60 : List Int := (List.range 60).map fun k : Nat => (k : Int)
theorem rngD_map (n : Nat) : rngD 0 n = ((List.range n).map fun k : Nat => (k : Int)).map D.int := by
  rw [rng_eq, List.map_map]
  refine List.map_congr_left fun k _ => ?_
  show D.int (0 + (k : Int)) = D.int (k : Int)
  rw [Int.zero_add]
def rngN (n : Nat) : List Int := (List.range n).map fun k : Nat => (k : Int)
theorem rngN_nd (n : Nat) : (rngN n).Nodup := by
  unfold rngN
  rw [List.nodup_iff_pairwise_ne, List.pairwise_map]
  exact (List.nodup_iff_pairwise_ne.mp List.nodup_range).imp fun h e => h (by omega)
theorem rngN_mem {n : Nat} {i : Int} (h : i ∈ rngN n) : 0 ≤ i ∧ i < n := by
  obtain ⟨k, hk, rfl⟩ := List.mem_map.mp h
  have := List.mem_range.mp hk
  omega
theorem rngN_len (n : Nat) : (rngN n).length = n := by unfold rngN; simp
theorem rng60_nd : rng60.Nodup := by decide +kernel
theorem rng60_it : ∀ i ∈ rng60, VItem i := by
  have : ∀ i ∈ rng60, 0 ≤ i ∧ i < 60 := by decide +kernel
  exact this
theorem atI_last {xs : List D} {x : D} : L2.atI (xs ++ [x]) (-1) = some x := by
  unfold L2.atI L2.ixN
  rw [if_neg (by decide)]
  have e1 : (1 : Int) ≤ (xs.length : Int) + 1 := by omega
  have e2 : (-1 + ((xs.length : Int) + 1)).toNat = xs.length := by omega
  simp [e1, e2]
theorem sp_lineB {a : PySem.Addr} {m : Nat} {most : Int} (w : Wel B a A m) (hm : m < 2 ^ 58) (h1 : 1 ≤ most) (h2 : most ≤ 60) (h : ∀ l A', VLine l → (l.length : Int) ≤ most → Wel B a A' (m + 3000) → Q (linD l) A') : cal t (k + 3) "_law_line" [.ref a, .int most] A X Q := by
  refine calN_eq t__law_line rfl ?_
  walk_at "runz"
  refine ⟨cmulw 3 7 (by decide) (by omega) (by decide) (by decide) (by decide), ?_⟩
  walk_at "runz"
  refine sp_sip w (by omega) (by omega) (by omega) ?_
  intro r1 A1 r1a r1b w1
  obtain ⟨x, hx, e1⟩ := at_int (ns := [if most > 1 then most else 1, 60, if 2 * most + 1 < 60 then 2 * most + 1 else 60]) r1a (by simpa using r1b)
  have e1 : L2.atI [D.int (if most > 1 then most else 1), D.int 60, D.int (if 2 * most + 1 < 60 then 2 * most + 1 else 60)] r1 = some (.int x) := e1
  have hx2 : 1 ≤ x ∧ x ≤ 60 := by
    simp only [List.mem_cons, List.not_mem_nil, or_false] at hx
    rcases hx with rfl | rfl | rfl
    · split <;> omega
    · omega
    · split <;> omega
  clear hx
  obtain ⟨n, rfl⟩ : ∃ n : Nat, x = n := ⟨x.toNat, by omega⟩
  walk_at "runz"
  refine sp_sip w1 (by omega) (by omega) (by omega) ?_
  intro r2 A2 r2a r2b w2
  walk_at "runz"
  refine sp_sip w2 (by omega) (by split <;> omega) (by split <;> omega) ?_
  intro r3 A3 r3a r3b w3
  walk_at "runz"
  refine sp_sip w3 (by omega) (by omega) (by omega) ?_
  intro r4 A4 r4a r4b w4
  obtain ⟨y, hy, e2⟩ := at_int (ns := [1 + r2, most, 1 + r3]) r4a (by simpa using r4b)
  have e2 : L2.atI [D.int (1 + r2), D.int most, D.int (1 + r3)] r4 = some (.int y) := e2
  have hy2 : 1 ≤ y ∧ y ≤ most := by
    simp only [List.mem_cons, List.not_mem_nil, or_false] at hy
    rcases hy with rfl | rfl | rfl
    · omega
    · omega
    · split at r3b <;> omega
  clear hy
  walk_at "runz"
  obtain ⟨c, hc, hc2, hc3, hc4⟩ : ∃ c : Nat, (if y < (n : Int) then y else (n : Int)) = (c : Int) ∧ 1 ≤ c ∧ c ≤ n ∧ (c : Int) ≤ most := by
    refine ⟨(if y < (n : Int) then y else (n : Int)).toNat, ?_, ?_, ?_, ?_⟩ <;> split <;> omega
  rw [hc, show rngD 0 (Int.toNat (n : Int)) = (rngN n).map D.int from by rw [Int.toNat_natCast]; exact rngD_map n]
  refine ⟨by rw [List.length_map, rngN_len]; omega, ?_⟩
  walk_at "runz"
  refine sp_mixedI (ns := rngN n) w4 (by omega) (by rw [rngN_len]; omega) ?_
  intro ms A5 hp w5
  walk_at "runz"
  rw [cut_hi]
  have e3 : (ms.map D.int).take c = (ms.take c).map D.int := by simp
  rw [e3]
  walk_at "runz"
  have ml := hp.length_eq
  rw [rngN_len] at ml
  refine .id (h (ms.take c) A5 ⟨?_, (hp.nodup_iff.mpr (rngN_nd n)).sublist (List.take_sublist _ _), fun i hi => ?_⟩ (by rw [List.length_take]; omega) (w5.more (by omega)))
  · intro e
    have := congrArg List.length e
    rw [List.length_take, List.length_nil] at this
    omega
  · have := rngN_mem (hp.mem_iff.mp (List.mem_of_mem_take hi))
    exact ⟨by omega, by omega⟩
theorem sp_line {a : PySem.Addr} {m : Nat} {most : Int} (w : Wel B a A m) (hm : m < 2 ^ 58) (h1 : 1 ≤ most) (h2 : most ≤ 60) (h : ∀ l A', VLine l → Wel B a A' (m + 3000) → Q (linD l) A') : cal t (k + 3) "_law_line" [.ref a, .int most] A X Q :=
  sp_lineB w hm h1 h2 fun l A' v _ => h l A' v
end FD

namespace Pr
open PySem Py Mv
variable {t : Tb} [Has t] {k : Nat} {A : AH} {X : Dx} {Q : Dk}
theorem items_fr (P : Fr) : itemsD ((kvP P).map (·.1)) ((kvP P).map (·.2)) = P.map fun p => D.tup [.int p.1, optD p.2] := by
  unfold itemsD
  induction P with
  | nil => rfl
  | cons p P ih => simp only [List.map_cons, List.zipWith_cons_cons, ih]; rfl
theorem keyDs_fr (P : Fr) : ((kvP P).map fun p => keyD p.1) = (frK P).map D.int := by unfold frK kvP; simp only [List.map_map]; rfl
set_option maxHeartbeats 1000000 in
theorem sp_is_friends {P : Fr} (v : VFr P) (h : Q (.bl true) A) : cal t (k + 4) "is_friends" [frD P] A X Q := by
  refine calN_eq t_is_friends rfl ?_
  have hl := v.len
  have hp : 0 < P.length := List.length_pos_iff.mpr v.ne
  have el : ((kvP P).map (·.1)).length = P.length := by rw [List.length_map, kvP_len]
  walk_at "run"
  have e1 : (1 : Int) ≤ (((kvP P).map (·.1)).length : Nat) := by omega
  walk_at "run"
  have e2 : (((kvP P).map (·.1)).length : Nat) ≤ (60 : Int) := by omega
  walk_at "run"
  intro L hL
  rw [keys_fr]
  refine lc_map (e := D.int) (p := fun _ => true) (g := fun _ => .bl true) hL (frK P) (by rw [frK_len, PySem.sizeLine_eq]; omega) (fun _ => holds_nil) ?_ ?_
  · intro x hx
    exact ⟨_, fun k h => h, fun A' R h _ => h, fun _ A' R h _ => sp_is_item (v.it x hx) h⟩
  rw [filter_yes]
  walk_at "run"
  rw [all_true (by simp)]
  walk_at "run"
  rw [items_fr]
  refine for_st (β := Unit) (b := ()) (e := fun p : Int × Option Int => D.tup [.int p.1, optD p.2]) (fun _ r σ A' => A' = A ∧ σ = [some (frD P), none, none]) (fun _ _ => ()) P ⟨rfl, rfl⟩ (fun _ _ _ _ _ => holds_nil) ?_ ?_
  · rintro _ ⟨i, o⟩ r σ A' nx hp ⟨rfl, rfl⟩ hk
    cases o with
    | none =>
      walk_at "run"
      exact hk _ _ ⟨rfl, rfl⟩
    | some f =>
      obtain ⟨h1, h2⟩ := v.fr _ hp f rfl
      walk_at "run"
      refine sp_is_item (v.it f h1) ?_
      walk_at "run"
      rw [look_fr v.nd h1]
      walk_at "run"
      have e3 : decide (f = i) = false := decide_eq_false h2
      exact hk _ _ ⟨rfl, rfl⟩
  · rintro σ A' ⟨rfl, rfl⟩
    walk_at "run"
    exact .id h
theorem sp_require_friends {P : Fr} (v : VFr P) (h : Q .non A) : cal t (k + 5) "require_friends" [frD P] A X Q := by
  refine calN_eq t_require_friends rfl ?_
  walk_at "run"
  refine sp_is_friends v ?_
  walk_at "run"
  exact .id h
theorem day_map (P : Fr) : ((sortI (frK P)).filter fun i => (frO P i).isSome).map (fun i => cmdD (true, i, (frO P i).getD 0)) = (dayC P).map cmdD := by
  unfold dayC dayI
  rw [List.map_map]
  rfl
theorem sp_commands_of {P : Fr} (v : VFr P) (h : Q (scrD (dayC P)) A) : cal t (k + 1) "commands_of" [frD P] A X Q := by
  refine calN_eq t_commands_of rfl ?_
  have hl := v.len
  walk_at "run"
  rw [keyDs_fr]
  walk_at "run"
  refine ⟨by rw [frK_len]; omega, .fz ?_⟩
  walk_at "run"
  intro L hL
  refine lc_map (e := D.int) (p := fun i => (frO P i).isSome) (g := fun i => cmdD (true, i, (frO P i).getD 0)) hL (sortI (frK P)) (by rw [sortI_len, frK_len, PySem.sizeLine_eq]; omega) (fun _ => holds_nil) ?_ ?_
  · intro x hx
    have hx := sortI_mem.mp hx
    refine ⟨[some (frD P), some (.int x)], fun k h => h, fun A' R h _ => ?_, fun hp A' R h _ => ?_⟩
    · walk_at "run"
      rw [look_fr v.nd hx]
      cases e : frO P x with
      | none =>
        rw [e] at h
        walk_at "run"
        exact h
      | some f =>
        rw [e] at h
        walk_at "run"
        exact h
    · obtain ⟨f, e⟩ := Option.isSome_iff_exists.mp hp
      walk_at "run"
      rw [look_fr v.nd hx, e]
      rw [e] at h
      walk_at "run"
      exact h
  rw [day_map]
  walk_at "run"
  exact .id h
theorem sp_day_script {P : Fr} (v : VFr P) (h : Q (scrD (dayC P)) A) : cal t (k + 6) "day_script" [frD P] A X Q := by
  refine calN_eq t_day_script rfl ?_
  walk_at "run"
  refine sp_require_friends v ?_
  walk_at "run"
  refine sp_commands_of v ?_
  walk_at "run"
  exact .id h
set_option maxHeartbeats 1000000 in
theorem sp_after_days [PT.Has t] {l : List Int} {P : Fr} {n : Nat} (vl : VLine l) (v : VFr P) (hl : ∀ i ∈ frK P, i ∈ l) (hn : n ≤ 10 ^ 30) (h : Q (linD (rep (dayC P) n l)) A) : cal t (k + 7) "after_days" [linD l, frD P, .int n] A X Q := by
  have w := v.day
  have hN := w.len60
  have ef := eff_pow w.eff n
  have pl := v.len
  refine calN_eq PT.t_after_days rfl ?_
  walk_at "run"
  refine sp_require_line vl ?_
  walk_at "run"
  refine sp_require_friends v ?_
  walk_at "run"
  refine sp_require_times (by omega) (by omega) ?_
  walk_at "run"
  rw [keyDs_fr]
  refine .fz ?_
  walk_at "run"
  refine sp_require_there hl (by rw [frK_len]; omega) ?_
  walk_at "run"
  refine sp_commands_of v ?_
  walk_at "run"
  refine sp_blocks_inW w ?_
  walk_at "run"
  refine sp_powers w.eff hN (Nat.lt_of_le_of_lt hn (by decide)) ?_
  walk_at "run"
  refine sp_line_by (by have := vl.len; omega) (fun i => by have := Eff.get_len ef hN i; omega) ?_
  walk_at "run"
  exact .id h
end Pr

namespace Py
theorem eqD_bl {A : AH} {a b : Bool} : eqD A (.bl a) (.bl b) = some (a == b) := by cases a <;> cases b <;> rfl
/-- data of ints, texts, tuples -/
inductive Sm : Nat → D → Prop
  | int {n i} : Sm n (.int i)
  | str {n s} : PySem.PyData.strOk s = true → Sm n (.str s)
  | tup {n ds} : (∀ d ∈ ds, Sm n d) → ds.length ≤ 1000 → Sm (n + 1) (.tup ds)
end Py
namespace FD
open PySem Py Mv Pr
variable {t : Tb} [Has t] {k : Nat} {A B : AH} {X : Dx} {Q : Dk}
theorem sp_same : ∀ {n : Nat} {k : Nat} {A : AH} {X : Dx} {Q : Dk} {d : D}, Sm n d → Q (.bl true) A → cal t (k + n + 1) "_law_same" [d, d] A X Q := by
  intro n
  induction n with
  | zero =>
    intro k A X Q d s h
    refine calN_eq t__law_same rfl ?_
    cases s with
    | int =>
      walk_at "run"
      exact .id h
    | str =>
      walk_at "run"
      exact .id h
  | succ n ih =>
    intro k A X Q d s h
    refine calN_eq t__law_same rfl ?_
    cases s with
    | int =>
      walk_at "run"
      exact .id h
    | str =>
      walk_at "run"
      exact .id h
    | @tup _ ds hd hl =>
      walk_at "run"
      intro L hL
      rw [show Int.toNat ((ds.length : Nat) : Int) = ds.length from Int.toNat_natCast _, rng_eq]
      refine lc_map (e := fun j : Nat => D.int (0 + (j : Nat))) (p := fun _ => true) (g := fun _ => .bl true) hL (List.range ds.length) (by rw [List.length_range, PySem.sizeLine_eq]; omega) (fun _ => holds_nil) ?_ ?_
      · intro j hj
        have hj := List.mem_range.mp hj
        have e : L2.atI ds (0 + (j : Int)) = some ds[j] := by
          rw [Int.zero_add]
          exact L2.atI_nat (by simp [hj])
        refine ⟨_, fun k h => h, fun A' R h _ => h, fun _ A' R hR _ => ?_⟩
        walk_at "run"
        exact ih (hd _ (List.getElem_mem hj)) hR
      rw [filter_yes]
      walk_at "run"
      rw [all_true (by simp)]
      exact .id h
theorem sm_lin (l : List Int) (hl : l.length ≤ 1000) : Sm 1 (linD l) := .tup (fun d hd => by
  obtain ⟨i, _, rfl⟩ := List.mem_map.mp hd
  exact .int) (by rw [List.length_map]; exact hl)
theorem sm_scr (cs : List Cmd) (hl : cs.length ≤ 1000) : Sm 2 (scrD cs) := .tup (fun d hd => by
  obtain ⟨⟨b, i, o⟩, _, rfl⟩ := List.mem_map.mp hd
  refine .tup (fun d hd => ?_) (by simp)
  simp only [List.mem_cons, List.not_mem_nil, or_false] at hd
  rcases hd with rfl | rfl | rfl
  · exact .str (wd_ok b)
  · exact .int
  · exact .int) (by rw [List.length_map]; exact hl)
theorem sp_commands {P : Fr} (v : VFr P) (h : Q (scrD (dayC P)) A) : cal t (k + 1) "_law_commands" [frD P] A X Q := by
  refine calN_eq t__law_commands rfl ?_
  have hl := v.len
  walk_at "run"
  rw [keyDs_fr]
  walk_at "run"
  refine ⟨by rw [frK_len]; omega, .fz ?_⟩
  walk_at "run"
  intro L hL
  refine lc_map (e := D.int) (p := fun i => (frO P i).isSome) (g := fun i => cmdD (true, i, (frO P i).getD 0)) hL (sortI (frK P)) (by rw [sortI_len, frK_len, PySem.sizeLine_eq]; omega) (fun _ => holds_nil) ?_ ?_
  · intro x hx
    have hx := sortI_mem.mp hx
    refine ⟨[some (frD P), some (.int x)], fun k h => h, fun A' R h _ => ?_, fun hp A' R h _ => ?_⟩
    · walk_at "run"
      rw [look_fr v.nd hx]
      cases e : frO P x with
      | none =>
        rw [e] at h
        walk_at "run"
        exact h
      | some f =>
        rw [e] at h
        walk_at "run"
        exact h
    · obtain ⟨f, e⟩ := Option.isSome_iff_exists.mp hp
      walk_at "run"
      rw [look_fr v.nd hx, e]
      rw [e] at h
      walk_at "run"
      exact h
  rw [day_map]
  walk_at "run"
  exact .id h
theorem filter_erase {l : List Int} {i : Int} (nd : l.Nodup) : l.filter (fun x => decide (x ≠ i)) = l.erase i := by
  rw [nd.erase_eq_filter]
  refine List.filter_congr fun x _ => ?_
  by_cases h : x = i <;> simp [h]
theorem sp_next {l : List Int} {c : Cmd} (hz : l.length ≤ 1000) (nd : l.Nodup) (h1 : c.2.1 ∈ l) (h2 : c.2.2 ∈ l) (hn : c.2.1 ≠ c.2.2) (h : Q (linD (mvd l c)) A) : cal t (k + 1) "_law_next" [linD l, cmdD c] A X Q := by
  obtain ⟨w, i, o⟩ := c
  show cal t (k + 1) "_law_next" [linD l, .tup [.str (wd w), .int i, .int o]] A X Q
  refine calN_eq t__law_next rfl ?_
  walk_at "run"
  intro L hL
  refine lc_map (e := D.int) (p := fun x => decide (x ≠ i)) (g := D.int) hL l (by rw [PySem.sizeLine_eq]; omega) (fun _ => holds_nil) ?_ ?_
  · intro x hx
    refine ⟨[some (linD l), some (.tup [.str (wd w), .int i, .int o]), some (.str (wd w)), some (.int i), some (.int o), none, some (.int x), none], fun k h => h, fun A' R h _ => ?_, fun hp A' R h _ => ?_⟩
    · walk_at "run"
      have e : (!decide (x = i)) = decide (x ≠ i) := by by_cases c : x = i <;> simp [c]
      rw [e]
      exact h
    · walk_at "run"
      exact h
  rw [filter_erase nd]
  have v2 : o ∈ l.erase i := mem_erase_ne h2 hn
  have el : (l.erase i).length ≤ l.length := List.length_erase_le
  walk_at "run"
  rw [int_beh]
  walk_at "runz"
  rw [cut_hi]
  have hlt := List.idxOf_lt_length_of_mem v2
  refine ⟨by simp; rw [PySem.sizeLine_eq]; omega, ?_⟩
  walk_at "runz"
  rw [cut_lo]
  refine ⟨by simp; rw [PySem.sizeLine_eq]; omega, ?_⟩
  walk_at "runz"
  refine .id ?_
  have e : (((l.erase i).map D.int).take ((l.erase i).idxOf o + if w = true then 1 else 0) ++ [D.int i]) ++ ((l.erase i).map D.int).drop ((l.erase i).idxOf o + if w = true then 1 else 0) = (mvd l (w, i, o)).map D.int := by
    unfold mvd put1
    simp
  rw [e]
  exact h
theorem sp_played {l : List Int} {cs : List Cmd} (hz : l.length ≤ 1000) (nd : l.Nodup) (hv : ∀ c ∈ cs, c.2.1 ∈ l ∧ c.2.2 ∈ l ∧ c.2.1 ≠ c.2.2) (h : Q (linD (mvs l cs)) A) : cal t (k + 2) "_law_played" [linD l, scrD cs] A X Q := by
  refine calN_eq t__law_played rfl ?_
  walk_at "run"
  refine for_st (β := List Int) (b := l) (e := cmdD) (fun b r σ A' => A' = A ∧ σ = [some (linD b), none, none] ∧ b.Perm l) mvd cs ⟨rfl, rfl, .refl _⟩ (fun _ _ _ _ _ => holds_nil) ?_ ?_
  · rintro b c r σ A' nx hc ⟨rfl, rfl, hp2⟩ hk
    obtain ⟨v1, v2, v3⟩ := hv _ hc
    replace v1 := hp2.mem_iff.mpr v1
    walk_at "run"
    refine sp_next (by rw [hp2.length_eq]; exact hz) (hp2.nodup_iff.mpr nd) v1 (hp2.mem_iff.mpr v2) v3 ?_
    walk_at "run"
    exact hk _ _ ⟨rfl, rfl, (mvd_perm v1).trans hp2⟩
  · rintro σ A' ⟨rfl, rfl, _⟩
    walk_at "run"
    exact .id h
end FD

namespace FD
open PySem Py Mv Pr
variable {t : Tb} [Has t] {k : Nat} {A B : AH} {X : Dx} {Q : Dk}
theorem kvP_put {P : Fr} {i : Int} {o : Option Int} (h : i ∉ frK P) : setK (kvP P) (.inl i) (optD o) = kvP (P ++ [(i, o)]) := by
  rw [setK_new]
  · unfold kvP; simp
  · intro z
    rw [List.map_map] at z
    obtain ⟨p, hp, e⟩ := List.mem_map.mp z
    exact h (List.mem_map.mpr ⟨p, hp, Sum.inl.inj e⟩)
theorem enum_get {ds : List D} {j : Nat} {d : D} (h : (enumD ds)[j]? = some d) : ∃ x, ds[j]? = some x ∧ d = .tup [.int (j : Nat), x] := by
  unfold enumD at h
  rw [List.getElem?_mapIdx] at h
  cases e : ds[j]? with
  | none => rw [e] at h; cases h
  | some x => rw [e] at h; cases h; exact ⟨x, rfl, rfl⟩
theorem enum_len {ds : List D} : (enumD ds).length = ds.length := by unfold enumD; simp
set_option maxHeartbeats 4000000 in
theorem sp_palsB {a : PySem.Addr} {m : Nat} {most : Int} (w : Wel B a A m) (hm : m < 2 ^ 57) (h1 : 1 ≤ most) (h2 : most ≤ 60) (h : ∀ P A', VFr P → (P.length : Int) ≤ most → Wel B a A' (m + 5000) → Q (frD P) A') : cal t (k + 4) "_law_pals" [.ref a, .int most] A X Q := by
  refine calN_eq t__law_pals rfl ?_
  walk_at "run"
  refine sp_lineB w (by omega) h1 h2 ?_
  intro l A1 vl l60 w1
  walk_at "runz"
  refine sp_sip w1 (by omega) (by omega) (by omega) ?_
  intro st A2 sa sb w2
  walk_at "run"
  refine .new fun p hp => ?_
  have pa := w2.ne hp
  have hBp := w2.nil hp
  have w3 := w2.put (o := .dct (kvP [])) pa
  have ll := vl.len
  walk_at "run"
  refine for_inv (fun j σ A' => ∃ P : Fr, frK P = l.take j ∧ (∀ q ∈ P, ∀ f, q.2 = some f → f ∈ l ∧ f ≠ q.1) ∧ Wel (put B p (.dct (kvP P))) a A' (m + 3010 + 2 * j) ∧ σ = [some (.ref a), none, some (.fl (l.map .int)), some (.int st), some (.ref p), none, none, none, none]) ⟨[], rfl, (by simp), w3.more (by omega), rfl⟩ (fun _ _ _ _ _ => holds_nil) ?_ ?_
  · rintro j d σ A' nx hd ⟨P, hP, hf, wP, rfl⟩ hk
    obtain ⟨x, hx, rfl⟩ := enum_get hd
    rw [List.getElem?_map] at hx
    obtain ⟨i, hi, rfl⟩ := Option.map_eq_some_iff.mp hx
    obtain ⟨hj, hij⟩ := List.getElem?_eq_some_iff.mp hi
    have il : i ∈ l := hij ▸ List.getElem_mem hj
    have hp1 : A' p = some (.dct (kvP P)) := by rw [wP.at pa, put_same]
    have hPl : P.length = j := by rw [← frK_len, hP, List.length_take]; omega
    have hlen : (kvP P).length < sizeLine := by rw [kvP_len, PySem.sizeLine_eq]; omega
    have hiP : i ∉ frK P := by
      rw [hP]
      intro z
      have nd := vl.nd
      rw [← List.take_append_drop j l, List.nodup_append] at nd
      refine nd.2.2 i z i ?_ rfl
      rw [List.drop_eq_getElem_cons hj, hij]
      exact List.mem_cons_self
    have fin : ∀ (o : Option Int) (A'' : AH), (∀ f, o = some f → f ∈ l ∧ f ≠ i) → Wel (put B p (.dct (kvP P))) a A'' (m + 3010 + 2 * j + 2) → ∃ P' : Fr, frK P' = l.take (j + 1) ∧ (∀ q ∈ P', ∀ f, q.2 = some f → f ∈ l ∧ f ≠ q.1) ∧ Wel (put B p (.dct (kvP P'))) a (put A'' p (.dct (setK (kvP P) (.inl i) (optD o)))) (m + 3010 + 2 * (j + 1)) := fun o A'' ho hw => by
      refine ⟨P ++ [(i, o)], ?_, ?_, ?_⟩
      · rw [List.take_succ, ← hP, hi]
        unfold frK
        simp
      · intro q hq f hqf
        rcases List.mem_append.mp hq with hq | hq
        · exact hf q hq f hqf
        · cases List.mem_singleton.mp hq
          exact ho f hqf
      · rw [kvP_put hiP]
        have := hw.put (o := .dct (kvP (P ++ [(i, o)]))) pa
        rw [put_put] at this
        exact this.more (by omega)
    walk_at "run"
    intro L hL
    refine lc_map (e := D.int) (p := fun x => decide (x ≠ i)) (g := D.int) hL l (by rw [PySem.sizeLine_eq]; omega) (fun _ => holds_nil) ?_ ?_
    · intro x hx
      refine ⟨[some (.ref a), none, some (.fl (l.map .int)), some (.int st), some (.ref p), some (.int (j : Nat)), some (.int i), none, some (.int x)], fun k h => h, fun A' R h _ => ?_, fun hp A' R h _ => ?_⟩
      · walk_at "run"
        have e : (!decide (x = i)) = decide (x ≠ i) := by by_cases c : x = i <;> simp [c]
        rw [e]
        exact h
      · walk_at "run"
        exact h
    rw [filter_erase vl.nd]
    generalize hos : l.erase i = os
    have om : ∀ f ∈ os, f ∈ l ∧ f ≠ i := fun f hf => by
      rw [← hos] at hf
      exact ⟨List.mem_of_mem_erase hf, fun e => by rw [e] at hf; exact (vl.nd.mem_erase_iff.mp hf).1 rfl⟩
    have osl : os.length + 1 = l.length := by
      rw [← hos, List.length_erase_of_mem il]
      have := List.length_pos_of_mem il
      omega
    walk_at "runz"
    by_cases ho : os = []
    · rw [eqD_good (x := .fl (os.map D.int)) (y := .fl []) (n := 1) (m := 1) (.fl (GoodEs.map fun _ _ => .int)) (.fl .nil) (by decide) (by decide) true (by simp [ho])]
      walk_at "run"
      obtain ⟨P', g1, g2, g3⟩ := fin none _ (by simp) (wP.more (by omega))
      exact hk _ _ ⟨P', g1, g2, g3, rfl⟩
    · rw [eqD_good (x := .fl (os.map D.int)) (y := .fl []) (n := 1) (m := 1) (.fl (GoodEs.map fun _ _ => .int)) (.fl .nil) (by decide) (by decide) false (by simp [ho])]
      have op : 0 < os.length := List.length_pos_iff.mpr ho
      walk_at "run"
      have hosl : (os.map D.int).length = os.length := List.length_map _
      by_cases s0 : st = 0
      · walk_at "runz"
        refine ⟨by simp; rw [PySem.sizeLine_eq]; omega, ?_⟩
        walk_at "runz"
        refine sp_sip wP (by omega) (by omega) (by omega) ?_
        intro r A3 ra rb w4
        have hp3 : A3 p = some (.dct (kvP P)) := by rw [w4.at pa, put_same]
        obtain ⟨o, e1, e2⟩ : ∃ o : Option Int, L2.atI (os.map D.int ++ [D.non]) r = some (optD o) ∧ ∀ f, o = some f → f ∈ os := by
          obtain ⟨q, rfl⟩ : ∃ q : Nat, r = q := ⟨r.toNat, by omega⟩
          by_cases c : q < os.length
          · exact ⟨some os[q], L2.atI_nat (by rw [List.getElem?_append_left (by omega)]; simp [c, optD]), fun f hf => by cases hf; exact List.getElem_mem c⟩
          · refine ⟨none, L2.atI_nat ?_, by simp⟩
            have : q = os.length := by omega
            subst this
            rw [List.getElem?_append_right (by omega)]
            simp [optD]
        walk_at "run"
        obtain ⟨P', g1, g2, g3⟩ := fin o _ (fun f hf => om f (e2 f hf)) (w4.more (by omega))
        exact hk _ _ ⟨P', g1, g2, g3, rfl⟩
      walk_at "run"
      by_cases s1 : st = 1
      · walk_at "run"
        refine sp_sip wP (by omega) (by omega) (by omega) ?_
        intro r A3 ra rb w4
        have hp3 : A3 p = some (.dct (kvP P)) := by rw [w4.at pa, put_same]
        obtain ⟨f, e1, e2⟩ := at_int (ns := os) ra (by omega)
        walk_at "run"
        obtain ⟨P', g1, g2, g3⟩ := fin (some f) _ (fun f' hf => by cases hf; exact om f e1) (w4.more (by omega))
        exact hk _ _ ⟨P', g1, g2, g3, rfl⟩
      walk_at "run"
      have hll : (l.map D.int).length = l.length := List.length_map _
      -- the next one around
      have nx1 : ∀ q : Nat, q < l.length → q ≠ j → ∃ f, f ∈ l ∧ f ≠ i ∧ L2.atI (l.map D.int) (q : Int) = some (.int f) := fun q hq hne =>
        ⟨l[q], List.getElem_mem hq, fun e => hne ((List.getElem_inj vl.nd).mp (e.trans hij.symm)), at_nat hq⟩
      by_cases s2 : st = 2
      · obtain ⟨f, e1, e2, e3⟩ := nx1 ((j + 1) % l.length) (Nat.mod_lt _ (by omega)) (by
          by_cases c : j + 1 < l.length
          · rw [Nat.mod_eq_of_lt c]; omega
          · have : j + 1 = l.length := by omega
            rw [this, Nat.mod_self]; omega)
        have e3 : L2.atI (l.map D.int) (((j : Nat) + 1 : Int) % ((l.map D.int).length : Nat)) = some (.int f) := by
          rw [hll, ← e3]
          norm_cast
        walk_at "run"
        obtain ⟨P', g1, g2, g3⟩ := fin (some f) _ (fun f' hf => by cases hf; exact ⟨e1, e2⟩) (wP.more (by omega))
        exact hk _ _ ⟨P', g1, g2, g3, rfl⟩
      walk_at "run"
      by_cases s3 : st = 3
      · obtain ⟨f, e1, e2⟩ := at_int (ns := os) (i := 0) (by omega) (by omega)
        walk_at "run"
        obtain ⟨P', g1, g2, g3⟩ := fin (some f) _ (fun f' hf => by cases hf; exact om f e1) (wP.more (by omega))
        exact hk _ _ ⟨P', g1, g2, g3, rfl⟩
      walk_at "run"
      by_cases s4 : st = 4
      · walk_at "run"
        by_cases c : ((j : Nat) + 1 : Int) < ((l.map D.int).length : Nat)
        · obtain ⟨f, e1, e2, e3⟩ := nx1 (j + 1) (by omega) (by omega)
          have e3 : L2.atI (l.map D.int) ((j : Nat) + 1 : Int) = some (.int f) := e3
          walk_at "run"
          obtain ⟨P', g1, g2, g3⟩ := fin (some f) _ (fun f' hf => by cases hf; exact ⟨e1, e2⟩) (wP.more (by omega))
          exact hk _ _ ⟨P', g1, g2, g3, rfl⟩
        · obtain ⟨f, e1, e2, e3⟩ := nx1 0 (by omega) (by omega)
          have e3 : L2.atI (l.map D.int) (0 : Int) = some (.int f) := e3
          walk_at "runz"
          refine sp_sip wP (by omega) (by omega) (by omega) ?_
          intro r A3 ra rb w4
          have hp3 : A3 p = some (.dct (kvP P)) := by rw [w4.at pa, put_same]
          obtain ⟨o, q1, q2⟩ : ∃ o : Option Int, L2.atI [D.non, D.int f] r = some (optD o) ∧ ∀ g, o = some g → g = f := by
            rcases (by omega : r = 0 ∨ r = 1) with rfl | rfl
            · exact ⟨none, rfl, by simp⟩
            · exact ⟨some f, rfl, fun g hg => by cases hg; rfl⟩
          walk_at "run"
          obtain ⟨P', g1, g2, g3⟩ := fin o _ (fun f' hf => by rw [q2 f' hf]; exact ⟨e1, e2⟩) (w4.more (by omega))
          exact hk _ _ ⟨P', g1, g2, g3, rfl⟩
      walk_at "run"
      refine sp_sip wP (by omega) (by omega) (by omega) ?_
      intro r A3 ra rb w4
      have hp3 : A3 p = some (.dct (kvP P)) := by rw [w4.at pa, put_same]
      by_cases c : r = 0
      · obtain ⟨f, e1, e2⟩ : ∃ f, f ∈ os ∧ L2.atI (os.map D.int) (-1) = some (.int f) := by
          refine ⟨os.getLast ho, List.getLast_mem ho, ?_⟩
          have : os.map D.int = os.dropLast.map D.int ++ [D.int (os.getLast ho)] := by
            conv => lhs; rw [← List.dropLast_concat_getLast ho]
            simp
          rw [this]
          exact atI_last
        walk_at "run"
        obtain ⟨P', g1, g2, g3⟩ := fin (some f) _ (fun f' hf => by cases hf; exact om f e1) (w4.more (by omega))
        exact hk _ _ ⟨P', g1, g2, g3, rfl⟩
      · walk_at "run"
        obtain ⟨P', g1, g2, g3⟩ := fin none _ (by simp) (w4.more (by omega))
        exact hk _ _ ⟨P', g1, g2, g3, rfl⟩
  · rintro σ A' ⟨P, hP, hf, wP, rfl⟩
    rw [enum_len, List.length_map, List.take_length] at hP
    have hp1 : A' p = some (.dct (kvP P)) := by rw [wP.at pa, put_same]
    obtain ⟨A9, w9, s9, n9⟩ := wP.sub pa hBp
    rw [enum_len, List.length_map] at w9
    walk_at "run"
    refine .dct hp1 s9 n9 (h P A9 ⟨?_, by rw [hP]; exact vl.nd, fun i hi => vl.it i (hP ▸ hi), fun q hq f hqf => ?_⟩ (by rw [← frK_len, hP]; exact l60) (w9.more (by omega)))
    · intro e
      rw [e] at hP
      exact vl.ne hP.symm
    · rw [hP]
      exact hf q hq f hqf
theorem sp_pals {a : PySem.Addr} {m : Nat} {most : Int} (w : Wel B a A m) (hm : m < 2 ^ 57) (h1 : 1 ≤ most) (h2 : most ≤ 60) (h : ∀ P A', VFr P → Wel B a A' (m + 5000) → Q (frD P) A') : cal t (k + 4) "_law_pals" [.ref a, .int most] A X Q :=
  sp_palsB w hm h1 h2 fun P A' v _ => h P A' v
end FD

namespace Pr
open PySem Py Mv
variable {t : Tb} [Has t] {k : Nat} {A : AH} {X : Dx} {Q : Dk}
theorem sp_days_needed {P : Fr} (v : VFr P) (h : ∀ T, Settled (named (dayC P)) (blocks (dayC P)) T → Q (.int (T : Nat)) A) : cal t (k + 6) "days_needed" [frD P] A X Q := by
  have w := v.day
  refine calN_eq t_days_needed rfl ?_
  walk_at "run"
  refine sp_require_friends v ?_
  walk_at "run"
  refine sp_commands_of v ?_
  walk_at "run"
  refine sp_blocks_inW w ?_
  walk_at "run"
  refine sp_settled_in w.eff w.len60 sort_named ?_
  intro T hT
  walk_at "run"
  exact .id (h T hT)
theorem sp_day_period {P : Fr} (v : VFr P) (h : ∀ R, RingsOk (named (dayC P)) (blocks (dayC P)) R → Q (.int (lcmN (R.map List.length) : Nat)) A) : cal t (k + 6) "day_period" [frD P] A X Q := by
  have w := v.day
  refine calN_eq t_day_period rfl ?_
  walk_at "run"
  refine sp_require_friends v ?_
  walk_at "run"
  refine sp_commands_of v ?_
  walk_at "run"
  refine sp_blocks_inW w ?_
  walk_at "run"
  refine sp_rings_in w.eff w.len60 sort_named ?_
  intro R hR hl
  walk_at "run"
  intro L hL
  refine lc_map (e := fun r : List Int => D.fl (r.map .int)) (p := fun _ => true) (g := fun r => .int (r.length : Nat)) hL R (by rw [PySem.sizeLine_eq]; omega) (fun _ => holds_nil) ?_ ?_
  · intro r hr
    refine ⟨_, fun k h => h, fun A' R h _ => h, fun _ A' R h _ => ?_⟩
    walk_at "run"
    rw [List.length_map]
    exact h
  rw [List.filter_eq_self.mpr fun _ _ => rfl, show (R.map fun r => D.int (r.length : Nat)) = (R.map List.length).map fun n : Nat => D.int n from by rw [List.map_map]; rfl]
  walk_at "run"
  refine sp_lcm_of (lens_ok w.eff w.len60 hR) (by rw [List.length_map]; exact hl) ?_
  walk_at "run"
  exact .id (h R hR)
theorem hereS_snoc (f : Int → Option Int) (i : Int) : ∀ (n : Nat) (o : Option Int), hereS f i (n + 1) o = (match hereS f i n o with | none => none | some x => if x ≠ i then f x else some x)
  | 0, none => rfl
  | 0, some x => rfl
  | n + 1, none => by
    show hereS f i (n + 1) none = _
    rw [hereS_none]
  | n + 1, some x => by
    show hereS f i (n + 1) (if x ≠ i then f x else some x) = _
    rw [hereS_snoc f i n]
    rfl
theorem hereS_in {P : Fr} (v : VFr P) (i : Int) (n : Nat) : ∀ {o : Option Int}, (∀ x, o = some x → x ∈ frK P) → ∀ x, hereS (frO P) i n o = some x → x ∈ frK P := by
  induction n with
  | zero => intro o ho x hx; exact ho x hx
  | succ n ih =>
    intro o ho x hx
    rw [hereS_snoc] at hx
    cases q : hereS (frO P) i n o with
    | none => rw [q] at hx; cases hx
    | some y =>
      rw [q] at hx
      have hy := ih ho y q
      by_cases c : y = i
      · have : some y = some x := by simpa [c] using hx
        cases this
        exact hy
      · have : frO P y = some x := by simpa [c] using hx
        exact (v.fr_of this).2.1
set_option maxHeartbeats 4000000 in
theorem sp_count_final {P : Fr} (v : VFr P) (h : Q (.int (cntN P : Nat)) A) : cal t (k + 6) "count_final" [frD P] A X Q := by
  have pl := v.len
  refine calN_eq t_count_final rfl ?_
  walk_at "run"
  refine sp_require_friends v ?_
  walk_at "run"
  rw [items_fr]
  refine for_st (β := Nat) (b := 0) (e := fun p : Int × Option Int => D.tup [.int p.1, optD p.2]) (fun m r σ A' => A' = A ∧ σ = [some (frD P), some (.int m), none, none, none, none]) (fun m p => if cntB P p then m + 1 else m) P ⟨rfl, rfl⟩ (fun _ _ _ _ _ => holds_nil) ?_ ?_
  · rintro m ⟨i, o⟩ r σ A' nx hp ⟨rfl, rfl⟩ hk
    have hi : i ∈ frK P := List.mem_map.mpr ⟨_, hp, rfl⟩
    have ho : ∀ x, o = some x → x ∈ frK P := fun x e => (v.fr _ hp x e).1
    have hfo : frO P i = o := frO_at v.nd hp
    show bindT _ (.tup [.int i, optD o]) _ _
    walk_at "run"
    rw [show ((kvP P).map (·.1)).length = P.length from by rw [List.length_map, kvP_len]]
    refine ⟨by omega, ?_⟩
    walk_at "run"
    rw [show Int.toNat (P.length : Int) = P.length from rfl]
    refine for_rng (fun j σ A2 => A2 = A' ∧ σ = [some (frD P), some (.int m), some (.int i), some (optD o), some (optD (hereS (frO P) i j o)), none]) ⟨rfl, rfl⟩ ?_ ?_
    · rintro j σ A2 nx2 hj ⟨rfl, rfl⟩ hk2
      have hin := hereS_in v i j ho
      cases q : hereS (frO P) i j o with
      | none =>
        walk_at "run"
        refine hk2 _ _ ⟨rfl, ?_⟩
        rw [hereS_snoc, q]
        rfl
      | some x =>
        walk_at "run"
        by_cases c : x = i
        · subst c
          walk_at "run"
          refine hk2 _ _ ⟨rfl, ?_⟩
          rw [hereS_snoc, q]
          simp [wipN]
        · walk_at "run"
          rw [look_fr v.nd (hin x q)]
          walk_at "run"
          refine hk2 _ _ ⟨rfl, ?_⟩
          rw [hereS_snoc, q]
          simp [wipN, c]
    · rintro σ A2 ⟨rfl, rfl⟩
      cases o with
      | none =>
        walk_at "run"
        exact hk _ _ ⟨rfl, rfl⟩
      | some b =>
        walk_at "run"
        have fin : ∀ c : Bool, cntB P (i, some b) = c → nx [some (frD P), some (.int ((if c then m + 1 else m : Nat) : Int)), some (.int i), some (.int b), some (optD (hereS (frO P) i P.length (some b))), none] A2 := fun c hc => by
          refine hk _ _ ⟨rfl, ?_⟩
          rw [hc]
          rfl
        cases q : hereS (frO P) i P.length (some b) with
        | none =>
          have e : cntB P (i, some b) = false := by unfold cntB; simp [q]
          have := fin _ e
          rw [q] at this
          walk_at "run"
          exact this
        | some x =>
          by_cases c : x = i
          · subst c
            by_cases c2 : x < b
            · have e : cntB P (x, some b) = true := by unfold cntB; simp [q, c2]
              have := fin _ e
              rw [q] at this
              walk_at "run"
              exact this
            · have e : cntB P (x, some b) = false := by unfold cntB; simp [q, c2]
              have := fin _ e
              rw [q] at this
              walk_at "run"
              exact this
          · have e : cntB P (i, some b) = false := by unfold cntB; simp [q, c]
            have := fin _ e
            rw [q] at this
            walk_at "run"
            exact this
  · rintro σ A' ⟨rfl, rfl⟩
    have : ∀ (l : Fr) (a : Nat), l.foldl (fun m p => if cntB P p then m + 1 else m) a = a + (l.filter (cntB P)).length := fun l => by
      induction l with
      | nil => intro a; rfl
      | cons p l ih =>
        intro a
        rw [List.foldl_cons, ih, List.filter_cons]
        split <;> simp <;> omega
    rw [this, Nat.zero_add]
    walk_at "run"
    exact .id h
end Pr

/-! Friends with one more, friends shifted by one: plain. -/
namespace Mv
open PySem Py Pr
variable {P : Fr} {x : Int}
/-! ### one more without a friend -/
theorem more_keys (P : Fr) (x : Int) : frK (P ++ [(x, none)]) = frK P ++ [x] := by unfold frK; simp
theorem frO_none {i : Int} (h : i ∉ frK P) : frO P i = none := by
  have := look_no h
  rw [look_kvP] at this
  unfold frO
  cases q : P.lookup i with
  | none => rfl
  | some o => rw [q] at this; cases this
theorem VFr.more (v : VFr P) (hx : x ∉ frK P) (ix : VItem x) : VFr (P ++ [(x, none)]) := by
  refine ⟨by simp, ?_, fun i hi => ?_, fun p hp f hf => ?_⟩
  · rw [more_keys, List.nodup_append]
    exact ⟨v.nd, by simp, fun a ha b hb e => by
      cases List.mem_singleton.mp hb
      exact hx (e ▸ ha)⟩
  · rw [more_keys] at hi
    rcases List.mem_append.mp hi with hi | hi
    · exact v.it i hi
    · cases List.mem_singleton.mp hi; exact ix
  · rw [more_keys]
    rcases List.mem_append.mp hp with hp | hp
    · obtain ⟨h1, h2⟩ := v.fr p hp f hf
      exact ⟨List.mem_append_left _ h1, h2⟩
    · cases List.mem_singleton.mp hp
      cases hf
theorem VFr.more_frO (v : VFr P) (hx : x ∉ frK P) (ix : VItem x) : frO (P ++ [(x, none)]) = frO P := by
  funext i
  have v' := v.more hx ix
  by_cases hi : i ∈ frK P
  · obtain ⟨o, ho⟩ := fr_mem.mp hi
    rw [frO_at v.nd ho, frO_at v'.nd (List.mem_append_left _ ho)]
  · rw [frO_none hi]
    by_cases e : i = x
    · subst e
      exact frO_at v'.nd (by simp)
    · exact frO_none (by rw [more_keys, List.mem_append, List.mem_singleton]; exact fun z => z.elim hi e)
theorem sorted_eq {l m : List Int} (h : l.Perm m) (hl : l.Pairwise (· ≤ ·)) (hm : m.Pairwise (· ≤ ·)) : l = m :=
  h.eq_of_pairwise (le := fun a b : Int => a ≤ b) (fun a b _ _ h1 h2 => by omega) hl hm
theorem VFr.more_day (v : VFr P) (hx : x ∉ frK P) (ix : VItem x) : dayC (P ++ [(x, none)]) = dayC P := by
  have e : dayI (P ++ [(x, none)]) = dayI P := by
    unfold dayI
    rw [v.more_frO hx ix, more_keys]
    refine sorted_eq ?_ (List.Pairwise.sublist List.filter_sublist sortI_le) (List.Pairwise.sublist List.filter_sublist sortI_le)
    refine (sortI_perm.filter _).trans (List.Perm.trans ?_ (sortI_perm.filter _).symm)
    rw [List.filter_append, List.filter_cons, frO_none hx]
    simp
  unfold dayC
  rw [e, v.more_frO hx ix]
open Classical in
theorem VFr.more_cnt (v : VFr P) (hx : x ∉ frK P) (ix : VItem x) : cntN (P ++ [(x, none)]) = cntN P + 1 := by
  rw [(v.more hx ix).cntN_eq, v.cntN_eq, more_keys, List.filter_append, List.length_append]
  have e : CntQ (P ++ [(x, none)]) = CntQ P := by
    funext a
    unfold CntQ
    rw [v.more_frO hx ix]
  rw [e]
  congr 1
  rw [List.filter_cons, if_pos (decide_eq_true (show CntQ P x from .inl (frO_none hx)))]
  rfl
theorem rep_off {cs : List Cmd} (v : WScr cs) (n : Nat) (l : List Int) (hx : x ∉ named cs) : rep cs n (l ++ [x]) = rep cs n l ++ [x] := by
  unfold rep
  rw [subst_app]
  congr 1
  unfold subst
  rw [List.map_cons, List.map_nil, List.flatten_cons, List.flatten_nil, List.append_nil, getB_not]
  rw [(eff_pow v.eff n).ks]
  exact hx
/-! ### shifted by one -/
abbrev sh (i : Int) : Int := i + 1
abbrev shC (c : Cmd) : Cmd := (c.1, c.2.1 + 1, c.2.2 + 1)
def shP (P : Fr) : Fr := P.map fun p => (p.1 + 1, p.2.map sh)
theorem shP_keys (P : Fr) : frK (shP P) = (frK P).map sh := by unfold frK shP; rw [List.map_map, List.map_map]; rfl
theorem VFr.shift (v : VFr P) (h : ∀ i ∈ frK P, i < 59) : VFr (shP P) := by
  refine ⟨fun e => v.ne (List.map_eq_nil_iff.mp e), ?_, fun i hi => ?_, fun p hp f hf => ?_⟩
  · rw [shP_keys, List.nodup_iff_pairwise_ne, List.pairwise_map]
    exact (List.nodup_iff_pairwise_ne.mp v.nd).imp fun n e => n (by unfold sh at e; omega)
  · rw [shP_keys] at hi
    obtain ⟨j, hj, rfl⟩ := List.mem_map.mp hi
    have h1 := v.it j hj
    have h2 := h j hj
    unfold VItem at *
    unfold sh
    omega
  · obtain ⟨q, hq, rfl⟩ := List.mem_map.mp hp
    obtain ⟨i, o⟩ := q
    cases o with
    | none => cases hf
    | some g =>
      cases hf
      obtain ⟨h1, h2⟩ := v.fr _ hq g rfl
      refine ⟨by rw [shP_keys]; exact List.mem_map.mpr ⟨g, h1, rfl⟩, fun e => h2 ?_⟩
      have e : g + 1 = i + 1 := e
      show g = i
      omega
theorem VFr.sh_frO (v : VFr P) (h : ∀ i ∈ frK P, i < 59) {i : Int} (hi : i ∈ frK P) : frO (shP P) (sh i) = (frO P i).map sh := by
  obtain ⟨o, ho⟩ := fr_mem.mp hi
  rw [frO_at v.nd ho]
  exact frO_at (v.shift h).nd (List.mem_map.mpr ⟨_, ho, rfl⟩)
theorem sortI_map (l : List Int) : sortI (l.map sh) = (sortI l).map sh := by
  refine sorted_eq (sortI_perm.trans (sortI_perm.map sh).symm) sortI_le ?_
  rw [List.pairwise_map]
  exact (sortI_le (l := l)).imp fun h => by unfold sh; omega
theorem VFr.sh_day (v : VFr P) (h : ∀ i ∈ frK P, i < 59) : dayC (shP P) = (dayC P).map shC := by
  have e : dayI (shP P) = (dayI P).map sh := by
    unfold dayI
    rw [shP_keys, sortI_map, List.filter_map]
    congr 1
    refine List.filter_congr fun i hi => ?_
    show (frO (shP P) (sh i)).isSome = _
    rw [v.sh_frO h (sortI_mem.mp hi), Option.isSome_map]
  unfold dayC
  rw [e, List.map_map, List.map_map]
  refine List.map_congr_left fun i hi => ?_
  obtain ⟨h1, f, hf⟩ := mem_dayI hi
  show ((true, sh i, (frO (shP P) (sh i)).getD 0) : Cmd) = shC (true, i, (frO P i).getD 0)
  rw [v.sh_frO h h1, hf]
  rfl
theorem idx_sh : ∀ (l : List Int) (i : Int), (l.map sh).idxOf (sh i) = l.idxOf i
  | [], _ => rfl
  | a :: l, i => by
    rw [List.map_cons, List.idxOf_cons, List.idxOf_cons, idx_sh l i]
    have : (sh a == sh i) = (a == i) := by
      unfold sh
      rw [Bool.eq_iff_iff]
      simp
    rw [this]
theorem erase_sh : ∀ (l : List Int) (i : Int), (l.map sh).erase (sh i) = (l.erase i).map sh
  | [], _ => rfl
  | a :: l, i => by
    rw [List.map_cons, List.erase_cons, List.erase_cons]
    have : (sh a == sh i) = (a == i) := by
      unfold sh
      rw [Bool.eq_iff_iff]
      simp
    rw [this, erase_sh l i]
    by_cases c : a == i
    · rw [if_pos c, if_pos c]
    · rw [if_neg c, if_neg c, List.map_cons]
theorem mvd_sh (l : List Int) (c : Cmd) : mvd (l.map sh) (shC c) = (mvd l c).map sh := by
  unfold mvd put1
  show List.take (((l.map sh).erase (sh c.2.1)).idxOf (sh c.2.2) + _) ((l.map sh).erase (sh c.2.1)) ++ [sh c.2.1] ++ List.drop (((l.map sh).erase (sh c.2.1)).idxOf (sh c.2.2) + _) ((l.map sh).erase (sh c.2.1)) = _
  rw [erase_sh, idx_sh, List.map_append, List.map_append, List.map_take, List.map_drop]
  rfl
theorem mvs_sh : ∀ (cs : List Cmd) (l : List Int), mvs (l.map sh) (cs.map shC) = (mvs l cs).map sh
  | [], _ => rfl
  | c :: cs, l => by
    show mvs (mvd (l.map sh) (shC c)) (cs.map shC) = (mvs (mvd l c) cs).map sh
    rw [mvd_sh, mvs_sh cs]
theorem named_sh {cs : List Cmd} {i : Int} : i ∈ named (cs.map shC) ↔ ∃ j ∈ named cs, sh j = i := by
  constructor
  · intro h
    obtain ⟨l, hl, hi⟩ := List.mem_flatten.mp (mem_named.mp h)
    obtain ⟨c', hc', rfl⟩ := List.mem_map.mp hl
    obtain ⟨c, hc, rfl⟩ := List.mem_map.mp hc'
    have n := VScr.in_named hc
    simp only [List.mem_cons, List.not_mem_nil, or_false] at hi
    rcases hi with rfl | rfl
    · exact ⟨_, n.1, rfl⟩
    · exact ⟨_, n.2, rfl⟩
  · rintro ⟨j, hj, rfl⟩
    obtain ⟨l, hl, hi⟩ := List.mem_flatten.mp (mem_named.mp hj)
    obtain ⟨c, hc, rfl⟩ := List.mem_map.mp hl
    have n := VScr.in_named (List.mem_map.mpr ⟨c, hc, rfl⟩ : shC c ∈ cs.map shC)
    simp only [List.mem_cons, List.not_mem_nil, or_false] at hi
    rcases hi with rfl | rfl
    · exact n.1
    · exact n.2
theorem rep_sh {cs : List Cmd} {l : List Int} (w : WScr cs) (w' : WScr (cs.map shC)) (nd : l.Nodup) (hl : ∀ i ∈ named cs, i ∈ l) : ∀ n, rep (cs.map shC) n (l.map sh) = (rep cs n l).map sh
  | 0 => by rw [rep_zero, rep_zero]
  | n + 1 => by
    have nd' : (l.map sh).Nodup := by
      rw [List.nodup_iff_pairwise_ne, List.pairwise_map]
      exact (List.nodup_iff_pairwise_ne.mp nd).imp fun n e => n (by unfold sh at e; omega)
    rw [rep_succW w' nd' (fun i hi => by
      obtain ⟨j, hj, rfl⟩ := named_sh.mp hi
      exact List.mem_map.mpr ⟨j, hl j hj, rfl⟩), rep_succW w nd hl, rep_sh w w' nd hl n, mvs_sh]
/-! ### counts -/
theorem VFr.cnt_le (P : Fr) : cntN P ≤ P.length := List.length_filter_le _ _
theorem VFr.cnt_final (v : VFr P) : cntN P = (ringI (named (dayC P)) (blocks (dayC P))).length + ((frK P).filter fun i => decide (i ∉ named (dayC P))).length := by
  rw [v.cntN_eq, v.count]
theorem VFr.cnt_pos (v : VFr P) : 1 ≤ cntN P := by
  rw [v.cnt_final]
  have e := v.day.eff
  obtain ⟨p, hp⟩ := List.exists_mem_of_ne_nil P v.ne
  have hi : p.1 ∈ frK P := List.mem_map.mpr ⟨p, hp, rfl⟩
  by_cases c : p.1 ∈ named (dayC P)
  · have := List.length_pos_of_mem (e.mem_ring.mpr ⟨p.1, c, rfl⟩)
    omega
  · have := List.length_pos_of_mem (List.mem_filter (p := fun i => decide (i ∉ named (dayC P))) |>.mpr ⟨hi, decide_eq_true c⟩)
    omega
theorem VFr.named_len (v : VFr P) : (named (dayC P)).length ≤ P.length := by
  have := len_of_sub named_nd v.named_in
  rwa [frK_len] at this
/-- a day without commands -/
theorem VFr.idle (v : VFr P) (h : dayC P = []) : cntN P = P.length ∧ (∀ T, Settled (named (dayC P)) (blocks (dayC P)) T → T = 0) ∧ ∀ R, RingsOk (named (dayC P)) (blocks (dayC P)) R → lcmN (R.map List.length) = 1 := by
  have hn : named (dayC P) = [] := by rw [h]; unfold named allN; simp [ddI, sortI]
  have hr : ∀ x, x ∉ ringI (named (dayC P)) (blocks (dayC P)) := fun x hx => by
    have := v.day.eff.ring_sub hx
    rw [hn] at this
    cases this
  refine ⟨?_, fun T hT => Nat.le_zero.mp (hT.min 0 fun i hi => ?_), fun R hR => ?_⟩
  · rw [v.cnt_final, List.eq_nil_iff_forall_not_mem.mpr hr, hn, List.filter_eq_self.mpr fun _ _ => by simp, frK_len]
    simp
  · rw [hn] at hi
    cases hi
  · cases R with
    | nil => rfl
    | cons r R =>
      obtain ⟨x, hx⟩ := List.exists_mem_of_ne_nil r (hR.ok r List.mem_cons_self).ne
      exact absurd ((hR.mem x).mp ⟨r, List.mem_cons_self, hx⟩) (hr x)
end Mv

namespace FD
open PySem Py Mv Pr
variable {t : Tb} [Has t] [Pr.Has t] {k : Nat} {A : AH} {X : Dx} {Q : Dk}
/-- a row of items, as a list or a tuple -/
def rowD (b : Bool) (l : List Int) : D := if b then .fl (l.map .int) else linD l
theorem forR_src {G : Gd} {tg : Tg} {ws : List Nat} {tb : DEnds → DSt → AH → Prop} {Z : DEnds} {ds es : List D} {σ : DSt} {A : AH} (e : ds = es) (h : forR G tg ws tb Z es σ A) : forR G tg ws tb Z ds σ A := e ▸ h
theorem fold_row (f : List Int → List Int) : ∀ (B d : Bl), B.foldl (fun d p => d ++ [(p.1, f p.2)]) d = d ++ B.map fun p => (p.1, f p.2)
  | [], d => by simp
  | p :: B, d => by rw [List.foldl_cons, fold_row f B]; simp
/-- one item out, put in again next to the other -/
theorem stepP_nd {c : Cmd} {p : List Int} (nd : p.Nodup) : stepP c p = if c.2.2 ∈ p.erase c.2.1 then put1 c.1 c.2.1 c.2.2 (p.erase c.2.1) else p.erase c.2.1 := by
  unfold stepP
  by_cases h : c.2.1 ∈ p
  · simp only [h, if_true]
  · have e : p.erase c.2.1 = p := List.erase_of_not_mem h
    simp only [h, if_false, e]
theorem sp_pieces_l {cs : List Cmd} {l : List Int} (nd : l.Nodup) (hl : l.length ≤ 60) (hz : cs.length ≤ 1000) (hc : ∀ c ∈ cs, c.2.1 ∈ l ∧ c.2.2 ∈ l ∧ c.2.1 ≠ c.2.2) (h : Q (blkD (cs.foldl stepB (startB l))) A) : cal t (k + 1) "_law_pieces" [scrD cs, .fl (l.map .int)] A X Q := by
  refine calN_eq t__law_pieces rfl ?_
  walk_at "run"
  refine .new fun p hp => ?_
  walk_at "run"
  refine for_st (β := List Int) (b := []) (e := D.int) (fun d r σ A' => A' = put A p (.dct (kvB (startB d))) ∧ σ = [some (scrD cs), some (.fl (l.map .int)), some (.ref p), none, none, none, none, none, none, none] ∧ d ++ r = l) (fun d i => d ++ [i]) l ⟨rfl, rfl, rfl⟩ (fun _ _ _ _ _ => holds_nil) ?_ ?_
  · rintro d i r σ A' nx hi ⟨rfl, rfl, hd⟩ hk
    walk_at "run"
    have dl : d.length ≤ 60 := by have : d.length ≤ l.length := by rw [← hd]; simp
                                  omega
    refine ⟨by unfold startB; simp only [List.length_map]; rw [PySem.sizeLine_eq]; omega, ?_⟩
    refine hk _ _ ⟨?_, rfl, by simpa using hd⟩
    rw [put_put]
    have hn : i ∉ keys (startB d) := fun z => by
      rw [keys_start] at z
      rw [← hd, List.nodup_append] at nd
      exact nd.2.2 i z i (by simp) rfl
    show put A p (.dct (setK (kvB (startB d)) (.inl i) (linD [i]))) = _
    rw [kv_put hn]
    unfold startB
    simp
  rintro σ A' ⟨rfl, rfl, _⟩
  have e0 : l.foldl (fun d i => d ++ [i]) [] = l := by
    have : ∀ (l d : List Int), l.foldl (fun d i => d ++ [i]) d = d ++ l := fun l => by
      induction l with
      | nil => intro d; simp
      | cons x l ih => intro d; rw [List.foldl_cons, ih]; simp
    simpa using this l []
  rw [e0]
  walk_at "run"
  refine for_st (β := Bl) (e := cmdD) (b := startB l) (fun B r σ A' => A' = put A p (.dct (kvB B)) ∧ σ = [none, some (.fl (l.map .int)), some (.ref p), none, none, none, none, none, none, none] ∧ Eff l B) stepB cs ⟨rfl, rfl, eff_start nd⟩ (fun _ _ _ _ _ => holds_nil) ?_ ?_
  · rintro B ⟨w, i, o⟩ r σ A' nx hcm ⟨rfl, rfl, e⟩ hk
    obtain ⟨c1, c2, c3⟩ := hc _ hcm
    show bindT _ (.tup [.str (wd w), .int i, .int o]) _ _
    walk_at "runz"
    have el : l.map D.int = B.map fun p : Int × List Int => D.int p.1 := by
      have := e.ks
      rw [← this]
      unfold keys
      rw [List.map_map]
      rfl
    refine forR_src el ?_
    refine for_st (β := Bl) (b := []) (e := fun p : Int × List Int => D.int p.1) (fun d r' σ A' => A' = put A p (.dct (kvB (d ++ r'))) ∧ σ = [none, some (.fl (l.map .int)), some (.ref p), none, some (.str (wd w)), some (.int i), some (.int o), none, none, none] ∧ keys (d ++ r') = l) (fun d p => d ++ [(p.1, stepP (w, i, o) p.2)]) B ⟨rfl, rfl, e.ks⟩ (fun _ _ _ _ _ => holds_nil) ?_ ?_
    · rintro d ⟨key, row⟩ r' σ A' nx2 hp2 ⟨rfl, rfl, kk⟩ hk2
      have nd2 : (keys (d ++ (key, row) :: r')).Nodup := by rw [kk]; exact nd
      have ek : lookK (kvB (d ++ (key, row) :: r')) (.inl key) = some (linD row) := by
        rw [lookK_kvB, look_at (p := (key, row)) nd2 (by simp)]
        rfl
      have hr : row.length ≤ 60 := Eff.row_len e hl _ hp2
      have ndr : row.Nodup := by
        have := e.get_nd (e.key hp2)
        rw [e.get_at hp2] at this
        exact this
      walk_at "run"
      rw [ek]
      walk_at "run"
      intro L hL
      refine lc_map (e := D.int) (p := fun x => decide (x ≠ i)) (g := D.int) hL row (by rw [PySem.sizeLine_eq]; omega) (fun _ => holds_nil) ?_ ?_
      · intro x hx
        refine ⟨[none, some (.fl (l.map .int)), some (.ref p), some (.int key), some (.str (wd w)), some (.int i), some (.int o), none, some (.int x), none], fun k h => h, fun A' R h _ => ?_, fun hp A' R h _ => ?_⟩
        · walk_at "run"
          have e : (!decide (x = i)) = decide (x ≠ i) := by by_cases c : x = i <;> simp [c]
          rw [e]
          exact h
        · walk_at "run"
          exact h
      rw [filter_erase ndr]
      have ele : (row.erase i).length ≤ row.length := List.length_erase_le
      have nd3 : ∀ x : List Int, keys (d ++ [(key, x)] ++ r') = keys (d ++ (key, row) :: r') := fun x => by simp [keys]
      have hlen : (kvB (d ++ (key, row) :: r')).length < sizeLine := by
        have h1 : (keys (d ++ (key, row) :: r')).length ≤ 60 := by rw [kk]; exact hl
        have h2 : (kvB (d ++ (key, row) :: r')).length = (keys (d ++ (key, row) :: r')).length := by unfold keys; rw [List.length_map, List.length_map]
        rw [h2, PySem.sizeLine_eq]
        omega
      walk_at "run"
      refine ⟨flat_ints, ?_⟩
      rw [inF_int]
      by_cases hi : o ∈ row.erase i
      · have hlt := List.idxOf_lt_length_of_mem hi
        walk_at "run"
        rw [int_beh]
        walk_at "runz"
        rw [cut_hi]
        refine ⟨by simp; rw [PySem.sizeLine_eq]; omega, ?_⟩
        walk_at "runz"
        rw [cut_lo]
        refine ⟨by simp; rw [PySem.sizeLine_eq]; omega, ?_⟩
        walk_at "runz"
        have e4 : (((row.erase i).map D.int).take ((row.erase i).idxOf o + if w = true then 1 else 0) ++ [D.int i]) ++ ((row.erase i).map D.int).drop ((row.erase i).idxOf o + if w = true then 1 else 0) = (stepP (w, i, o) row).map D.int := by
          rw [stepP_nd ndr]
          simp only [hi, if_true]
          unfold put1
          simp
        rw [e4]
        refine hk2 _ _ ⟨?_, rfl, ?_⟩
        · rw [put_put]
          show put A p (.dct (setK _ (.inl key) (linD (stepP (w, i, o) row)))) = _
          rw [kv_set nd2]
          simp
        · rw [nd3]; exact kk
      · walk_at "run"
        refine hk2 _ _ ⟨?_, rfl, ?_⟩
        · rw [put_put]
          show put A p (.dct (setK _ (.inl key) (linD (row.erase i)))) = _
          rw [kv_set nd2, stepP_nd ndr]
          simp [hi]
        · rw [nd3]; exact kk
    rintro σ A' ⟨rfl, rfl, _⟩
    rw [fold_row (stepP (w, i, o)), List.nil_append, List.append_nil, ← stepB_map]
    walk_at "run"
    exact hk _ _ ⟨rfl, rfl, e.step c1 c2 c3⟩
  rintro σ A' ⟨rfl, rfl, _⟩
  walk_at "run"
  exact .dct put_same (Sub.fresh hp) hp h
theorem sp_pieces_t {cs : List Cmd} {l : List Int} (nd : l.Nodup) (hl : l.length ≤ 60) (hz : cs.length ≤ 1000) (hc : ∀ c ∈ cs, c.2.1 ∈ l ∧ c.2.2 ∈ l ∧ c.2.1 ≠ c.2.2) (h : Q (blkD (cs.foldl stepB (startB l))) A) : cal t (k + 1) "_law_pieces" [scrD cs, linD l] A X Q := by
  refine calN_eq t__law_pieces rfl ?_
  walk_at "run"
  refine .new fun p hp => ?_
  walk_at "run"
  refine for_st (β := List Int) (b := []) (e := D.int) (fun d r σ A' => A' = put A p (.dct (kvB (startB d))) ∧ σ = [some (scrD cs), some (linD l), some (.ref p), none, none, none, none, none, none, none] ∧ d ++ r = l) (fun d i => d ++ [i]) l ⟨rfl, rfl, rfl⟩ (fun _ _ _ _ _ => holds_nil) ?_ ?_
  · rintro d i r σ A' nx hi ⟨rfl, rfl, hd⟩ hk
    walk_at "run"
    have dl : d.length ≤ 60 := by have : d.length ≤ l.length := by rw [← hd]; simp
                                  omega
    refine ⟨by unfold startB; simp only [List.length_map]; rw [PySem.sizeLine_eq]; omega, ?_⟩
    refine hk _ _ ⟨?_, rfl, by simpa using hd⟩
    rw [put_put]
    have hn : i ∉ keys (startB d) := fun z => by
      rw [keys_start] at z
      rw [← hd, List.nodup_append] at nd
      exact nd.2.2 i z i (by simp) rfl
    show put A p (.dct (setK (kvB (startB d)) (.inl i) (linD [i]))) = _
    rw [kv_put hn]
    unfold startB
    simp
  rintro σ A' ⟨rfl, rfl, _⟩
  have e0 : l.foldl (fun d i => d ++ [i]) [] = l := by
    have : ∀ (l d : List Int), l.foldl (fun d i => d ++ [i]) d = d ++ l := fun l => by
      induction l with
      | nil => intro d; simp
      | cons x l ih => intro d; rw [List.foldl_cons, ih]; simp
    simpa using this l []
  rw [e0]
  walk_at "run"
  refine for_st (β := Bl) (e := cmdD) (b := startB l) (fun B r σ A' => A' = put A p (.dct (kvB B)) ∧ σ = [none, some (linD l), some (.ref p), none, none, none, none, none, none, none] ∧ Eff l B) stepB cs ⟨rfl, rfl, eff_start nd⟩ (fun _ _ _ _ _ => holds_nil) ?_ ?_
  · rintro B ⟨w, i, o⟩ r σ A' nx hcm ⟨rfl, rfl, e⟩ hk
    obtain ⟨c1, c2, c3⟩ := hc _ hcm
    show bindT _ (.tup [.str (wd w), .int i, .int o]) _ _
    walk_at "runz"
    have el : l.map D.int = B.map fun p : Int × List Int => D.int p.1 := by
      have := e.ks
      rw [← this]
      unfold keys
      rw [List.map_map]
      rfl
    refine forR_src el ?_
    refine for_st (β := Bl) (b := []) (e := fun p : Int × List Int => D.int p.1) (fun d r' σ A' => A' = put A p (.dct (kvB (d ++ r'))) ∧ σ = [none, some (linD l), some (.ref p), none, some (.str (wd w)), some (.int i), some (.int o), none, none, none] ∧ keys (d ++ r') = l) (fun d p => d ++ [(p.1, stepP (w, i, o) p.2)]) B ⟨rfl, rfl, e.ks⟩ (fun _ _ _ _ _ => holds_nil) ?_ ?_
    · rintro d ⟨key, row⟩ r' σ A' nx2 hp2 ⟨rfl, rfl, kk⟩ hk2
      have nd2 : (keys (d ++ (key, row) :: r')).Nodup := by rw [kk]; exact nd
      have ek : lookK (kvB (d ++ (key, row) :: r')) (.inl key) = some (linD row) := by
        rw [lookK_kvB, look_at (p := (key, row)) nd2 (by simp)]
        rfl
      have hr : row.length ≤ 60 := Eff.row_len e hl _ hp2
      have ndr : row.Nodup := by
        have := e.get_nd (e.key hp2)
        rw [e.get_at hp2] at this
        exact this
      walk_at "run"
      rw [ek]
      walk_at "run"
      intro L hL
      refine lc_map (e := D.int) (p := fun x => decide (x ≠ i)) (g := D.int) hL row (by rw [PySem.sizeLine_eq]; omega) (fun _ => holds_nil) ?_ ?_
      · intro x hx
        refine ⟨[none, some (linD l), some (.ref p), some (.int key), some (.str (wd w)), some (.int i), some (.int o), none, some (.int x), none], fun k h => h, fun A' R h _ => ?_, fun hp A' R h _ => ?_⟩
        · walk_at "run"
          have e : (!decide (x = i)) = decide (x ≠ i) := by by_cases c : x = i <;> simp [c]
          rw [e]
          exact h
        · walk_at "run"
          exact h
      rw [filter_erase ndr]
      have ele : (row.erase i).length ≤ row.length := List.length_erase_le
      have nd3 : ∀ x : List Int, keys (d ++ [(key, x)] ++ r') = keys (d ++ (key, row) :: r') := fun x => by simp [keys]
      have hlen : (kvB (d ++ (key, row) :: r')).length < sizeLine := by
        have h1 : (keys (d ++ (key, row) :: r')).length ≤ 60 := by rw [kk]; exact hl
        have h2 : (kvB (d ++ (key, row) :: r')).length = (keys (d ++ (key, row) :: r')).length := by unfold keys; rw [List.length_map, List.length_map]
        rw [h2, PySem.sizeLine_eq]
        omega
      walk_at "run"
      refine ⟨flat_ints, ?_⟩
      rw [inF_int]
      by_cases hi : o ∈ row.erase i
      · have hlt := List.idxOf_lt_length_of_mem hi
        walk_at "run"
        rw [int_beh]
        walk_at "runz"
        rw [cut_hi]
        refine ⟨by simp; rw [PySem.sizeLine_eq]; omega, ?_⟩
        walk_at "runz"
        rw [cut_lo]
        refine ⟨by simp; rw [PySem.sizeLine_eq]; omega, ?_⟩
        walk_at "runz"
        have e4 : (((row.erase i).map D.int).take ((row.erase i).idxOf o + if w = true then 1 else 0) ++ [D.int i]) ++ ((row.erase i).map D.int).drop ((row.erase i).idxOf o + if w = true then 1 else 0) = (stepP (w, i, o) row).map D.int := by
          rw [stepP_nd ndr]
          simp only [hi, if_true]
          unfold put1
          simp
        rw [e4]
        refine hk2 _ _ ⟨?_, rfl, ?_⟩
        · rw [put_put]
          show put A p (.dct (setK _ (.inl key) (linD (stepP (w, i, o) row)))) = _
          rw [kv_set nd2]
          simp
        · rw [nd3]; exact kk
      · walk_at "run"
        refine hk2 _ _ ⟨?_, rfl, ?_⟩
        · rw [put_put]
          show put A p (.dct (setK _ (.inl key) (linD (row.erase i)))) = _
          rw [kv_set nd2, stepP_nd ndr]
          simp [hi]
        · rw [nd3]; exact kk
    rintro σ A' ⟨rfl, rfl, _⟩
    rw [fold_row (stepP (w, i, o)), List.nil_append, List.append_nil, ← stepB_map]
    walk_at "run"
    exact hk _ _ ⟨rfl, rfl, e.step c1 c2 c3⟩
  rintro σ A' ⟨rfl, rfl, _⟩
  walk_at "run"
  exact .dct put_same (Sub.fresh hp) hp h
/-- each row replaced, item by item -/
theorem sp_put_in {N : List Int} {B O : Bl} (a : Eff N B) (b : Eff N O) (hN : N.length ≤ 60) (h : Q (blkD (joinB B O)) A) : cal t (k + 1) "_law_put_in" [blkD B, blkD O] A X Q := by
  have nd : (keys B).Nodup := a.nodK
  have hl : B.length ≤ 60 := by rw [Eff.len a]; exact hN
  refine calN_eq t__law_put_in rfl ?_
  walk_at "run"
  refine .new fun p hp => ?_
  walk_at "run"
  rw [keys_kv]
  refine for_st (β := Bl) (b := []) (e := fun p : Int × List Int => D.int p.1) (fun b r σ A' => A' = put A p (.dct (kvB (joinB b O))) ∧ σ = [some (blkD B), some (blkD O), some (.ref p), none, none, none] ∧ b ++ r = B) (fun b p => b ++ [p]) B ⟨rfl, rfl, rfl⟩ (fun _ _ _ _ _ => holds_nil) ?_ ?_
  · rintro d ⟨i, row⟩ r σ A' nx hx ⟨rfl, rfl, hbr⟩ hk
    walk_at "run"
    have el : lookK (kvB B) (.inl i) = some (linD row) := by rw [lookK_kvB, look_at nd hx]; rfl
    rw [el]
    walk_at "run"
    refine for_st (β := List Int) (b := []) (e := D.int) (fun acc r σ A' => A' = put A p (.dct (kvB (joinB d O))) ∧ σ = [some (blkD B), some (blkD O), some (.ref p), some (.int i), some (linD acc), none] ∧ acc.length + 1000 * r.length ≤ 1000000) (fun acc j => acc ++ getB O j) row ⟨rfl, rfl, by have h9 : row.length ≤ 60 := Eff.row_len a hN _ hx; rw [List.length_nil]; omega⟩ (fun _ _ _ _ _ => holds_nil) ?_ ?_
    · rintro acc j r σ A' nx hj ⟨rfl, rfl, hz⟩ hk
      have hjN : j ∈ N := by
        have h1 := a.get_at hx
        exact a.sub (a.key hx) (by rw [h1]; exact hj)
      have ej : lookK (kvB O) (.inl j) = some (linD (getB O j)) := by rw [lookK_kvB, look_at b.nodK (b.row hjN)]; rfl
      have h1 := Eff.get_len b hN j
      have h2 : acc.length + 1000 * (r.length + 1) ≤ 1000000 := by simpa using hz
      walk_at "run"
      rw [ej]
      walk_at "run"
      refine ⟨by simp; rw [PySem.sizeLine_eq]; omega, ?_⟩
      have e2 : acc.map D.int ++ (getB O j).map D.int = (acc ++ getB O j).map D.int := by simp
      rw [e2]
      exact hk _ _ ⟨rfl, rfl, by simp; omega⟩
    · rintro σ A' ⟨rfl, rfl, _⟩
      rw [foldl_app, List.nil_append]
      walk_at "run"
      have hn : i ∉ keys (joinB d O) := fun z => by
        rw [keys_join] at z
        rw [← hbr] at nd
        unfold keys at nd z
        rw [List.map_append, List.nodup_append] at nd
        exact nd.2.2 i z i (by simp) rfl
      refine ⟨?_, ?_⟩
      · have : d.length ≤ B.length := by rw [← hbr]; simp
        unfold joinB
        simp
        rw [PySem.sizeLine_eq]
        omega
      · refine hk _ _ ⟨?_, rfl, by simpa using hbr⟩
        rw [put_put, kv_put hn]
        simp [joinB, subst]
  · rintro σ A' ⟨rfl, rfl, hb⟩
    rw [List.append_nil] at hb
    rw [hb]
    walk_at "run"
    exact .dct put_same (Sub.fresh hp) hp h
end FD

/-! Days told one by one; the same by the sources: plain. -/
namespace Mv
open PySem Py Pr
variable {N : List Int} {B : Bl}
theorem Eff.ring_iff (e : Eff N B) {k : Int} : k ∈ ringI N B ↔ k ∈ N ∧ ∃ p, 1 ≤ p ∧ itB B p k = k :=
  ⟨fun h => ⟨e.ring_sub h, e.ring_ex h⟩, fun ⟨h, _, h1, h2⟩ => e.ring_of h h1 h2⟩
/-! ### the same sources over more items -/
theorem src_same {N1 N2 : List Int} : ∀ {cs : List Cmd} {B1 B2 : Bl}, Eff N1 B1 → Eff N2 B2 → (∀ c ∈ cs, (c.2.1 ∈ N1 ∧ c.2.2 ∈ N1) ∧ (c.2.1 ∈ N2 ∧ c.2.2 ∈ N2) ∧ c.2.1 ≠ c.2.2) → (∀ x, src B1 x = src B2 x) → ∀ x, src (cs.foldl stepB B1) x = src (cs.foldl stepB B2) x
  | [], _, _, _, _, _, h => h
  | c :: cs, B1, B2, e1, e2, hc, h => by
    obtain ⟨⟨a1, a2⟩, ⟨b1, b2⟩, hn⟩ := hc c List.mem_cons_self
    have s1 := e1.step a1 a2 hn
    have s2 := e2.step b1 b2 hn
    have all : ∀ {N : List Int} {B : Bl}, Eff N B → c.2.1 ∈ N → c.2.2 ∈ N → ∀ x, src (stepB B c) x = if x = c.2.1 then src B c.2.2 else src B x := fun {N B} e z1 z2 x => by
      by_cases hx : x ∈ N
      · exact e.src_step z1 z2 hn hx
      · have nx : x ≠ c.2.1 := fun w => hx (w ▸ z1)
        rw [if_neg nx, src_off e hx, src_off (e.step z1 z2 hn) hx]
    exact src_same (cs := cs) s1 s2 (fun d hd => hc d (List.mem_cons_of_mem _ hd)) fun x => by rw [all e1 a1 a2, all e2 b1 b2, h, h]
theorem src_start_all {N : List Int} (nd : N.Nodup) (i : Int) : src (startB N) i = i := by
  by_cases h : i ∈ N
  · exact src_start nd h
  · exact src_off (eff_start nd) h
theorem it_same {B1 B2 : Bl} (h : ∀ x, src B1 x = src B2 x) : ∀ (m : Nat) (x : Int), itB B1 m x = itB B2 m x
  | 0, _ => rfl
  | m + 1, x => by rw [itB, itB, h, it_same h m]
/-! ### a day over all items -/
abbrev allI (P : Fr) : List Int := sortI (frK P)
def dayB (P : Fr) : Bl := (dayC P).foldl stepB (startB (allI P))
variable {P : Fr}
theorem allI_mem {i : Int} : i ∈ allI P ↔ i ∈ frK P := sortI_mem
theorem VFr.all_nd (v : VFr P) : (allI P).Nodup := sortI_nd v.nd
theorem VFr.day_in (v : VFr P) : ∀ c ∈ dayC P, (c.2.1 ∈ named (dayC P) ∧ c.2.2 ∈ named (dayC P)) ∧ (c.2.1 ∈ allI P ∧ c.2.2 ∈ allI P) ∧ c.2.1 ≠ c.2.2 := fun c hc => by
  obtain ⟨h1, h2⟩ := VScr.in_named hc
  exact ⟨⟨h1, h2⟩, ⟨allI_mem.mpr (v.named_in _ h1), allI_mem.mpr (v.named_in _ h2)⟩, (v.day.it c hc).2.2⟩
theorem VFr.dayE (v : VFr P) : Eff (allI P) (dayB P) := fold_eff (eff_start v.all_nd) fun c hc => let ⟨_, ⟨h1, h2⟩, h3⟩ := v.day_in c hc; ⟨h1, h2, h3⟩
theorem VFr.day_src (v : VFr P) (x : Int) : src (dayB P) x = src (blocks (dayC P)) x :=
  (src_same (eff_start named_nd) (eff_start v.all_nd) v.day_in (fun x => by rw [src_start_all named_nd, src_start_all v.all_nd]) x).symm
theorem VFr.day_it (v : VFr P) (m : Nat) (x : Int) : itB (dayB P) m x = itB (blocks (dayC P)) m x := it_same v.day_src m x
theorem VFr.off_it (v : VFr P) {x : Int} (h : x ∉ named (dayC P)) : ∀ m, itB (dayB P) m x = x
  | 0 => rfl
  | m + 1 => by rw [itB, v.day_src, src_off v.day.eff h, v.off_it h m]
theorem VFr.day_ring (v : VFr P) {x : Int} : x ∈ ringI (allI P) (dayB P) ↔ x ∈ ringI (named (dayC P)) (blocks (dayC P)) ∨ (x ∈ frK P ∧ x ∉ named (dayC P)) := by
  rw [v.dayE.ring_iff, v.day.eff.ring_iff]
  constructor
  · rintro ⟨h, p, h1, h2⟩
    by_cases hx : x ∈ named (dayC P)
    · exact .inl ⟨hx, p, h1, by rw [← v.day_it]; exact h2⟩
    · exact .inr ⟨allI_mem.mp h, hx⟩
  · rintro (⟨h, p, h1, h2⟩ | ⟨h, hx⟩)
    · exact ⟨allI_mem.mpr (v.named_in _ h), p, h1, by rw [v.day_it]; exact h2⟩
    · exact ⟨allI_mem.mpr h, 1, Nat.le_refl 1, v.off_it hx 1⟩
theorem VFr.day_onr (v : VFr P) (m : Nat) : Onr (allI P) (dayB P) m ↔ Onr (named (dayC P)) (blocks (dayC P)) m := by
  constructor
  · intro h i hi
    have := v.day_ring.mp (h i (allI_mem.mpr (v.named_in _ hi)))
    rw [v.day_it] at this
    exact this.resolve_right fun z => z.2 (v.day.eff.it_in m hi)
  · intro h i hi
    refine v.day_ring.mpr ?_
    by_cases hx : i ∈ named (dayC P)
    · rw [v.day_it]; exact .inl (h i hx)
    · rw [v.off_it hx]; exact .inr ⟨allI_mem.mp hi, hx⟩
theorem VFr.day_settled (v : VFr P) {T : Nat} (h : Settled (named (dayC P)) (blocks (dayC P)) T) : Settled (allI P) (dayB P) T :=
  ⟨(v.day_onr T).mpr h.on, fun m hm => h.min m ((v.day_onr m).mp hm)⟩
/-- L is the least number after which all rings come again -/
structure Peri (N : List Int) (B : Bl) (L : Nat) : Prop where
  pos : 0 < L
  dvd : ∀ m, L ∣ m ↔ ∀ x ∈ ringI N B, itB B m x = x
theorem Peri.uniq {L L' : Nat} (h : Peri N B L) (h' : Peri N B L') : L = L' := Nat.dvd_antisymm ((h.dvd _).mpr ((h'.dvd _).mp (Nat.dvd_refl _))) ((h'.dvd _).mpr ((h.dvd _).mp (Nat.dvd_refl _)))
theorem VFr.day_peri (v : VFr P) {R : List (List Int)} (h : RingsOk (named (dayC P)) (blocks (dayC P)) R) : Peri (allI P) (dayB P) (lcmN (R.map List.length)) :=
  ⟨h.pos, fun m => by
    rw [h.dvd]
    constructor
    · intro z x hx
      rcases v.day_ring.mp hx with hx | ⟨_, hx⟩
      · rw [v.day_it]; exact z x hx
      · exact v.off_it hx m
    · intro z x hx
      rw [← v.day_it]
      exact z x (v.day_ring.mpr (.inl hx))⟩
theorem VFr.day_cnt (v : VFr P) : cntN P = (ringI (allI P) (dayB P)).length := by
  rw [v.cnt_final]
  have p : (ringI (allI P) (dayB P)).Perm (ringI (named (dayC P)) (blocks (dayC P)) ++ (frK P).filter fun i => decide (i ∉ named (dayC P))) := by
    rw [List.perm_ext_iff_of_nodup ring_nd]
    · intro x
      rw [v.day_ring, List.mem_append, List.mem_filter]
      simp
    · rw [List.nodup_append]
      refine ⟨ring_nd, v.nd.sublist (List.filter_sublist), fun a ha b hb e => ?_⟩
      subst e
      have := (List.mem_filter.mp hb).2
      simp at this
      exact this (v.day.eff.ring_sub ha)
  rw [p.length_eq, List.length_append]
/-! ### powers come again -/
theorem Eff.ext {A C : Bl} (a : Eff N A) (c : Eff N C) (h : ∀ k, getB A k = getB C k) : A = C := by
  rw [a.tab, c.tab]
  exact List.map_congr_left fun k _ => by rw [h]
theorem Eff.pow_again (e : Eff N B) {T L : Nat} (hT : Onr N B T) (hL : Peri N B L) {i m : Nat} (hi : T ≤ i) (hm : L ∣ m) : powB N B (i + m) = powB N B i :=
  (eff_pow e _).ext (eff_pow e _) fun k => e.again (e.onr_more hT hi) ((hL.dvd m).mp hm) k
theorem Eff.it_of_pow (e : Eff N B) {i j : Nat} (h : powB N B i = powB N B j) {x : Int} (hx : x ∈ N) : itB B i x = itB B j x := by
  have h1 := (e.mem_pow i hx (e.it_in i hx)).mpr rfl
  rw [h] at h1
  exact ((e.mem_pow j hx (e.it_in i hx)).mp h1).symm
theorem Eff.pow_eq (e : Eff N B) {T L : Nat} (hT : Settled N B T) (hL : Peri N B L) {i m : Nat} (hm : 1 ≤ m) (h : powB N B (i + m) = powB N B i) : T ≤ i ∧ L ∣ m := by
  have per : ∀ x ∈ N, itB B m (itB B i x) = itB B i x := fun x hx => by
    rw [← it_add, Nat.add_comm]
    exact e.it_of_pow h hx
  have on : Onr N B i := fun x hx => e.ring_of (e.it_in i hx) hm (per x hx)
  refine ⟨hT.min i on, (hL.dvd m).mpr fun x hx => ?_⟩
  have h1 := e.it_bit i hx
  have h2 := per _ (e.ring_sub (e.bit_in i hx))
  rw [h1] at h2
  exact h2
/-- is the n-th told before? -/
theorem Eff.told (e : Eff N B) {T L : Nat} (hT : Settled N B T) (hL : Peri N B L) (n : Nat) : (∃ i, i < n ∧ powB N B i = powB N B n) ↔ T + L ≤ n := by
  constructor
  · rintro ⟨i, hi, h⟩
    obtain ⟨m, rfl⟩ : ∃ m, n = i + m := ⟨n - i, by omega⟩
    obtain ⟨h1, h2⟩ := e.pow_eq hT hL (by omega) h.symm
    have := Nat.le_of_dvd (by omega) h2
    omega
  · intro h
    have h0 := hL.pos
    refine ⟨n - L, by omega, ?_⟩
    have := e.pow_again hT.on hL (i := n - L) (m := L) (by omega) (Nat.dvd_refl L)
    rw [show n - L + L = n by omega] at this
    exact this.symm
/-! ### pieces that are not empty -/
def fil (A : Bl) : List (List Int) := (A.map (·.2)).filter fun r => decide (r ≠ [])
theorem Eff.fil_keys (e : Eff N B) : (fil B).length = (N.filter fun k => decide (getB B k ≠ [])).length := by
  unfold fil
  conv => lhs; rw [e.tab]
  rw [List.map_map, List.filter_map, List.length_map]
  rfl
theorem Eff.fil_on (e : Eff N B) {m : Nat} (h : (fil (powB N B m)).length = (ringI N B).length) : Onr N B m := by
  have ep := eff_pow e m
  rw [ep.fil_keys] at h
  have sub : ∀ x ∈ ringI N B, x ∈ N.filter fun k => decide (getB (powB N B m) k ≠ []) := fun x hx => by
    rw [List.mem_filter]
    refine ⟨e.ring_sub hx, decide_eq_true fun z => ?_⟩
    have := (e.mem_pow m (e.ring_sub (e.bit_in m hx)) (e.ring_sub hx)).mpr (e.it_bit m hx)
    rw [z] at this
    cases this
  have p := perm_of_sub ring_nd sub (Nat.le_of_eq h)
  intro i hi
  rw [p.mem_iff, List.mem_filter]
  refine ⟨e.it_in m hi, decide_eq_true fun z => ?_⟩
  have := (e.mem_pow m hi (e.it_in m hi)).mpr rfl
  rw [z] at this
  cases this
theorem Eff.fil_len (e : Eff N B) {m : Nat} (h : Onr N B m) : (fil (powB N B m)).length = (ringI N B).length := e.fin_len h
/-! ### the items whose places are taken -/
theorem sorted_uniq {l m : List Int} (hl : l.Nodup) (hm : m.Nodup) (h : ∀ x, x ∈ l ↔ x ∈ m) : sortI l = sortI m := sortI_eq ((List.perm_ext_iff_of_nodup hl hm).mpr h)
def im (N : List Int) (B : Bl) (n : Nat) : List Int := sortI (ddI (N.map (itB B n)))
theorem im_mem {n : Nat} {y : Int} : y ∈ im N B n ↔ ∃ x ∈ N, itB B n x = y := by
  unfold im
  rw [sortI_mem, ddI_mem]
  simp
theorem im_nd {n : Nat} : (im N B n).Nodup := sortI_nd ddI_nodup
theorem im_succ {n : Nat} : sortI (ddI ((im N B n).map (src B))) = im N B (n + 1) := by
  refine sorted_uniq ddI_nodup ddI_nodup fun y => ?_
  rw [ddI_mem, ddI_mem]
  simp only [List.mem_map]
  constructor
  · rintro ⟨z, hz, rfl⟩
    obtain ⟨x, hx, rfl⟩ := im_mem.mp hz
    exact ⟨x, hx, it_src B n x⟩
  · rintro ⟨x, hx, rfl⟩
    exact ⟨_, im_mem.mpr ⟨x, hx, rfl⟩, (it_src B n x).symm⟩
theorem im_zero (nd : N.Nodup) (hs : sortI N = N) : im N B 0 = N := by
  have : sortI (ddI (N.map (itB B 0))) = sortI N := sorted_uniq ddI_nodup nd fun y => by
    rw [ddI_mem]
    simp [itB]
  unfold im
  rw [this, hs]
theorem Eff.im_on (e : Eff N B) {n : Nat} (h : Onr N B n) {y : Int} : y ∈ im N B n ↔ y ∈ ringI N B := by
  rw [im_mem]
  constructor
  · rintro ⟨x, hx, rfl⟩; exact h x hx
  · intro hy; exact ⟨_, e.ring_sub (e.bit_in n hy), e.it_bit n hy⟩
theorem Eff.im_stop (e : Eff N B) {T : Nat} (hT : Settled N B T) (n : Nat) : im N B (n + 1) = im N B n ↔ T ≤ n := by
  constructor
  · intro h
    refine hT.min n fun x hx => ?_
    have back : ∀ (m : Nat) {y : Int}, y ∈ im N B n → ∃ z ∈ im N B n, itB B m z = y := fun m => by
      induction m with
      | zero => intro y hy; exact ⟨y, hy, rfl⟩
      | succ m ih =>
        intro y hy
        obtain ⟨z, hz, rfl⟩ := ih hy
        rw [← h] at hz
        obtain ⟨x, hx, rfl⟩ := im_mem.mp hz
        exact ⟨itB B n x, im_mem.mpr ⟨x, hx, rfl⟩, by rw [itB, ← it_src]⟩
    obtain ⟨z, hz, e2⟩ := back N.length (im_mem.mpr ⟨x, hx, rfl⟩)
    obtain ⟨w, hw, rfl⟩ := im_mem.mp hz
    exact e.mem_ring.mpr ⟨_, e.it_in n hw, e2⟩
  · intro h
    have h1 := e.onr_more hT.on h
    have h2 := e.onr_more hT.on (Nat.le_succ_of_le h)
    refine sorted_uniq ddI_nodup ddI_nodup fun y => ?_
    have a1 := e.im_on h1 (y := y)
    have a2 := e.im_on h2 (y := y)
    unfold im at a1 a2
    rw [sortI_mem] at a1 a2
    exact a2.trans a1.symm
theorem Eff.im_len (e : Eff N B) {T : Nat} (h : Onr N B T) : (im N B T).length = (ringI N B).length :=
  ((List.perm_ext_iff_of_nodup im_nd ring_nd).mpr fun y => e.im_on h).length_eq
/-! ### ring by ring -/
/-- S: the items of the rings so far; W: the number after which they come again -/
structure Walked (N : List Int) (B : Bl) (S : List Int) (W : Nat) : Prop where
  sub : ∀ y ∈ S, y ∈ ringI N B
  cl : ∀ y ∈ S, src B y ∈ S
  nd : S.Nodup
  pos : 0 < W
  dvd : ∀ m, W ∣ m ↔ ∀ y ∈ S, itB B m y = y
theorem Walked.start : Walked N B [] 1 := ⟨fun _ h => (nomatch h), fun _ h => (nomatch h), .nil, by decide, fun m => ⟨fun _ _ h => (nomatch h), fun _ => Nat.one_dvd m⟩⟩
theorem Walked.it {S : List Int} {W : Nat} (h : Walked N B S W) : ∀ (m : Nat) {y : Int}, y ∈ S → itB B m y ∈ S
  | 0, _, hy => hy
  | m + 1, y, hy => by rw [itB]; exact h.it m (h.cl y hy)
theorem Walked.off {S : List Int} {W : Nat} (h : Walked N B S W) (e : Eff N B) {x : Int} (hx : x ∈ ringI N B) (hn : x ∉ S) (m : Nat) : itB B m x ∉ S := fun z => by
  obtain ⟨p, h1, h2⟩ := e.ring_ex hx
  have h3 := it_mul h2 m
  have h4 : p * m = (p * m - m) + m := by
    have : m ≤ p * m := by have := Nat.mul_le_mul_right m h1; omega
    omega
  rw [h4, it_add] at h3
  exact hn (h3 ▸ h.it _ z)
theorem Walked.le {S : List Int} {W L : Nat} (h : Walked N B S W) (hL : Peri N B L) : W ∣ L := (h.dvd L).mpr fun y hy => (hL.dvd L).mp (Nat.dvd_refl L) y (h.sub y hy)
/-- the way from x has come to something that it has met: it is x -/
theorem Eff.way_back (e : Eff N B) {x : Int} (hx : x ∈ ringI N B) {j w : Nat} (nd : (wayB B x w).Nodup) (hj : j < w) (q : itB B w x = itB B j x) : j = 0 := by
  cases j with
  | zero => rfl
  | succ j =>
    have h1 : itB B w x = src B (itB B (w - 1) x) := by rw [← it_src]; congr 1; omega
    have h2 : itB B (j + 1) x = src B (itB B j x) := it_src B j x
    rw [h1, h2] at q
    have := e.ring_inj (e.ring_it _ hx) (e.ring_it _ hx) q
    have := way_inj nd (by omega) (by omega) this
    omega
theorem Walked.more {S : List Int} {W : Nat} (h : Walked N B S W) (e : Eff N B) {x : Int} (hx : x ∈ ringI N B) (hn : x ∉ S) {w : Nat} (nd : (wayB B x w).Nodup) (hw : 0 < w) (q : itB B w x = x) : Walked N B (S ++ wayB B x w) (Nat.lcm W w) := by
  have ro := way_ring (B := B) nd hw (j := 0) q
  have e0 : wayB B (itB B 0 x) (w - 0) = wayB B x w := rfl
  rw [e0] at ro
  have x0 : x ∈ wayB B x w := way_mem.mpr ⟨0, hw, rfl⟩
  refine ⟨fun y hy => ?_, fun y hy => ?_, ?_, Nat.lcm_pos h.pos hw, fun m => ?_⟩
  · rcases List.mem_append.mp hy with hy | hy
    · exact h.sub y hy
    · obtain ⟨i, _, rfl⟩ := way_mem.mp hy
      exact e.ring_it i hx
  · rcases List.mem_append.mp hy with hy | hy
    · exact List.mem_append_left _ (h.cl y hy)
    · obtain ⟨i, hi, rfl⟩ := way_mem.mp hy
      refine List.mem_append_right _ (way_mem.mpr ?_)
      by_cases c : i + 1 < w
      · exact ⟨i + 1, c, it_src B i x⟩
      · have : i + 1 = w := by omega
        exact ⟨0, hw, by rw [← it_src, this, q]; rfl⟩
  · rw [List.nodup_append]
    refine ⟨h.nd, nd, fun a ha b hb c => ?_⟩
    subst c
    obtain ⟨i, _, rfl⟩ := way_mem.mp hb
    exact h.off e hx hn i ha
  · rw [Nat.lcm_dvd_iff, h.dvd]
    constructor
    · rintro ⟨h1, h2⟩ y hy
      rcases List.mem_append.mp hy with hy | hy
      · exact h1 y hy
      · have := ro.per y hy
        rw [way_len] at this
        exact it_dvd this h2
    · intro h1
      refine ⟨fun y hy => h1 y (List.mem_append_left _ hy), ?_⟩
      have := ro.min x x0 m (h1 x (List.mem_append_right _ x0))
      rwa [way_len] at this
theorem Walked.peri {S : List Int} {W : Nat} (h : Walked N B S W) (ha : ∀ y ∈ ringI N B, y ∈ S) : Peri N B W := ⟨h.pos, fun m => (h.dvd m).trans ⟨fun z y hy => z y (ha y hy), fun z y hy => z y (h.sub y hy)⟩⟩
end Mv

/-! Two chains of sixty friends: plain. -/
namespace Mv
open PySem Py Pr
theorem RingsOk.le9 {N : List Int} {B : Bl} {R : List (List Int)} {n : Nat} (e : Eff N B) (hN : N.length ≤ n) (h : RingsOk N B R) : lcmN (R.map List.length) ≤ 2 ^ n := by
  have l := lcm_le (R.map List.length) 1 (by decide) fun n hn => by
    obtain ⟨r, hr, rfl⟩ := List.mem_map.mp hn
    exact List.length_pos_iff.mpr (h.ok r hr).ne
  have s : (R.map List.length).sum ≤ n := by
    rw [← List.length_flatten]
    refine Nat.le_trans (len_of_sub (m := N) h.dj fun x hx => ?_) hN
    obtain ⟨r, hr, hx⟩ := List.mem_flatten.mp hx
    exact e.ring_sub ((h.mem x).mp ⟨r, hr, hx⟩)
  rw [Nat.one_mul] at l
  exact Nat.le_trans l (Nat.pow_le_pow_right (by decide) s)
def downP : Fr := (0, some 59) :: (List.range 59).map fun k : Nat => ((k : Int) + 1, some (k : Int))
def upP : Fr := (59, some 0) :: (List.range 59).map fun k : Nat => ((k : Int), some ((k : Int) + 1))
theorem vdown : VFr downP := ⟨by decide, by decide +kernel, by unfold VItem; decide +kernel, by decide +kernel⟩
theorem vup : VFr upP := ⟨by decide, by decide +kernel, by unfold VItem; decide +kernel, by decide +kernel⟩
theorem down_keys : ∀ i, i ∈ frK downP ↔ 0 ≤ i ∧ i < 60 := fun i => by
  have h1 : ∀ i ∈ frK downP, 0 ≤ i ∧ i < 60 := by decide +kernel
  have h2 : ∀ k ∈ List.range 60, ((k : Nat) : Int) ∈ frK downP := by decide +kernel
  refine ⟨h1 i, fun h => ?_⟩
  have := h2 i.toNat (List.mem_range.mpr (by omega))
  rwa [Int.toNat_of_nonneg h.1] at this
theorem up_keys : ∀ i, i ∈ frK upP ↔ 0 ≤ i ∧ i < 60 := fun i => by
  have h1 : ∀ i ∈ frK upP, 0 ≤ i ∧ i < 60 := by decide +kernel
  have h2 : ∀ k ∈ List.range 60, ((k : Nat) : Int) ∈ frK upP := by decide +kernel
  refine ⟨h1 i, fun h => ?_⟩
  have := h2 i.toNat (List.mem_range.mpr (by omega))
  rwa [Int.toNat_of_nonneg h.1] at this
theorem down_fr : ∀ k ∈ List.range 60, frO downP ((k : Nat) : Int) = some (if k = 0 then 59 else ((k : Int) - 1)) := by decide +kernel
theorem up_fr : ∀ k ∈ List.range 60, frO upP ((k : Nat) : Int) = some (if k = 59 then 0 else ((k : Int) + 1)) := by decide +kernel
/-- all go to the last one -/
theorem down_src : ∀ k : Nat, k < 60 → src (dayB downP) (k : Int) = 59 := by
  intro k
  induction k with
  | zero =>
    intro _
    rw [vdown.day_src, vdown.src_day (down_fr 0 (by decide))]
    rfl
  | succ k ih =>
    intro hk
    have h1 := down_fr (k + 1) (List.mem_range.mpr hk)
    rw [if_neg (by omega)] at h1
    have e1 : (((k + 1 : Nat) : Int) - 1) = (k : Int) := by omega
    rw [e1] at h1
    rw [vdown.day_src, vdown.src_day h1, if_pos (by omega), ← vdown.day_src]
    exact ih (by omega)
theorem up_src : ∀ k : Nat, k < 59 → src (dayB upP) (k : Int) = (k : Int) + 1 := fun k hk => by
  have h1 := up_fr k (List.mem_range.mpr (by omega))
  rw [if_neg (by omega)] at h1
  rw [vup.day_src, vup.src_day h1, if_neg (by omega)]
theorem up_last : src (dayB upP) 59 = 1 := by
  have h1 := up_fr 59 (by decide)
  have h1 : frO upP (59 : Int) = some 0 := h1
  rw [vup.day_src, vup.src_day h1, if_pos (by decide), ← vup.day_src]
  exact up_src 0 (by decide)
theorem in_all {P : Fr} {i : Int} (h : i ∈ allI P) : i ∈ frK P := allI_mem.mp h
theorem down_ring {x : Int} : x ∈ ringI (allI downP) (dayB downP) ↔ x = 59 := by
  have e := vdown.dayE
  have s : ∀ i ∈ allI downP, src (dayB downP) i = 59 := fun i hi => by
    have h := (down_keys i).mp (in_all hi)
    have := down_src i.toNat (by omega)
    rwa [Int.toNat_of_nonneg h.1] at this
  rw [e.ring_iff]
  constructor
  · rintro ⟨hx, p, h1, h2⟩
    obtain ⟨q, rfl⟩ : ∃ q, p = q + 1 := ⟨p - 1, by omega⟩
    rw [it_src, s _ (e.it_in q hx)] at h2
    exact h2.symm
  · rintro rfl
    have h59 : (59 : Int) ∈ allI downP := allI_mem.mpr ((down_keys 59).mpr (by decide))
    exact ⟨h59, 1, Nat.le_refl 1, s _ h59⟩
theorem down_T {T : Nat} (h : Settled (allI downP) (dayB downP) T) : T = 1 := by
  have e := vdown.dayE
  have s : ∀ i ∈ allI downP, src (dayB downP) i = 59 := fun i hi => by
    have h := (down_keys i).mp (in_all hi)
    have := down_src i.toNat (by omega)
    rwa [Int.toNat_of_nonneg h.1] at this
  have h1 : T ≤ 1 := h.min 1 fun i hi => down_ring.mpr (s i hi)
  have h0 : T ≠ 0 := fun z => by
    subst z
    have := h.on 0 (allI_mem.mpr ((down_keys 0).mpr (by decide)))
    have := down_ring.mp this
    exact absurd this (by decide)
  omega
theorem down_L {L : Nat} (h : Peri (allI downP) (dayB downP) L) : L = 1 := by
  have := (h.dvd 1).mpr fun x hx => by
    have := down_ring.mp hx
    subst this
    have := down_src 59 (by decide)
    exact this
  exact Nat.dvd_one.mp this
theorem down_cnt : (ringI (allI downP) (dayB downP)).length = 1 := by
  have p : (ringI (allI downP) (dayB downP)).Perm [59] := (List.perm_ext_iff_of_nodup ring_nd (by simp)).mpr fun x => by rw [down_ring]; simp
  rw [p.length_eq]
  rfl
/-- from one of 1 .. 59 on, round -/
theorem up_it : ∀ (m : Nat) {k : Nat}, k < 59 → itB (dayB upP) m ((k : Int) + 1) = (((k + m) % 59 : Nat) : Int) + 1
  | 0, k, hk => by rw [itB, Nat.add_zero, Nat.mod_eq_of_lt hk]
  | m + 1, k, hk => by
    rw [it_src, up_it m hk]
    have h1 : (k + m) % 59 < 59 := Nat.mod_lt _ (by decide)
    by_cases c : (k + m) % 59 = 58
    · rw [c]
      have : src (dayB upP) (((58 : Nat) : Int) + 1) = 1 := up_last
      rw [this]
      have : (k + (m + 1)) % 59 = 0 := by omega
      rw [this]
      rfl
    · have := up_src ((k + m) % 59 + 1) (by omega)
      rw [show (((k + m) % 59 : Nat) : Int) + 1 = (((k + m) % 59 + 1 : Nat) : Int) from by omega, this]
      omega
theorem up_ring {x : Int} : x ∈ ringI (allI upP) (dayB upP) ↔ 1 ≤ x ∧ x < 60 := by
  have e := vup.dayE
  rw [e.ring_iff]
  constructor
  · rintro ⟨hx, p, h1, h2⟩
    have h := (up_keys x).mp (in_all hx)
    obtain ⟨q, rfl⟩ : ∃ q, p = q + 1 := ⟨p - 1, by omega⟩
    by_cases c : x = 0
    · subst c
      have s0 := up_src 0 (by decide)
      have s0 : src (dayB upP) 0 = 1 := s0
      rw [itB, s0] at h2
      have := up_it q (k := 0) (by decide)
      have this : itB (dayB upP) q 1 = (((0 + q) % 59 : Nat) : Int) + 1 := this
      rw [this] at h2
      omega
    · omega
  · rintro ⟨h1, h2⟩
    refine ⟨allI_mem.mpr ((up_keys x).mpr (by omega)), 59, by decide, ?_⟩
    have := up_it 59 (k := (x - 1).toNat) (by omega)
    rw [Int.toNat_of_nonneg (by omega), show x - 1 + 1 = x from by omega] at this
    rw [this]
    omega
theorem up_T {T : Nat} (h : Settled (allI upP) (dayB upP) T) : T = 1 := by
  have h1 : T ≤ 1 := h.min 1 fun i hi => up_ring.mpr (by
    have hk := (up_keys i).mp (in_all hi)
    show 1 ≤ src (dayB upP) i ∧ src (dayB upP) i < 60
    by_cases c : i = 59
    · subst c; rw [up_last]; decide
    · have := up_src i.toNat (by omega)
      rw [Int.toNat_of_nonneg hk.1] at this
      rw [this]
      omega)
  have h0 : T ≠ 0 := fun z => by
    subst z
    have := up_ring.mp (h.on 0 (allI_mem.mpr ((up_keys 0).mpr (by decide))))
    have : (1 : Int) ≤ 0 := this.1
    omega
  omega
theorem up_L {L : Nat} (h : Peri (allI upP) (dayB upP) L) : L = 59 := by
  have d := (h.dvd 59).mpr fun x hx => by
    have hx := up_ring.mp hx
    have := up_it 59 (k := (x - 1).toNat) (by omega)
    rw [Int.toNat_of_nonneg (by omega), show x - 1 + 1 = x from by omega] at this
    rw [this]
    omega
  have b := (h.dvd L).mp (Nat.dvd_refl L) 1 (up_ring.mpr (by decide))
  have := up_it L (k := 0) (by decide)
  have this : itB (dayB upP) L 1 = (((0 + L) % 59 : Nat) : Int) + 1 := this
  rw [this] at b
  have h3 : L % 59 = 0 := by omega
  exact Nat.dvd_antisymm d (Nat.dvd_of_mod_eq_zero h3)
theorem up_cnt : (ringI (allI upP) (dayB upP)).length = 59 := by
  have p : (ringI (allI upP) (dayB upP)).Perm ((List.range 59).map fun k : Nat => (k : Int) + 1) := (List.perm_ext_iff_of_nodup ring_nd (by decide +kernel)).mpr fun x => by
    rw [up_ring]
    simp only [List.mem_map, List.mem_range]
    constructor
    · rintro ⟨h1, h2⟩; exact ⟨(x - 1).toNat, by omega, by omega⟩
    · rintro ⟨k, hk, rfl⟩; omega
  rw [p.length_eq]
  simp
end Mv

namespace K45
open PySem PySem.Spec PyProof.Rows L2 Py
def top (i : Nat) : Stmt := PySem.Challenge.pw_moveafter_k45_final_blocks_of_friends.main.body.getD i (.Pass ⟨0, 0, 0, 0⟩)
def nm : Names := ⟨("is_int" :: "in_range" :: "is_item" :: "named_in" :: "moved_in_block" :: "blocks_in" :: "sources_in" :: "rings_in" :: "settled_in" :: "greatest_divisor" :: "lcm_of" :: "is_friends" :: "require_friends" :: "commands_of" :: "count_final" :: "days_needed" :: "day_period" :: "_law_fount" :: "_law_sip" :: "_law_mixed" :: "_law_line" :: "_law_pieces" :: "_law_put_in" :: "_law_pals" :: "_law_commands" :: "_law_filled" :: "_law_days" :: "_law_source" :: "_law_by_steps" :: "_law_common" :: "_law_told" :: "_law_all" :: "law" :: []), ["ITEMS", "MOST_KEYS"], ["NoFriends"], [], []⟩
def b__law_filled : Ss := (.cons (.ret (.bif .sorted (.cons (.lc (.var 1 "piece") (.name 1 "piece") (.values (.var 0 "pieces_here")) (.cons (.cmp .ne (.var 1 "piece") (.tup .nil)) .nil) [("piece", 1)]) .nil))) .nil)
def d__law_filled : Fd := ⟨1, 2, b__law_filled⟩
def b__law_days : Ss := (.cons (.asg 1 "items" (.bif .sorted (.cons (.var 0 "pals") .nil))) (.cons (.asg 2 "day" (.call "_law_pieces" (.cons (.call "_law_commands" (.cons (.var 0 "pals") .nil)) (.cons (.var 1 "items") .nil)))) (.cons (.asg 3 "history_here" (.lst (.cons (.call "_law_pieces" (.cons (.tup .nil) (.cons (.var 1 "items") .nil))) .nil))) (.cons (.whl (.cmp .nin (.idx (.var 3 "history_here") (.neg (.cst (.int 1)))) (.slc (.var 3 "history_here") .no (.yes (.neg (.cst (.int 1)))))) (.cons (.exp (.mth .append (.var 3 "history_here") (.cons (.call "_law_put_in" (.cons (.idx (.var 3 "history_here") (.neg (.cst (.int 1)))) (.cons (.var 2 "day") .nil))) .nil))) .nil) [0, 1, 4, 5, 6, 7, 8]) (.cons (.asg 4 "first" (.mth .index (.var 3 "history_here") (.cons (.idx (.var 3 "history_here") (.neg (.cst (.int 1)))) .nil))) (.cons (.asg 5 "last" (.call "_law_filled" (.cons (.idx (.var 3 "history_here") (.neg (.cst (.int 1)))) .nil))) (.cons (.asg 6 "needed" (.bif .min (.cons (.lc (.var 7 "at") (.tup [(7, "at"), (8, "one")]) (.enum (.var 3 "history_here")) (.cons (.cmp .eq (.call "_law_filled" (.cons (.var 8 "one") .nil)) (.var 5 "last")) .nil) [("at", 7), ("one", 8)]) .nil))) (.cons (.ret (.lst (.cons (.bif .len (.cons (.var 5 "last") .nil)) (.cons (.var 6 "needed") (.cons (.bin .sub (.bin .sub (.bif .len (.cons (.var 3 "history_here") .nil)) (.cst (.int 1))) (.var 4 "first")) .nil))))) .nil))))))))
def d__law_days : Fd := ⟨1, 9, b__law_days⟩
def b__law_source : Ss := (.cons (.par [(2, "here"), (3, "other")] (.cons (.var 1 "item") (.cons (.idx (.var 0 "pals") (.var 1 "item")) .nil))) (.cons (.whl (.bop true (.cons (.cmp .isn (.var 3 "other") (.cst .non)) (.cons (.cmp .lt (.var 3 "other") (.var 2 "here")) .nil))) (.cons (.par [(2, "here"), (3, "other")] (.cons (.var 3 "other") (.cons (.idx (.var 0 "pals") (.var 3 "other")) .nil))) .nil) [1]) (.cons (.ret (.ite (.cmp .is_ (.var 3 "other") (.cst .non)) (.var 2 "here") (.var 3 "other"))) .nil)))
def d__law_source : Fd := ⟨2, 4, b__law_source⟩
def b__law_by_steps : Ss := (.cons (.asg 1 "sources_here" (.dnil)) (.cons (.for_ (.name 2 "item") (.seq (.var 0 "pals")) (.cons (.sto (.var 1 "sources_here") (.var 2 "item") (.call "_law_source" (.cons (.var 0 "pals") (.cons (.var 2 "item") .nil)))) .nil) [2, 3, 4, 5, 6, 7, 8]) (.cons (.frz 1) (.cons (.par [(3, "left"), (4, "needed")] (.cons (.bif .sorted (.cons (.var 0 "pals") .nil)) (.cons (.cst (.int 0)) .nil))) (.cons (.whl (.cmp .ne (.sset (.lc (.idx (.var 1 "sources_here") (.var 2 "item")) (.name 2 "item") (.seq (.var 3 "left")) .nil [("item", 2)])) (.var 3 "left")) (.cons (.par [(3, "left"), (4, "needed")] (.cons (.sset (.lc (.idx (.var 1 "sources_here") (.var 2 "item")) (.name 2 "item") (.seq (.var 3 "left")) .nil [("item", 2)])) (.cons (.bin .add (.var 4 "needed") (.cst (.int 1))) .nil))) .nil) [0, 2, 5, 6, 7, 8]) (.cons (.par [(5, "whole"), (6, "seen")] (.cons (.cst (.int 1)) (.cons (.lst .nil) .nil))) (.cons (.for_ (.name 2 "item") (.seq (.var 3 "left")) (.cons (.par [(7, "ring"), (8, "here")] (.cons (.lst .nil) (.cons (.var 2 "item") .nil))) (.cons (.whl (.cmp .nin (.var 8 "here") (.var 6 "seen")) (.cons (.exp (.mth .append (.var 7 "ring") (.cons (.var 8 "here") .nil))) (.cons (.exp (.mth .append (.var 6 "seen") (.cons (.var 8 "here") .nil))) (.cons (.asg 8 "here" (.idx (.var 1 "sources_here") (.var 8 "here"))) .nil))) [0, 2]) (.cons (.if_ (.cmp .ne (.var 7 "ring") (.lst .nil)) (.cons (.asg 5 "whole" (.bin .fdiv (.bin .mul (.var 5 "whole") (.bif .len (.cons (.var 7 "ring") .nil))) (.call "_law_common" (.cons (.var 5 "whole") (.cons (.bif .len (.cons (.var 7 "ring") .nil)) .nil))))) .nil) .nil) .nil))) [0, 2, 7, 8]) (.cons (.ret (.lst (.cons (.bif .len (.cons (.var 3 "left") .nil)) (.cons (.var 4 "needed") (.cons (.var 5 "whole") .nil))))) .nil))))))))
def d__law_by_steps : Fd := ⟨1, 9, b__law_by_steps⟩
def b__law_common : Ss := (.cons (.whl (.cmp .ne (.var 1 "other") (.cst (.int 0))) (.cons (.par [(0, "one"), (1, "other")] (.cons (.var 1 "other") (.cons (.bin .mod (.var 0 "one") (.var 1 "other")) .nil))) .nil) []) (.cons (.ret (.var 0 "one")) .nil))
def d__law_common : Fd := ⟨2, 2, b__law_common⟩
def b__law_told : Ss := (.cons (.ret (.lst (.cons (.call "count_final" (.cons (.var 0 "pals") .nil)) (.cons (.call "days_needed" (.cons (.var 0 "pals") .nil)) (.cons (.call "day_period" (.cons (.var 0 "pals") .nil)) .nil))))) .nil)
def d__law_told : Fd := ⟨1, 1, b__law_told⟩
def b__law_all : Ss := (.cons (.asg 1 "found" (.lst (.cons (.dnil) .nil))) (.cons (.for_ (.name 2 "item") (.seq (.var 0 "items")) (.cons (.asg 3 "longer" (.lst .nil)) (.cons (.for_ (.name 4 "pals") (.seq (.var 1 "found")) (.cons (.for_ (.name 5 "other") (.seq (.bin .add (.lst (.cons (.cst .non) .nil)) (.lc (.var 6 "one") (.name 6 "one") (.seq (.var 0 "items")) (.cons (.cmp .ne (.var 6 "one") (.var 2 "item")) .nil) [("one", 6)]))) (.cons (.asg 7 "more" (.bif .dict (.cons (.var 4 "pals") .nil))) (.cons (.sto (.var 7 "more") (.var 2 "item") (.var 5 "other")) (.cons (.frz 7) (.cons (.exp (.mth .append (.var 3 "longer") (.cons (.var 7 "more") .nil))) .nil)))) [1, 5, 6, 7]) .nil) [1, 4, 5, 6, 7]) (.cons (.asg 1 "found" (.var 3 "longer")) (.cons (.frz 1) .nil)))) [2, 3, 4, 5, 6, 7]) (.cons (.ret (.var 1 "found")) .nil)))
def d__law_all : Fd := ⟨1, 8, b__law_all⟩
def b_law : Ss := (.cons (.for_ (.name 1 "many") (.rng2 (.cst (.int 1)) (.cst (.int 5))) (.cons (.asg 2 "items" (.slc (.lst (.cons (.cst (.int 3)) (.cons (.cst (.int 7)) (.cons (.cst (.int 12)) (.cons (.cst (.int 59)) .nil))))) .no (.yes (.var 1 "many")))) (.cons (.for_ (.name 3 "pals") (.seq (.call "_law_all" (.cons (.var 2 "items") .nil))) (.cons (.if_ (.bop false (.cons (.cmp .ne (.bif .repr (.cons (.call "_law_told" (.cons (.var 3 "pals") .nil)) .nil)) (.bif .repr (.cons (.call "_law_days" (.cons (.var 3 "pals") .nil)) .nil))) (.cons (.cmp .ne (.call "_law_days" (.cons (.var 3 "pals") .nil)) (.call "_law_by_steps" (.cons (.var 3 "pals") .nil))) .nil))) (.cons (.ret (.cst (.bl false))) .nil) .nil) .nil) [1, 2, 3, 4, 5, 6, 7, 8, 9, 10]) .nil)) [1, 2, 3, 4, 5, 6, 7, 8, 9, 10]) (.cons (.for_ (.name 4 "k") (.rng1 (.bif .max (.cons (.cst (.int 1)) (.cons (.bif .min (.cons (.cst (.int 4)) (.cons (.bif .len (.cons (.var 0 "script") .nil)) .nil))) .nil)))) (.cons (.asg 5 "fount" (.call "_law_fount" (.cons (.var 0 "script") (.cons (.var 4 "k") .nil)))) (.cons (.for_ (.name 6 "most") (.seq (.tup (.cons (.cst (.int 9)) (.cons (.cst (.int 9)) (.cons (.cst (.int 60)) .nil))))) (.cons (.asg 3 "pals" (.call "_law_pals" (.cons (.var 5 "fount") (.cons (.var 6 "most") .nil)))) (.cons (.asg 7 "kept" (.bif .repr (.cons (.var 3 "pals") .nil))) (.cons (.if_ (.bop false (.cons (.cmp .ne (.bif .repr (.cons (.call "_law_told" (.cons (.var 3 "pals") .nil)) .nil)) (.bif .repr (.cons (.call "_law_by_steps" (.cons (.var 3 "pals") .nil)) .nil))) (.cons (.cmp .ne (.bif .repr (.cons (.var 3 "pals") .nil)) (.var 7 "kept")) .nil))) (.cons (.ret (.cst (.bl false))) .nil) .nil) (.cons (.if_ (.bop true (.cons (.cmp .eq (.var 6 "most") (.cst (.int 9))) (.cons (.cmp .ne (.call "_law_by_steps" (.cons (.var 3 "pals") .nil)) (.call "_law_days" (.cons (.var 3 "pals") .nil))) .nil))) (.cons (.ret (.cst (.bl false))) .nil) .nil) .nil)))) [1, 2, 3, 4, 6, 7, 8, 9, 10]) .nil)) [1, 2, 3, 4, 5, 6, 7, 8, 9, 10]) (.cons (.par [(8, "down"), (9, "up")] (.cons (.dsp (.cons (.cst (.int 0)) (.cst (.int 59)) .nil)) (.cons (.dsp (.cons (.cst (.int 59)) (.cst (.int 0)) .nil)) .nil))) (.cons (.for_ (.name 10 "item") (.rng2 (.cst (.int 1)) (.cst (.int 60))) (.cons (.sto (.var 8 "down") (.var 10 "item") (.bin .sub (.var 10 "item") (.cst (.int 1)))) (.cons (.sto (.var 9 "up") (.bin .sub (.var 10 "item") (.cst (.int 1))) (.var 10 "item")) .nil)) [0, 1, 2, 3, 4, 5, 6, 7, 10]) (.cons (.frz 8) (.cons (.frz 9) (.cons (.ret (.cmp .eq (.lst (.cons (.call "_law_told" (.cons (.var 8 "down") .nil)) (.cons (.call "_law_told" (.cons (.var 9 "up") .nil)) .nil))) (.lst (.cons (.lst (.cons (.cst (.int 1)) (.cons (.cst (.int 1)) (.cons (.cst (.int 1)) .nil)))) (.cons (.lst (.cons (.cst (.int 59)) (.cons (.cst (.int 1)) (.cons (.cst (.int 59)) .nil)))) .nil))))) .nil)))))))
def d_law : Fd := ⟨1, 11, b_law⟩
def own : List (Str × Fd) := [tp "_law_filled" d__law_filled, tp "_law_days" d__law_days, tp "_law_source" d__law_source, tp "_law_by_steps" d__law_by_steps, tp "_law_common" d__law_common, tp "_law_told" d__law_told, tp "_law_all" d__law_all, tp "law" d_law]
def tb : Tb := ⟨fun x => (match Pr.table.lookup x with | some d => some d | none => (match FD.table.lookup x with | some d => some d | none => own.lookup x)), fun x => Pr.cons.lookup x⟩
instance : Pr.Has tb := by
  refine ⟨fun x d e => ?_, fun x d e => e⟩
  · show (match Pr.table.lookup x with | some d => some d | none => (match FD.table.lookup x with | some d => some d | none => own.lookup x)) = some d
    rw [e]
theorem dj_Pr_FD : FD.table.all (fun p => (Pr.table.lookup p.1).isNone) = true := by decide +kernel
instance : FD.Has tb := by
  refine ⟨fun x d e => ?_⟩
  · show (match Pr.table.lookup x with | some d => some d | none => (match FD.table.lookup x with | some d => some d | none => own.lookup x)) = some d
    have h0 := Py.lookup_apart dj_Pr_FD e
    rw [h0]
    dsimp only
    rw [e]
theorem sc_is_int : FnScope ["value"] ["value"] (defScope (top 5)) := ⟨rfl, rfl, rfl, by decide +kernel, rfl, by decide +kernel, by decide +kernel⟩
theorem ch_is_int : chSs nm ["value"] (defScope (top 5)) Pr.b_is_int (defBody (top 5)) = true := by decide +kernel
theorem t_is_int : tb.T "is_int" = some Pr.d_is_int := Pr.t_is_int
theorem sc_in_range : FnScope ["value", "low", "high"] ["value", "low", "high"] (defScope (top 6)) := ⟨rfl, rfl, rfl, by decide +kernel, rfl, by decide +kernel, by decide +kernel⟩
theorem ch_in_range : chSs nm ["value", "low", "high"] (defScope (top 6)) Pr.b_in_range (defBody (top 6)) = true := by decide +kernel
theorem t_in_range : tb.T "in_range" = some Pr.d_in_range := Pr.t_in_range
theorem sc_is_item : FnScope ["value"] ["value"] (defScope (top 7)) := ⟨rfl, rfl, rfl, by decide +kernel, rfl, by decide +kernel, by decide +kernel⟩
theorem ch_is_item : chSs nm ["value"] (defScope (top 7)) Pr.b_is_item (defBody (top 7)) = true := by decide +kernel
theorem t_is_item : tb.T "is_item" = some Pr.d_is_item := Pr.t_is_item
theorem sc_named_in : FnScope ["script", "found", "word", "item", "other"] ["script"] (defScope (top 8)) := ⟨rfl, rfl, rfl, by decide +kernel, rfl, by decide +kernel, by decide +kernel⟩
theorem ch_named_in : chSs nm ["script", "found", "word", "item", "other"] (defScope (top 8)) Pr.b_named_in (defBody (top 8)) = true := by decide +kernel
theorem t_named_in : tb.T "named_in" = some Pr.d_named_in := Pr.t_named_in
theorem sc_moved_in_block : FnScope ["block", "word", "item", "other", "place"] ["block", "word", "item", "other"] (defScope (top 10)) := ⟨rfl, rfl, rfl, by decide +kernel, rfl, by decide +kernel, by decide +kernel⟩
theorem ch_moved_in_block : chSs nm ["block", "word", "item", "other", "place"] (defScope (top 10)) Pr.b_moved_in_block (defBody (top 10)) = true := by decide +kernel
theorem t_moved_in_block : tb.T "moved_in_block" = some Pr.d_moved_in_block := Pr.t_moved_in_block
theorem sc_blocks_in : FnScope ["script", "found", "item", "word", "other", "key", "block", "place"] ["script"] (defScope (top 11)) := ⟨rfl, rfl, rfl, by decide +kernel, rfl, by decide +kernel, by decide +kernel⟩
theorem ch_blocks_in : chSs nm ["script", "found", "item", "word", "other", "key", "block", "place"] (defScope (top 11)) Pr.b_blocks_in (defBody (top 11)) = true := by decide +kernel
theorem t_blocks_in : tb.T "blocks_in" = some Pr.d_blocks_in := Pr.t_blocks_in
theorem sc_sources_in : FnScope ["blocks", "key", "block", "item"] ["blocks"] (defScope (top 12)) := ⟨rfl, rfl, rfl, by decide +kernel, rfl, by decide +kernel, by decide +kernel⟩
theorem ch_sources_in : chSs nm ["blocks", "key", "block", "item"] (defScope (top 12)) Pr.b_sources_in (defBody (top 12)) = true := by decide +kernel
theorem t_sources_in : tb.T "sources_in" = some Pr.d_sources_in := Pr.t_sources_in
theorem sc_rings_in : FnScope ["blocks", "sources", "seen", "found", "start", "way", "item", "ring", "least"] ["blocks"] (defScope (top 14)) := ⟨rfl, rfl, rfl, by decide +kernel, rfl, by decide +kernel, by decide +kernel⟩
theorem ch_rings_in : chSs nm ["blocks", "sources", "seen", "found", "start", "way", "item", "ring", "least"] (defScope (top 14)) Pr.b_rings_in (defBody (top 14)) = true := by decide +kernel
theorem t_rings_in : tb.T "rings_in" = some Pr.d_rings_in := Pr.t_rings_in
theorem sc_settled_in : FnScope ["blocks", "sources", "on_rings", "ring", "item", "longest", "steps"] ["blocks"] (defScope (top 15)) := ⟨rfl, rfl, rfl, by decide +kernel, rfl, by decide +kernel, by decide +kernel⟩
theorem ch_settled_in : chSs nm ["blocks", "sources", "on_rings", "ring", "item", "longest", "steps"] (defScope (top 15)) Pr.b_settled_in (defBody (top 15)) = true := by decide +kernel
theorem t_settled_in : tb.T "settled_in" = some Pr.d_settled_in := Pr.t_settled_in
theorem sc_greatest_divisor : FnScope ["one", "other"] ["one", "other"] (defScope (top 16)) := ⟨rfl, rfl, rfl, by decide +kernel, rfl, by decide +kernel, by decide +kernel⟩
theorem ch_greatest_divisor : chSs nm ["one", "other"] (defScope (top 16)) Pr.b_greatest_divisor (defBody (top 16)) = true := by decide +kernel
theorem t_greatest_divisor : tb.T "greatest_divisor" = some Pr.d_greatest_divisor := Pr.t_greatest_divisor
theorem sc_lcm_of : FnScope ["numbers", "found", "number"] ["numbers"] (defScope (top 17)) := ⟨rfl, rfl, rfl, by decide +kernel, rfl, by decide +kernel, by decide +kernel⟩
theorem ch_lcm_of : chSs nm ["numbers", "found", "number"] (defScope (top 17)) Pr.b_lcm_of (defBody (top 17)) = true := by decide +kernel
theorem t_lcm_of : tb.T "lcm_of" = some Pr.d_lcm_of := Pr.t_lcm_of
theorem sc_is_friends : FnScope ["value", "item", "friend"] ["value"] (defScope (top 20)) := ⟨rfl, rfl, rfl, by decide +kernel, rfl, by decide +kernel, by decide +kernel⟩
theorem ch_is_friends : chSs nm ["value", "item", "friend"] (defScope (top 20)) Pr.b_is_friends (defBody (top 20)) = true := by decide +kernel
theorem t_is_friends : tb.T "is_friends" = some Pr.d_is_friends := Pr.t_is_friends
theorem sc_require_friends : FnScope ["value"] ["value"] (defScope (top 21)) := ⟨rfl, rfl, rfl, by decide +kernel, rfl, by decide +kernel, by decide +kernel⟩
theorem ch_require_friends : chSs nm ["value"] (defScope (top 21)) Pr.b_require_friends (defBody (top 21)) = true := by decide +kernel
theorem t_require_friends : tb.T "require_friends" = some Pr.d_require_friends := Pr.t_require_friends
theorem sc_commands_of : FnScope ["friends", "item"] ["friends"] (defScope (top 22)) := ⟨rfl, rfl, rfl, by decide +kernel, rfl, by decide +kernel, by decide +kernel⟩
theorem ch_commands_of : chSs nm ["friends", "item"] (defScope (top 22)) Pr.b_commands_of (defBody (top 22)) = true := by decide +kernel
theorem t_commands_of : tb.T "commands_of" = some Pr.d_commands_of := Pr.t_commands_of
theorem sc_count_final : FnScope ["friends", "found", "item", "friend", "here", "turn"] ["friends"] (defScope (top 23)) := ⟨rfl, rfl, rfl, by decide +kernel, rfl, by decide +kernel, by decide +kernel⟩
theorem ch_count_final : chSs nm ["friends", "found", "item", "friend", "here", "turn"] (defScope (top 23)) Pr.b_count_final (defBody (top 23)) = true := by decide +kernel
theorem t_count_final : tb.T "count_final" = some Pr.d_count_final := Pr.t_count_final
theorem sc_days_needed : FnScope ["friends"] ["friends"] (defScope (top 24)) := ⟨rfl, rfl, rfl, by decide +kernel, rfl, by decide +kernel, by decide +kernel⟩
theorem ch_days_needed : chSs nm ["friends"] (defScope (top 24)) Pr.b_days_needed (defBody (top 24)) = true := by decide +kernel
theorem t_days_needed : tb.T "days_needed" = some Pr.d_days_needed := Pr.t_days_needed
theorem sc_day_period : FnScope ["friends", "ring"] ["friends"] (defScope (top 25)) := ⟨rfl, rfl, rfl, by decide +kernel, rfl, by decide +kernel, by decide +kernel⟩
theorem ch_day_period : chSs nm ["friends", "ring"] (defScope (top 25)) Pr.b_day_period (defBody (top 25)) = true := by decide +kernel
theorem t_day_period : tb.T "day_period" = some Pr.d_day_period := Pr.t_day_period
theorem sc__law_fount : FnScope ["script", "k", "cell"] ["script", "k"] (defScope (top 27)) := ⟨rfl, rfl, rfl, by decide +kernel, rfl, by decide +kernel, by decide +kernel⟩
theorem ch__law_fount : chSs nm ["script", "k", "cell"] (defScope (top 27)) FD.b__law_fount (defBody (top 27)) = true := by decide +kernel
theorem t__law_fount : tb.T "_law_fount" = some FD.d__law_fount := FD.t__law_fount
theorem sc__law_sip : FnScope ["fount", "many", "found", "mixed"] ["fount", "many"] (defScope (top 28)) := ⟨rfl, rfl, rfl, by decide +kernel, rfl, by decide +kernel, by decide +kernel⟩
theorem ch__law_sip : chSs nm ["fount", "many", "found", "mixed"] (defScope (top 28)) FD.b__law_sip (defBody (top 28)) = true := by decide +kernel
theorem t__law_sip : tb.T "_law_sip" = some FD.d__law_sip := FD.t__law_sip
theorem sc__law_mixed : FnScope ["fount", "items", "left", "turn"] ["fount", "items"] (defScope (top 29)) := ⟨rfl, rfl, rfl, by decide +kernel, rfl, by decide +kernel, by decide +kernel⟩
theorem ch__law_mixed : chSs nm ["fount", "items", "left", "turn"] (defScope (top 29)) FD.b__law_mixed (defBody (top 29)) = true := by decide +kernel
theorem t__law_mixed : tb.T "_law_mixed" = some FD.d__law_mixed := FD.t__law_mixed
theorem sc__law_line : FnScope ["fount", "most", "wide", "count"] ["fount", "most"] (defScope (top 30)) := ⟨rfl, rfl, rfl, by decide +kernel, rfl, by decide +kernel, by decide +kernel⟩
theorem ch__law_line : chSs nm ["fount", "most", "wide", "count"] (defScope (top 30)) FD.b__law_line (defBody (top 30)) = true := by decide +kernel
theorem t__law_line : tb.T "_law_line" = some FD.d__law_line := FD.t__law_line
theorem sc__law_pieces : FnScope ["script", "items", "found", "item", "word", "one", "other", "rest", "piece", "at"] ["script", "items"] (defScope (top 35)) := ⟨rfl, rfl, rfl, by decide +kernel, rfl, by decide +kernel, by decide +kernel⟩
theorem ch__law_pieces : chSs nm ["script", "items", "found", "item", "word", "one", "other", "rest", "piece", "at"] (defScope (top 35)) FD.b__law_pieces (defBody (top 35)) = true := by decide +kernel
theorem t__law_pieces : tb.T "_law_pieces" = some FD.d__law_pieces := FD.t__law_pieces
theorem sc__law_put_in : FnScope ["pieces_here", "other", "found", "item", "whole", "piece"] ["pieces_here", "other"] (defScope (top 36)) := ⟨rfl, rfl, rfl, by decide +kernel, rfl, by decide +kernel, by decide +kernel⟩
theorem ch__law_put_in : chSs nm ["pieces_here", "other", "found", "item", "whole", "piece"] (defScope (top 36)) FD.b__law_put_in (defBody (top 36)) = true := by decide +kernel
theorem t__law_put_in : tb.T "_law_put_in" = some FD.d__law_put_in := FD.t__law_put_in
theorem sc__law_pals : FnScope ["fount", "most", "items", "style", "found", "spot", "item", "others", "other"] ["fount", "most"] (defScope (top 38)) := ⟨rfl, rfl, rfl, by decide +kernel, rfl, by decide +kernel, by decide +kernel⟩
theorem ch__law_pals : chSs nm ["fount", "most", "items", "style", "found", "spot", "item", "others", "other"] (defScope (top 38)) FD.b__law_pals (defBody (top 38)) = true := by decide +kernel
theorem t__law_pals : tb.T "_law_pals" = some FD.d__law_pals := FD.t__law_pals
theorem sc__law_commands : FnScope ["pals", "item"] ["pals"] (defScope (top 39)) := ⟨rfl, rfl, rfl, by decide +kernel, rfl, by decide +kernel, by decide +kernel⟩
theorem ch__law_commands : chSs nm ["pals", "item"] (defScope (top 39)) FD.b__law_commands (defBody (top 39)) = true := by decide +kernel
theorem t__law_commands : tb.T "_law_commands" = some FD.d__law_commands := FD.t__law_commands
theorem sc__law_filled : FnScope ["pieces_here", "piece"] ["pieces_here"] (defScope (top 40)) := ⟨rfl, rfl, rfl, by decide +kernel, rfl, by decide +kernel, by decide +kernel⟩
theorem ch__law_filled : chSs nm ["pieces_here", "piece"] (defScope (top 40)) b__law_filled (defBody (top 40)) = true := by decide +kernel
theorem t__law_filled : tb.T "_law_filled" = some d__law_filled := by rfl
theorem sc__law_days : FnScope ["pals", "items", "day", "history_here", "first", "last", "needed", "at", "one"] ["pals"] (defScope (top 41)) := ⟨rfl, rfl, rfl, by decide +kernel, rfl, by decide +kernel, by decide +kernel⟩
theorem ch__law_days : chSs nm ["pals", "items", "day", "history_here", "first", "last", "needed", "at", "one"] (defScope (top 41)) b__law_days (defBody (top 41)) = true := by decide +kernel
theorem t__law_days : tb.T "_law_days" = some d__law_days := by rfl
theorem sc__law_source : FnScope ["pals", "item", "here", "other"] ["pals", "item"] (defScope (top 42)) := ⟨rfl, rfl, rfl, by decide +kernel, rfl, by decide +kernel, by decide +kernel⟩
theorem ch__law_source : chSs nm ["pals", "item", "here", "other"] (defScope (top 42)) b__law_source (defBody (top 42)) = true := by decide +kernel
theorem t__law_source : tb.T "_law_source" = some d__law_source := by rfl
theorem sc__law_by_steps : FnScope ["pals", "sources_here", "item", "left", "needed", "whole", "seen", "ring", "here"] ["pals"] (defScope (top 43)) := ⟨rfl, rfl, rfl, by decide +kernel, rfl, by decide +kernel, by decide +kernel⟩
theorem ch__law_by_steps : chSs nm ["pals", "sources_here", "item", "left", "needed", "whole", "seen", "ring", "here"] (defScope (top 43)) b__law_by_steps (defBody (top 43)) = true := by decide +kernel
theorem t__law_by_steps : tb.T "_law_by_steps" = some d__law_by_steps := by rfl
theorem sc__law_common : FnScope ["one", "other"] ["one", "other"] (defScope (top 44)) := ⟨rfl, rfl, rfl, by decide +kernel, rfl, by decide +kernel, by decide +kernel⟩
theorem ch__law_common : chSs nm ["one", "other"] (defScope (top 44)) b__law_common (defBody (top 44)) = true := by decide +kernel
theorem t__law_common : tb.T "_law_common" = some d__law_common := by rfl
theorem sc__law_told : FnScope ["pals"] ["pals"] (defScope (top 45)) := ⟨rfl, rfl, rfl, by decide +kernel, rfl, by decide +kernel, by decide +kernel⟩
theorem ch__law_told : chSs nm ["pals"] (defScope (top 45)) b__law_told (defBody (top 45)) = true := by decide +kernel
theorem t__law_told : tb.T "_law_told" = some d__law_told := by rfl
theorem sc__law_all : FnScope ["items", "found", "item", "longer", "pals", "other", "one", "more"] ["items"] (defScope (top 46)) := ⟨rfl, rfl, rfl, by decide +kernel, rfl, by decide +kernel, by decide +kernel⟩
theorem ch__law_all : chSs nm ["items", "found", "item", "longer", "pals", "other", "one", "more"] (defScope (top 46)) b__law_all (defBody (top 46)) = true := by decide +kernel
theorem t__law_all : tb.T "_law_all" = some d__law_all := by rfl
theorem sc_law : FnScope ["script", "many", "items", "pals", "k", "fount", "most", "kept", "down", "up", "item"] ["script"] (defScope (top 47)) := ⟨rfl, rfl, rfl, by decide +kernel, rfl, by decide +kernel, by decide +kernel⟩
theorem ch_law : chSs nm ["script", "many", "items", "pals", "k", "fount", "most", "kept", "down", "up", "item"] (defScope (top 47)) b_law (defBody (top 47)) = true := by decide +kernel
theorem t_law : tb.T "law" = some d_law := by rfl
end K45

namespace K45
open PySem Py Mv Pr FD
variable {k : Nat} {A B : AH} {X : Dx} {Q : Dk}
theorem sp_common {a b : Nat} (h : Q (.int (Nat.gcd a b)) A) : cal tb (k + 1) "_law_common" [.int a, .int b] A X Q := by
  refine calN_eq t__law_common rfl ?_
  walk_at "run"
  refine whl_by (fun m σ A' => ∃ a' b' : Nat, A' = A ∧ σ = [some (.int a'), some (.int b')] ∧ m = euc a' b' ∧ Nat.gcd a' b' = Nat.gcd a b) ?_ (euc a b) ⟨a, b, rfl, rfl, rfl, rfl⟩
  rintro m σ A' nx ⟨a', b', rfl, rfl, rfl, hg⟩ hk
  by_cases c : b' = 0
  · subst c
    walk_at "run"
    rw [Nat.gcd_zero_right] at hg
    rw [hg]
    exact .id h
  · have c3 : ¬ ((b' : Int) = 0) := by omega
    have c2 : (0 : Int) < b' := by omega
    walk_at "run"
    exact hk _ _ _ (euc_succ c) ⟨b', a' % b', rfl, by show [some (D.int b'), some (D.int ((a' : Int) % b'))] = _; rw [Int.natCast_emod], rfl, by rw [← gcd_step]; exact hg⟩
/-- whose place an item takes -/
theorem sp_source {P : Fr} (v : VFr P) {i : Int} (hi : i ∈ frK P) (h : Q (.int (src (dayB P) i)) A) : cal tb (k + 1) "_law_source" [frD P, .int i] A X Q := by
  refine calN_eq t__law_source rfl ?_
  have e1 := look_fr v.nd hi
  walk_at "run"
  rw [e1]
  walk_at "run"
  rw [v.day_src] at h
  refine whl_by (fun m σ A' => ∃ x, A' = A ∧ x ∈ frK P ∧ x.toNat ≤ m ∧ src (blocks (dayC P)) x = src (blocks (dayC P)) i ∧ σ = [some (frD P), none, some (.int x), some (optD (frO P x))]) ?_ i.toNat ⟨i, rfl, hi, Nat.le_refl _, rfl, rfl⟩
  rintro m σ A' nx ⟨x, rfl, hx, hm, hs, rfl⟩ hk
  cases eo : frO P x with
  | none =>
    have hx0 := v.src_none eo
    have : optD none = D.non := rfl
    rw [this]
    walk_at "run"
    rw [← hs, hx0] at h
    exact .id h
  | some b =>
    have hd := v.src_day eo
    have : optD (some b) = D.int b := rfl
    rw [this]
    by_cases c : b < x
    · walk_at "run"
      have hb := (v.fr_of eo).2.1
      have e2 := look_fr v.nd hb
      rw [e2]
      walk_at "run"
      rw [if_pos c] at hd
      have h0 := (v.it b hb).1
      exact hk (m - 1) _ _ (by omega) ⟨b, rfl, hb, by omega, by rw [← hd]; exact hs, rfl⟩
    · walk_at "run"
      rw [if_neg c] at hd
      rw [← hs, hd] at h
      exact .id h
end K45

namespace K45
open PySem Py Mv Pr FD
variable {k : Nat} {A B : AH} {X : Dx} {Q : Dk}
theorem eqD_nil {r : List Int} {A : AH} : eqD A (linD r) (.tup []) = some (decide (r = [])) := eqD_good (goodLin (l := r) 0) (.tup .nil : GoodE 1 (.tup [])) (by decide) (by decide) (decide (r = [])) (by
  rw [decide_eq_true_iff]
  constructor
  · rintro rfl; rfl
  · intro e; have := D.tup.inj e; simpa using this)
abbrev filS (C : Bl) : List (List Int) := sortR (fil C)
theorem filS_len (C : Bl) : (filS C).length = (fil C).length := List.length_mergeSort _
theorem sp_filled {N : List Int} {C : Bl} (e : Eff N C) (hN : N.length ≤ 60) (h : Q (.fl ((filS C).map linD)) A) : cal tb (k + 1) "_law_filled" [blkD C] A X Q := by
  refine calN_eq t__law_filled rfl ?_
  walk_at "run"
  intro L hL
  rw [show (List.map (fun x => x.snd) (List.map (fun p : Int × List Int => ((Sum.inl p.1 : L2.Key), linD p.2)) C)) = (C.map (·.2)).map linD from by rw [List.map_map, List.map_map]; rfl]
  have len : (C.map (·.2)).length ≤ 60 := by
    rw [List.length_map, Eff.len e]
    exact hN
  refine lc_map (e := linD) (p := fun r => decide (r ≠ [])) (g := linD) hL (C.map (·.2)) (by rw [PySem.sizeLine_eq]; omega) (fun _ => holds_nil) ?_ ?_
  · intro r hr
    refine ⟨_, fun k h => h, fun A' R h _ => ?_, fun _ A' R h _ => ?_⟩
    · walk_at "run"
      rw [eqD_nil]
      walk_at "run"
      have e : (!decide (r = [])) = decide (r ≠ []) := by simp
      rw [e]
      exact h
    · walk_at "run"
      exact h
  unfold filS fil at h
  generalize hF : (C.map (·.2)).filter (fun r => decide (r ≠ [])) = F at h ⊢
  have hne : ∀ r ∈ F, r ≠ [] := fun r hr => by
    rw [← hF] at hr
    simpa using (List.mem_filter.mp hr).2
  walk_at "run"
  cases F with
  | nil =>
    show allocL _ _ _
    refine .fz ?_
    walk_at "run"
    rw [show sortI [] = [] from by unfold sortI; simp]
    rw [show sortR [] = [] from by unfold sortR; simp] at h
    exact .id h
  | cons r F =>
    rw [show intsD ((r :: F).map linD) = none from rfl, show rowsD ((r :: F).map linD) = none from rfl, tupsD_map _ hne]
    dsimp only
    refine .fz ?_
    walk_at "run"
    exact .id h
/-! the rows of a dict -/
abbrev rws (C : Bl) : List (List Int) := C.map (·.2)
theorem tupsL_rows : ∀ C : Bl, tupsL ((kvB C).map (·.2)) = some (rws C)
  | [] => rfl
  | p :: C => by
    show tupsL (.tup (p.2.map .int) :: (kvB C).map (·.2)) = _
    rw [tupsL, intsD_map, tupsL_rows C]
    rfl
theorem inlK_keys : ∀ C : Bl, inlK ((kvB C).map (·.1)) = some (keys C)
  | [] => rfl
  | p :: C => by
    show inlK (Sum.inl p.1 :: (kvB C).map (·.1)) = _
    rw [inlK, inlK_keys C]
    rfl
theorem tab_blk {N : List Int} {C : Bl} (e : Eff N C) : tabD (blkD C) = some (N, rws C) := by
  show tabD (.fd ((kvB C).map (·.1)) ((kvB C).map (·.2))) = _
  rw [tabD, inlK_keys, tupsL_rows]
  dsimp only
  rw [if_pos ⟨e.nodK, by unfold keys; rw [List.length_map, List.length_map]⟩, e.ks]
theorem tabs_blk {N : List Int} {f : Nat → Bl} (e : ∀ i, Eff N (f i)) : ∀ l : List Nat, tabsD N (l.map fun i => blkD (f i)) = some (l.map fun i => rws (f i))
  | [] => rfl
  | i :: l => by
    rw [List.map_cons, tabsD, tab_blk (e i), tabs_blk e l]
    dsimp only
    rw [if_pos rfl]
    rfl
theorem rws_inj {N : List Int} {C E : Bl} (c : Eff N C) (e : Eff N E) (h : rws C = rws E) : C = E := by
  have z : ∀ C : Bl, C = (keys C).zip (rws C) := fun C => by
    induction C with
    | nil => rfl
    | cons p C ih =>
      show p :: C = (p.1, p.2) :: (keys C).zip (rws C)
      rw [← ih]
  rw [z C, z E, h, c.ks, e.ks]
/-- what is told till day n -/
abbrev hist (f : Nat → Bl) (n : Nat) : List D := ((List.range n).map fun i => blkD (f i)) ++ [blkD (f n)]
theorem hist_eq (f : Nat → Bl) (n : Nat) : hist f n = (List.range (n + 1)).map fun i => blkD (f i) := by rw [List.range_succ]; simp
theorem hist_succ (f : Nat → Bl) (n : Nat) : hist f n ++ [blkD (f (n + 1))] = hist f (n + 1) := by rw [hist_eq]
theorem hist_len (f : Nat → Bl) (n : Nat) : (hist f n).length = n + 1 := by simp
theorem cut_end {α : Type} (xs : List α) (x : α) : cutD (xs ++ [x]) none (some (-1)) = xs := by
  unfold cutD
  have e1 : HT.sIx (xs ++ [x]).length (xs ++ [x]).length (some (-1)) = xs.length := by
    unfold HT.sIx
    rw [List.length_append]
    simp
    omega
  rw [e1, HT.sIx_none]
  simp
theorem idx_first {r : List (List Int)} : ∀ {rs : List (List (List Int))} {n : Nat}, rs[n]? = some r → (∀ m, m < n → rs[m]? ≠ some r) → idxT r rs = n
  | [], n, h, _ => by simp at h
  | x :: rs, 0, h, _ => by
    have e : x = r := by simpa using h
    subst e
    unfold idxT List.idxOf
    rw [List.findIdx_cons]
    have e2 : (@BEq.beq _ instBEqOfDecidableEq x x) = true := by
      show decide (x = x) = true
      simp
    rw [e2]
    rfl
  | x :: rs, n + 1, h, hm => by
    have e : x ≠ r := fun e => hm 0 (by omega) (by simp [e])
    have ih := idx_first (rs := rs) (n := n) (by simpa using h) fun m hm' => by
      have := hm (m + 1) (by omega)
      simpa using this
    unfold idxT List.idxOf at ih ⊢
    rw [List.findIdx_cons, ih]
    have e2 : (@BEq.beq _ instBEqOfDecidableEq x r) = false := by
      show decide (x = r) = false
      simp [e]
    rw [e2]
    rfl
theorem fl_good (F : List (List Int)) : GoodE 2 (.fl (F.map linD)) := .fl (GoodEs.map fun r _ => goodLin (l := r) 0)
theorem eqD_rows {F G : List (List Int)} {A : AH} : eqD A (.fl (F.map linD)) (.fl (G.map linD)) = some (decide (F = G)) := eqD_good (fl_good F) (fl_good G) (by decide) (by decide) _ (by
  rw [decide_eq_true_iff]
  constructor
  · rintro rfl; rfl
  · intro e
    have e := D.fl.inj e
    have g : ∀ F G : List (List Int), F.map linD = G.map linD → F = G := fun F => by
      induction F with
      | nil => intro G e; cases G <;> simp at e ⊢
      | cons a F ih =>
        intro G e
        cases G with
        | nil => simp at e
        | cons b G =>
          rw [List.map_cons, List.map_cons, List.cons.injEq] at e
          have h1 : a.map D.int = b.map D.int := D.tup.inj e.1
          have h2 : a = b := by
            have := congrArg intsD h1
            rw [intsD_map, intsD_map] at this
            exact Option.some.inj this
          rw [h2, ih G e.2]
    exact g F G e)
theorem enum_range (g : Nat → D) (m : Nat) : enumD ((List.range m).map g) = (List.range m).map fun i : Nat => D.tup [.int i, g i] := by
  unfold enumD
  apply List.ext_getElem
  · simp
  · intro i h1 h2
    simp
set_option maxHeartbeats 4000000 in
theorem sp_days {P : Fr} (v : VFr P) {T L : Nat} (hT : Settled (allI P) (dayB P) T) (hL : Peri (allI P) (dayB P) L) (hz : T + L ≤ 1000000) (h : Q (.fl [.int (ringI (allI P) (dayB P)).length, .int T, .int L]) A) : cal tb (k + 3) "_law_days" [frD P] A X Q := by
  refine calN_eq t__law_days rfl ?_
  have hl := v.len
  have e := v.dayE
  have aN : (allI P).length ≤ 60 := by rw [sortI_len, frK_len]; exact hl
  walk_at "run"
  rw [keyDs_fr]
  walk_at "run"
  refine ⟨by rw [frK_len]; omega, .fz ?_⟩
  walk_at "run"
  refine sp_commands v ?_
  walk_at "run"
  refine sp_pieces_l (l := allI P) v.all_nd aN (by have := v.day.len; omega) (fun c hc => let ⟨_, ⟨h1, h2⟩, h3⟩ := v.day_in c hc; ⟨h1, h2, h3⟩) ?_
  walk_at "run"
  refine sp_pieces_l (cs := []) (l := allI P) v.all_nd aN (by simp) (fun c hc => (nomatch hc)) ?_
  walk_at "run"
  refine .new fun p hp => ?_
  walk_at "run"
  have eN := fun i => eff_pow e i
  have row_iff : ∀ i n, rws (powB (allI P) (dayB P) i) = rws (powB (allI P) (dayB P) n) ↔ powB (allI P) (dayB P) i = powB (allI P) (dayB P) n := fun i n => ⟨rws_inj (eN i) (eN n), fun e => by rw [e]⟩
  have seen : ∀ n, decide (rws (powB (allI P) (dayB P) n) ∈ (List.range n).map fun i => rws (powB (allI P) (dayB P) i)) = decide (T + L ≤ n) := fun n => by
    have := e.told hT hL n
    rw [decide_eq_decide, ← this]
    simp only [List.mem_map, List.mem_range]
    constructor
    · rintro ⟨i, hi, q⟩; exact ⟨i, hi, (row_iff i n).mp q⟩
    · rintro ⟨i, hi, q⟩; exact ⟨i, hi, (row_iff i n).mpr q⟩
  refine whl_by (fun m σ A' => ∃ n, n ≤ T + L ∧ m = T + L - n ∧ A' = put A p (.lst (hist (powB (allI P) (dayB P)) n)) ∧ σ = [none, none, some (blkD (dayB P)), some (.ref p), none, none, none, none, none]) ?_ (T + L) ⟨0, Nat.zero_le _, rfl, rfl, rfl⟩
  rintro m σ A' nx ⟨n, hn, rfl, rfl, rfl⟩ hk
  generalize hf : powB (allI P) (dayB P) = f at *
  walk_at "run"
  rw [FD.atI_last]
  walk_at "run"
  rw [cut_end]
  refine .fz ?_
  walk_at "run"
  rw [tab_blk (eN n)]
  dsimp only
  rw [tabs_blk eN]
  dsimp only
  rw [seen]
  by_cases c : T + L ≤ n
  · have en : n = T + L := by omega
    subst en
    walk_at "run"
    rw [FD.atI_last]
    walk_at "run"
    have tb1 := tab_blk (eN (T + L))
    unfold blkD fdD at tb1
    rw [tb1]
    dsimp only
    rw [hist_eq, tabs_blk eN]
    dsimp only
    have fin : f (T + L) = f T := by rw [← hf]; exact e.pow_again hT.on hL (Nat.le_refl T) (Nat.dvd_refl L)
    have Lp := hL.pos
    rw [idx_first (n := T) (by rw [List.getElem?_map, List.getElem?_range (by omega)]; simp [fin]) (fun m hm' q => by
      rw [List.getElem?_map, List.getElem?_range (by omega)] at q
      have q : rws (f m) = rws (f (T + L)) := by simpa using q
      have q2 := (row_iff m (T + L)).mp q
      rw [fin, ← hf] at q2
      have : (powB (allI P) (dayB P) (m + (T - m))) = powB (allI P) (dayB P) m := by rw [show m + (T - m) = T by omega, q2]
      have := (e.pow_eq hT hL (by omega) this).1
      omega)]
    refine ⟨List.mem_map.mpr ⟨T + L, List.mem_range.mpr (by omega), rfl⟩, ?_⟩
    walk_at "run"
    rw [← hist_eq, FD.atI_last]
    walk_at "run"
    refine sp_filled (eN (T + L)) aN ?_
    walk_at "run"
    intro S hS
    have pS : S ≠ p := fun w => by rw [w, put_same] at hS; cases hS
    have es : enumD (hist f (T + L)) = (List.range (T + L + 1)).map fun i : Nat => D.tup [.int i, blkD (f i)] := by rw [hist_eq, enum_range]
    rw [es]
    refine lc_map (e := fun i : Nat => D.tup [.int i, blkD (f i)]) (p := fun i => decide (filS (f i) = filS (f (T + L)))) (g := fun i : Nat => D.int i) hS (List.range (T + L + 1)) (by rw [List.length_range, PySem.sizeLine_eq]; omega) (fun acc => holds_one (put_ne1 (Ne.symm pS) put_same)) ?_ ?_
    · intro i hi
      refine ⟨[none, none, some (blkD (dayB P)), some (.ref p), some (.int T), some (.fl ((filS (f (T + L))).map linD)), none, some (.int i), some (blkD (f i))], fun k h => ⟨rfl, h⟩, fun A' R h _ => ?_, fun _ A' R h _ => ?_⟩
      · walk_at "run"
        refine sp_filled (eN i) aN ?_
        walk_at "run"
        rw [eqD_rows]
        walk_at "run"
        exact h
      · walk_at "run"
        exact h
    have em : minI (((List.range (T + L + 1)).filter fun i => decide (filS (f i) = filS (f (T + L)))).map fun i : Nat => (i : Int)) = (T : Int) := by
      refine (minI_eq (List.mem_map.mpr ⟨T, List.mem_filter.mpr ⟨List.mem_range.mpr (by omega), by rw [fin]; simp⟩, rfl⟩) fun y hy => ?_).symm
      obtain ⟨i, hi, rfl⟩ := List.mem_map.mp hy
      have hi2 : filS (f i) = filS (f (T + L)) := by simpa using (List.mem_filter.mp hi).2
      rw [fin] at hi2
      have len := congrArg List.length hi2
      rw [filS_len, filS_len, ← hf, e.fil_len hT.on] at len
      have := hT.min i (e.fil_on len)
      omega
    have e5 : ((List.range (T + L + 1)).filter fun i => decide (filS (f i) = filS (f (T + L)))).map (fun i : Nat => D.int i) = (((List.range (T + L + 1)).filter fun i => decide (filS (f i) = filS (f (T + L)))).map fun i : Nat => (i : Int)).map D.int := by rw [List.map_map]; rfl
    have pos : 0 < (((List.range (T + L + 1)).filter fun i => decide (filS (f i) = filS (f (T + L)))).map fun i : Nat => (i : Int)).length := List.length_pos_of_mem (List.mem_map.mpr ⟨T, List.mem_filter.mpr ⟨List.mem_range.mpr (by omega), by rw [fin]; simp⟩, rfl⟩)
    rw [e5]
    generalize ((List.range (T + L + 1)).filter fun i => decide (filS (f i) = filS (f (T + L)))).map (fun i : Nat => (i : Int)) = ms at *
    walk_at "run"
    rw [em]
    have l1 : (List.map linD (filS (f (T + L)))).length = (ringI (allI P) (dayB P)).length := by rw [List.length_map, filS_len, fin, ← hf, e.fil_len hT.on]
    have l2 : (((hist f (T + L)).length : Nat) : Int) - 1 - (T : Int) = (L : Int) := by rw [hist_len]; omega
    rw [l1, l2]
    refine .fz ?_
    walk_at "run"
    exact .of (Sub.fresh hp) h
  · walk_at "run"
    rw [FD.atI_last]
    walk_at "run"
    refine sp_put_in (eN n) e aN ?_
    have ej : joinB (f n) (dayB P) = f (n + 1) := by rw [← hf]; rfl
    rw [ej]
    have hsz : (hist f n).length < sizeLine := by rw [hist_len, PySem.sizeLine_eq]; omega
    walk_at "run"
    rw [put_put]
    rw [hist_succ]
    exact hk (T + L - (n + 1)) _ _ (by omega) ⟨n + 1, by omega, rfl, rfl, rfl⟩
end K45

namespace K45
open PySem Py Mv Pr FD
variable {k : Nat} {A B : AH} {X : Dx} {Q : Dk}
/-- the sources of all, as they are noted -/
abbrev srcL (P : Fr) : List (Int × Int) := (frK P).map fun i => (i, src (dayB P) i)
theorem srcL_keys (P : Fr) : (srcL P).map (·.1) = frK P := by unfold srcL; rw [List.map_map]; exact List.map_id _
theorem src_look {P : Fr} (v : VFr P) {i : Int} (hi : i ∈ frK P) : lookK (kvI (srcL P)) (.inl i) = some (.int (src (dayB P) i)) := by
  rw [kvI_look, lookup_nd (l := srcL P) (by rw [srcL_keys]; exact v.nd) (List.mem_map.mpr ⟨i, hi, rfl⟩)]
  rfl
theorem fl_int_inj {l m : List Int} : (D.fl (l.map .int)) = (.fl (m.map .int)) ↔ l = m := by
  constructor
  · intro h
    have h := congrArg intsD (D.fl.inj h)
    rw [intsD_map, intsD_map] at h
    exact Option.some.inj h
  · intro h; rw [h]
theorem good_fl (l : List Int) : GoodE 1 (.fl (l.map .int)) := .fl (GoodEs.map fun _ _ => .int)
theorem eqD_fl {l m : List Int} {A : AH} : eqD A (.fl (l.map .int)) (.fl (m.map .int)) = some (decide (l = m)) := eqD_good (good_fl l) (good_fl m) (by decide) (by decide) _ (by rw [decide_eq_true_iff, fl_int_inj])
set_option maxHeartbeats 4000000 in
theorem sp_by_steps {P : Fr} (v : VFr P) {T L : Nat} (hT : Settled (allI P) (dayB P) T) (hL : Peri (allI P) (dayB P) L) (hz : L ≤ 2 ^ 60) (h : Q (.fl [.int (ringI (allI P) (dayB P)).length, .int T, .int L]) A) : cal tb (k + 3) "_law_by_steps" [frD P] A X Q := by
  refine calN_eq t__law_by_steps rfl ?_
  have hl := v.len
  have e := v.dayE
  have aN : (allI P).length ≤ 60 := by rw [sortI_len, frK_len]; exact hl
  walk_at "run"
  refine .new fun p hp => ?_
  walk_at "run"
  rw [keys_fr]
  refine for_st (β := List Int) (b := []) (e := D.int) (fun d r σ A' => A' = put A p (.dct (kvI (d.map fun i => (i, src (dayB P) i)))) ∧ σ = [some (frD P), some (.ref p), none, none, none, none, none, none, none] ∧ d ++ r = frK P) (fun d i => d ++ [i]) (frK P) ⟨rfl, rfl, rfl⟩ (fun _ _ _ _ _ => holds_nil) ?_ ?_
  · rintro d i r σ A' nx hi ⟨rfl, rfl, hd⟩ hk
    walk_at "run"
    refine sp_source v hi ?_
    have dl : d.length ≤ 60 := by
      have : d.length ≤ (frK P).length := by rw [← hd]; simp
      rw [frK_len] at this
      omega
    walk_at "run"
    refine ⟨by rw [kvI_len, List.length_map, PySem.sizeLine_eq]; omega, ?_⟩
    refine hk _ _ ⟨?_, rfl, by simpa using hd⟩
    have hn : i ∉ (d.map fun i => (i, src (dayB P) i)).map (·.1) := fun z => by
      rw [List.map_map] at z
      have z : i ∈ d := by simpa using z
      have nd := v.nd
      rw [← hd, List.nodup_append] at nd
      exact nd.2.2 i z i (by simp) rfl
    rw [put_put, kvI_put hn]
    simp
  rintro σ A' ⟨rfl, rfl, _⟩
  have e0 : (frK P).foldl (fun d i => d ++ [i]) [] = frK P := by
    have : ∀ (l d : List Int), l.foldl (fun d i => d ++ [i]) d = d ++ l := fun l => by
      induction l with
      | nil => intro d; simp
      | cons x l ih => intro d; rw [List.foldl_cons, ih]; simp
    simpa using this (frK P) []
  rw [e0]
  walk_at "run"
  rw [keyDs_fr]
  walk_at "run"
  rw [rem_put hp]
  refine ⟨by rw [frK_len]; omega, .fz ?_⟩
  walk_at "run"
  have imN : ∀ n, (im (allI P) (dayB P) n).length ≤ 60 := fun n => Nat.le_trans (len_of_sub im_nd fun y hy => by
    obtain ⟨x, hx, rfl⟩ := im_mem.mp hy
    exact e.it_in n hx) aN
  have imF : ∀ n, ∀ x ∈ im (allI P) (dayB P) n, x ∈ frK P := fun n x hx => by
    obtain ⟨y, hy, rfl⟩ := im_mem.mp hx
    exact allI_mem.mp (e.it_in n hy)
  have im0 : allI P = im (allI P) (dayB P) 0 := (im_zero v.all_nd (sortI_eq sortI_perm)).symm
  have comp : ∀ (n : Nat) (σ : DSt) (A' : AH) (X' : Dx) (Q' : Dk), σ = [none, some (fdD (kvI (srcL P))), none, some (.fl ((im (allI P) (dayB P) n).map .int)), some (.int n), none, none, none, none] → Q' (.fl ((im (allI P) (dayB P) (n + 1)).map .int)) A' →
      (ev2 ⟨cal tb (k + 2), tb.C, noSub⟩ (.sset (.lc (.idx (.var 1 "sources_here") (.var 2 "item")) (.name 2 "item") (.seq (.var 3 "left")) .nil [("item", 2)]))).1 σ A' X' Q' := fun n σ A' X' Q' hσ hQ => by
    subst hσ
    walk_at "run"
    intro S hS
    refine lc_map (e := D.int) (p := fun _ => true) (g := fun x => D.int (src (dayB P) x)) hS (im (allI P) (dayB P) n) (by have := imN n; rw [PySem.sizeLine_eq]; omega) (fun _ => holds_nil) ?_ ?_
    · intro x hx
      refine ⟨[none, some (fdD (kvI (srcL P))), some (.int x), some (.fl ((im (allI P) (dayB P) n).map .int)), some (.int n), none, none, none, none], fun k h => h, fun A' R h _ => h, fun _ A' R h _ => ?_⟩
      walk_at "run"
      rw [src_look v (imF n x hx)]
      walk_at "run"
      exact h
    rw [filter_yes]
    walk_at "run"
    rw [intsD_mapf]
    walk_at "run"
    refine ⟨by rw [List.length_map]; have := imN n; omega, ?_, ?_⟩
    · have h1 := dd_len ((im (allI P) (dayB P) n).map (src (dayB P))) []
      have h2 := imN n
      rw [List.length_map, List.length_nil] at h1
      show ((List.foldl _ _ _ : List Int)).length < 64
      omega
    · rw [im_succ]
      exact .fz hQ
  rw [show (List.map D.int (sortI (frK P))) = (im (allI P) (dayB P) 0).map .int from by rw [← im0]]
  refine whl_by (fun m σ A' => ∃ n, n ≤ T ∧ m = T - n ∧ A' = A ∧ σ = [none, some (fdD (kvI (srcL P))), none, some (.fl ((im (allI P) (dayB P) n).map .int)), some (.int n), none, none, none, none]) ?_ T ⟨0, Nat.zero_le _, rfl, rfl, rfl⟩
  rintro m σ A' nx ⟨n, hn, rfl, rfl, rfl⟩ hk
  refine comp n _ _ noX _ rfl ?_
  walk_at "run"
  rw [eqD_fl]
  have hs := e.im_stop hT n
  by_cases c : T ≤ n
  · have en : n = T := by omega
    subst en
    rw [decide_eq_true (hs.mpr c)]
    walk_at "run"
    refine .new fun p2 hp2 => ?_
    walk_at "run"
    have on : ∀ x, x ∈ im (allI P) (dayB P) n ↔ x ∈ ringI (allI P) (dayB P) := fun x => e.im_on hT.on
    have lim := e.im_len hT.on
    generalize im (allI P) (dayB P) n = ims at *
    have np2 : A' p2 = none := hp2
    refine for_inv (fun j σ A1 => ∃ (S : List Int) (W : Nat), Py.Sub A' A1 ∧ A1 p2 = some (.lst (S.map .int)) ∧ σ = [none, some (fdD (kvI (srcL P))), none, some (.fl (ims.map .int)), some (.int n), some (.int W), some (.ref p2), none, none] ∧ Walked (allI P) (dayB P) S W ∧ (∀ x ∈ ims.take j, x ∈ S)) ⟨[], 1, Sub.fresh hp2, put_same, rfl, .start, by simp⟩ (fun _ _ _ _ _ => holds_nil) ?_ ?_
    · rintro j d σ A1 nx2 hd ⟨S, W, sub, at2, rfl, wk, hS⟩ hk2
      rw [List.getElem?_map] at hd
      obtain ⟨x, hx, rfl⟩ := Option.map_eq_some_iff.mp hd
      have xr : x ∈ ringI (allI P) (dayB P) := (on x).mp (List.mem_of_getElem? hx)
      walk_at "run"
      refine .new fun p3 hp3 => ?_
      have n32 : p3 ≠ p2 := fun w => by rw [w, at2] at hp3; cases hp3
      have np3 : A' p3 = none := sub_none sub hp3
      walk_at "run"
      refine whl_by (fun m σ A2 => ∃ w : Nat, w ≤ 60 ∧ m = 60 - w ∧ Py.Sub A' A2 ∧ A2 p2 = some (.lst ((S ++ wayB (dayB P) x w).map .int)) ∧ A2 p3 = some (.lst ((wayB (dayB P) x w).map .int)) ∧ (wayB (dayB P) x w).Nodup ∧ (x ∈ S → w = 0) ∧ σ = [none, some (fdD (kvI (srcL P))), none, some (.fl (ims.map .int)), some (.int n), some (.int W), some (.ref p2), some (.ref p3), some (.int (itB (dayB P) w x))]) ?_ 60 ⟨0, by omega, rfl, sub_put sub np3, by rw [put_ne2 n32 at2]; simp [wayB], put_same, by simp [wayB], fun _ => rfl, rfl⟩
      rintro m σ A2 nx3 ⟨w, hw, rfl, sub2, a2, a3, nd, hxS, rfl⟩ hk3
      walk_at "run"
      refine ⟨flat_ints, ?_⟩
      rw [inF_int]
      by_cases hin : itB (dayB P) w x ∈ S ++ wayB (dayB P) x w
      · have er : eqD A2 (.ref p3) (.fl []) = some (decide (wayB (dayB P) x w = [])) := by
          rw [eqD_refL a3]
          exact eqD_fl (m := [])
        have mem : ∀ S' : List Int, (∀ y ∈ S, y ∈ S') → x ∈ S' → ∀ y ∈ ims.take (j + 1), y ∈ S' := fun S' h1 h2 y hy => by
          rw [List.take_succ, hx] at hy
          rcases List.mem_append.mp hy with hy | hy
          · exact h1 y (hS y hy)
          · have : y = x := by simpa using hy
            rw [this]
            exact h2
        have ll : ((wayB (dayB P) x w).map D.int).length = w := by rw [List.length_map, way_len]
        by_cases hx0 : x ∈ S
        · have w0 := hxS hx0
          subst w0
          have e0 : wayB (dayB P) x 0 = [] := rfl
          rw [e0, List.append_nil] at a2
          rw [e0] at er
          walk_at "run"
          refine .fz ?_
          walk_at "run"
          rw [er]
          walk_at "run"
          exact hk2 _ _ ⟨S, W, sub2, a2, rfl, wk, mem S (fun _ h => h) hx0⟩
        · have hw0 : 0 < w := by
            apply Classical.byContradiction
            intro z
            have : w = 0 := by omega
            subst this
            have : x ∈ S ++ [] := hin
            rw [List.append_nil] at this
            exact hx0 this
          have q : itB (dayB P) w x = x := by
            rcases List.mem_append.mp hin with z | z
            · exact (wk.off e xr hx0 w z).elim
            · obtain ⟨i, hi, q⟩ := way_mem.mp z
              have := e.way_back xr nd hi q.symm
              subst this
              exact q.symm
          have wk' := wk.more e xr hx0 nd hw0 q
          have hne : wayB (dayB P) x w ≠ [] := fun z => by rw [z] at ll; simp at ll; omega
          have W60 : W ≤ 2 ^ 60 := Nat.le_trans (Nat.le_of_dvd hL.pos (wk.le hL)) hz
          have g0 : 0 < Nat.gcd W w := Nat.gcd_pos_of_pos_right _ hw0
          have g1 : Nat.gcd W w ≤ w := Nat.gcd_le_right _ hw0
          rw [decide_eq_false hne] at er
          walk_at "run"
          refine .fz ?_
          walk_at "run"
          rw [er]
          walk_at "run"
          rw [ll]
          refine ⟨cmulw 61 7 (by omega) (by omega) (by decide) (by decide) (by decide), ?_⟩
          walk_at "run"
          rw [ll]
          refine sp_common ?_
          walk_at "run"
          refine ⟨cdivw 61 (by omega) (by omega) (by decide) (by decide), ?_⟩
          have el : (W : Int) * (w : Int) / ((Nat.gcd W w : Nat) : Int) = ((Nat.lcm W w : Nat) : Int) := by
            unfold Nat.lcm
            rw [Int.natCast_ediv, Int.natCast_mul]
          walk_at "run"
          rw [el]
          exact hk2 _ _ ⟨S ++ wayB (dayB P) x w, Nat.lcm W w, sub2, a2, rfl, wk', mem _ (fun _ h => List.mem_append_left _ h) (List.mem_append_right _ (way_mem.mpr ⟨0, hw0, rfl⟩))⟩
      · have nd1 : (wayB (dayB P) x (w + 1)).Nodup := by
          rw [way_succ, List.nodup_append]
          refine ⟨nd, by simp, fun a ha b hb z => ?_⟩
          subst z
          have : a = itB (dayB P) w x := by simpa using hb
          rw [this] at ha
          exact hin (List.mem_append_right _ ha)
        have hw1 : w < 60 := by
          have := len_of_sub nd1 (m := allI P) fun y hy => by
            obtain ⟨i, _, rfl⟩ := way_mem.mp hy
            exact e.it_in i (e.ring_sub xr)
          rw [way_len] at this
          omega
        have l3 : ((wayB (dayB P) x w).map D.int).length < sizeLine := by rw [List.length_map, way_len, PySem.sizeLine_eq]; omega
        have l2 : ((S ++ wayB (dayB P) x w).map D.int).length < sizeLine := by
          have h1 := len_of_sub wk.nd (m := allI P) fun y hy => e.ring_sub (wk.sub y hy)
          rw [List.length_map, List.length_append, way_len, PySem.sizeLine_eq]
          omega
        have xN : itB (dayB P) w x ∈ frK P := allI_mem.mp (e.it_in w (e.ring_sub xr))
        walk_at "run"
        rw [src_look v xN]
        walk_at "run"
        refine hk3 (60 - (w + 1)) _ _ (by omega) ⟨w + 1, by omega, rfl, sub_put (sub_put sub2 np3) np2, by rw [put_same, way_succ]; simp, by rw [put_ne n32, put_same, way_succ]; simp, nd1, fun hx => ?_, by rw [it_src]; rfl⟩
        have w0 := hxS hx
        subst w0
        exact (hin (List.mem_append_left _ hx)).elim
    · rintro σ A1 ⟨S, W, sub, at2, rfl, wk, hS⟩
      rw [List.length_map, List.take_length] at hS
      have pe := wk.peri fun y hy => hS y ((on y).mpr hy)
      have eW := pe.uniq hL
      subst eW
      walk_at "run"
      refine .fz ?_
      walk_at "run"
      rw [List.length_map, lim]
      exact .of sub h
  · rw [decide_eq_false fun q => c (hs.mp q)]
    walk_at "run"
    intro S hS
    refine lc_map (e := D.int) (p := fun _ => true) (g := fun x => D.int (src (dayB P) x)) hS (im (allI P) (dayB P) n) (by have := imN n; rw [PySem.sizeLine_eq]; omega) (fun _ => holds_nil) ?_ ?_
    · intro x hx
      refine ⟨[none, some (fdD (kvI (srcL P))), some (.int x), some (.fl ((im (allI P) (dayB P) n).map .int)), some (.int n), none, none, none, none], fun k h => h, fun A' R h _ => h, fun _ A' R h _ => ?_⟩
      walk_at "run"
      rw [src_look v (imF n x hx)]
      walk_at "run"
      exact h
    rw [filter_yes]
    walk_at "run"
    rw [intsD_mapf]
    walk_at "run"
    refine ⟨by rw [List.length_map]; have := imN n; omega, ?_, ?_⟩
    · have h1 := dd_len ((im (allI P) (dayB P) n).map (src (dayB P))) []
      have h2 := imN n
      rw [List.length_map, List.length_nil] at h1
      show ((List.foldl _ _ _ : List Int)).length < 64
      omega
    · rw [im_succ]
      refine .fz ?_
      walk_at "run"
      exact hk (T - (n + 1)) _ _ (by omega) ⟨n + 1, by omega, rfl, rfl, rfl⟩
end K45

namespace K45
open PySem Py Mv Pr FD
variable {k : Nat} {A B : AH} {X : Dx} {Q : Dk}
theorem sp_told {P : Fr} (v : VFr P) (h : ∀ T L, Settled (allI P) (dayB P) T → Peri (allI P) (dayB P) L → T ≤ P.length → L ≤ 2 ^ P.length → Q (.fl [.int (ringI (allI P) (dayB P)).length, .int T, .int L]) A) : cal tb (k + 8) "_law_told" [frD P] A X Q := by
  refine calN_eq t__law_told rfl ?_
  walk_at "run"
  refine Pr.sp_count_final v ?_
  walk_at "run"
  refine Pr.sp_days_needed v ?_
  intro T hT
  walk_at "run"
  refine Pr.sp_day_period v ?_
  intro R hR
  walk_at "run"
  refine .fz ?_
  walk_at "run"
  rw [v.day_cnt]
  exact .id (h T _ (v.day_settled hT) (v.day_peri hR) (Nat.le_trans (hT.le v.day.eff) (v.named_len)) (Nat.le_trans (hR.le9 v.day.eff (Nat.le_refl _)) (Nat.pow_le_pow_right (by decide) v.named_len)))
/-- one friend more for each -/
abbrev opts (items : List Int) (i : Int) : List (Option Int) := none :: (items.filter fun x => decide (x ≠ i)).map some
set_option maxHeartbeats 4000000 in
theorem sp_all {items : List Int} (nd : items.Nodup) (it : ∀ i ∈ items, VItem i) (ne : items ≠ []) (hl : items.length ≤ 4) (h : ∀ Ps : List Fr, (∀ P ∈ Ps, VFr P ∧ P.length ≤ 4) → Q (.fl (Ps.map frD)) A) : cal tb (k + 1) "_law_all" [.fl (items.map .int)] A X Q := by
  refine calN_eq t__law_all rfl ?_
  walk_at "run"
  refine .fz ?_
  walk_at "run"
  refine .fz ?_
  walk_at "run"
  refine for_inv (fun j σ A' => ∃ Ps : List Fr, A' = A ∧ σ = [some (.fl (items.map .int)), some (.fl (Ps.map frD)), none, none, none, none, none, none] ∧ Ps.length ≤ 5 ^ j ∧ ∀ P ∈ Ps, frK P = items.take j ∧ ∀ q ∈ P, ∀ f, q.2 = some f → f ∈ items ∧ f ≠ q.1) ⟨[[]], rfl, rfl, by simp, fun P hP => by cases List.mem_singleton.mp hP; exact ⟨rfl, fun q hq => (nomatch hq)⟩⟩ (fun _ _ _ _ _ => holds_nil) ?_ ?_
  · rintro j d σ A' nx hd ⟨Ps, rfl, rfl, hlen, hP⟩ hk
    rw [List.getElem?_map] at hd
    obtain ⟨i, hi, rfl⟩ := Option.map_eq_some_iff.mp hd
    obtain ⟨hj, hij⟩ := List.getElem?_eq_some_iff.mp hi
    have il : i ∈ items := hij ▸ List.getElem_mem hj
    have big : 5 ^ j ≤ 625 := Nat.pow_le_pow_right (n := 5) (by decide) (show j ≤ 4 by omega)
    have ol : (opts items i).length ≤ 5 := by
      have := List.length_filter_le (fun x => decide (x ≠ i)) items
      simp only [opts, List.length_cons, List.length_map]
      omega
    walk_at "run"
    refine .new fun p hp => ?_
    walk_at "run"
    refine for_st (β := List Fr) (b := []) (e := frD) (fun b r σ A1 => A1 = put A' p (.lst (b.map frD)) ∧ σ = [some (.fl (items.map .int)), none, some (.int i), some (.ref p), none, none, none, none] ∧ b.length + 5 * r.length ≤ 5 * Ps.length) (fun b P => b ++ (opts items i).map fun o => P ++ [(i, o)]) Ps ⟨rfl, rfl, by simp⟩ (fun _ _ _ _ _ => holds_nil) ?_ ?_
    · rintro b P r σ A1 nx2 hPm ⟨rfl, rfl, hz⟩ hk2
      rw [List.length_cons] at hz
      have hiP : i ∉ frK P := by
        rw [(hP P hPm).1]
        intro z
        have nd := nd
        rw [← List.take_append_drop j items, List.nodup_append] at nd
        refine nd.2.2 i z i ?_ rfl
        rw [List.drop_eq_getElem_cons hj, hij]
        exact List.mem_cons_self
      have lP : P.length ≤ 4 := by
        have := congrArg List.length (hP P hPm).1
        rw [frK_len, List.length_take] at this
        omega
      walk_at "run"
      refine .fz ?_
      walk_at "run"
      intro S hS
      refine lc_map (e := D.int) (p := fun x => decide (x ≠ i)) (g := D.int) hS items (by rw [PySem.sizeLine_eq]; omega) (fun _ => holds_nil) ?_ ?_
      · intro x hx
        refine ⟨[some (.fl (items.map .int)), none, some (.int i), some (.ref p), some (frD P), none, some (.int x), none], fun k h => h, fun A' R h _ => ?_, fun hp A' R h _ => ?_⟩
        · walk_at "run"
          have e : (!decide (x = i)) = decide (x ≠ i) := by by_cases c : x = i <;> simp [c]
          rw [e]
          exact h
        · walk_at "run"
          exact h
      walk_at "run"
      refine ⟨by have := List.length_filter_le (fun x => decide (x ≠ i)) items; rw [List.length_map, List.length_singleton, PySem.sizeLine_eq]; omega, .fz ?_⟩
      walk_at "run"
      refine forR_src (es := (opts items i).map optD) (by simp [opts, optD]) ?_
      refine for_st (β := List Fr) (b := b) (e := optD) (fun c r σ A2 => A2 = put A' p (.lst (c.map frD)) ∧ σ = [some (.fl (items.map .int)), none, some (.int i), some (.ref p), some (frD P), none, none, none] ∧ c.length + r.length ≤ b.length + 5) (fun c o => c ++ [P ++ [(i, o)]]) (opts items i) ⟨rfl, rfl, by omega⟩ (fun _ _ _ _ _ => holds_nil) ?_ ?_
      · rintro c o r' σ A2 nx3 ho ⟨rfl, rfl, hc⟩ hk3
        rw [List.length_cons] at hc
        walk_at "run"
        refine .new fun q hq => ?_
        have nqp : q ≠ p := fun w => by rw [w, put_same] at hq; cases hq
        walk_at "run"
        refine ⟨by rw [List.length_map, PySem.sizeLine_eq]; omega, ?_⟩
        rw [put_put]
        walk_at "run"
        rw [rem_put hq]
        walk_at "run"
        refine ⟨by rw [List.length_map, PySem.sizeLine_eq]; omega, ?_⟩
        refine hk3 _ _ ⟨?_, rfl, by simp; omega⟩
        rw [put_put, List.map_append]
        show put A' p (.lst (c.map frD ++ [fdD (setK (kvP P) (.inl i) (optD o))])) = _
        rw [kvP_put hiP]
        rfl
      · rintro σ A2 ⟨rfl, rfl, _⟩
        have ef : ∀ (l : List (Option Int)) (c : List Fr), l.foldl (fun c o => c ++ [P ++ [(i, o)]]) c = c ++ l.map fun o => P ++ [(i, o)] := fun l => by
          induction l with
          | nil => intro c; simp
          | cons x l ih => intro c; rw [List.foldl_cons, ih]; simp
        rw [ef]
        walk_at "run"
        exact hk2 _ _ ⟨rfl, rfl, by rw [List.length_append, List.length_map]; omega⟩
    · rintro σ A1 ⟨rfl, rfl, hz⟩
      walk_at "run"
      rw [rem_put hp]
      have ef : ∀ (l b : List Fr), l.foldl (fun b P => b ++ (opts items i).map fun o => P ++ [(i, o)]) b = b ++ (l.map fun P => (opts items i).map fun o => P ++ [(i, o)]).flatten := fun l => by
        induction l with
        | nil => intro b; simp
        | cons x l ih => intro b; rw [List.foldl_cons, ih]; simp
      refine hk _ _ ⟨_, rfl, rfl, ?_, fun P' hP' => ?_⟩
      · rw [List.length_nil] at hz
        have : 5 ^ (j + 1) = 5 * 5 ^ j := by rw [Nat.pow_succ, Nat.mul_comm]
        omega
      · rw [ef, List.nil_append] at hP'
        obtain ⟨l, hl2, hP'⟩ := List.mem_flatten.mp hP'
        obtain ⟨P, hPm, rfl⟩ := List.mem_map.mp hl2
        obtain ⟨o, ho, rfl⟩ := List.mem_map.mp hP'
        obtain ⟨h1, h2⟩ := hP P hPm
        refine ⟨?_, fun q hq f hf => ?_⟩
        · rw [List.take_succ, ← h1, hi]
          unfold frK
          simp
        · rcases List.mem_append.mp hq with hq | hq
          · exact h2 q hq f hf
          · cases List.mem_singleton.mp hq
            have hf : o = some f := hf
            subst hf
            have : f ∈ items.filter fun x => decide (x ≠ i) := by simpa [opts] using ho
            obtain ⟨g1, g2⟩ := List.mem_filter.mp this
            exact ⟨g1, by simpa using g2⟩
  · rintro σ A' ⟨Ps, rfl, rfl, _, hP⟩
    rw [List.length_map, List.take_length] at hP
    walk_at "run"
    refine .id (h Ps fun P hPm => ?_)
    obtain ⟨h1, h2⟩ := hP P hPm
    refine ⟨⟨fun z => ne ?_, by rw [h1]; exact nd, fun i hi => it i (h1 ▸ hi), fun q hq f hf => by rw [h1]; exact h2 q hq f hf⟩, by rw [← frK_len, h1]; exact hl⟩
    rw [z] at h1
    exact h1.symm
end K45

namespace K45
open PySem Py Mv Pr FD
/-- three numbers -/
abbrev d3 (a b c : Int) : D := .fl [.int a, .int b, .int c]
theorem rep3 {a b c : Nat} (ha : a ≤ 2 ^ 60) (hb : b ≤ 2 ^ 60) (hc : c ≤ 2 ^ 60) : Rep (d3 a b c) := by
  have e : (2 ^ 60 : Nat) < 10 ^ 400 := by decide +kernel
  exact rep_of (n := 1) (b := 3) (.fl (.cons (c := 0) (e := 2) (.int (by omega)) (.cons (c := 0) (e := 1) (.int (by omega)) (.cons (c := 0) (e := 0) (.int (by omega)) .nil (by omega)) (by omega)) (by omega))) (by decide) (by decide)
theorem eq3 {a b c : Int} {A : AH} : eqD A (d3 a b c) (d3 a b c) = some true := by
  have := eqD_fl (l := [a, b, c]) (m := [a, b, c]) (A := A)
  rw [decide_eq_true rfl] at this
  exact this
theorem three_eqv (a b c : Int) : (PyData.list [.int a, .int b, .int c]).eqv (PyData.list [.int a, .int b, .int c]) = true := by simp [PyData.eqv, PyData.eqvAll]
def downJ (j : Nat) : Fr := (0, some 59) :: (List.range j).map fun k : Nat => ((k : Int) + 1, some (k : Int))
def upJ (j : Nat) : Fr := (59, some 0) :: (List.range j).map fun k : Nat => ((k : Int), some ((k : Int) + 1))
theorem downJ_new (j : Nat) : ((j : Int) + 1) ∉ frK (downJ j) := by
  unfold frK downJ
  simp only [List.map_cons, List.map_map, List.mem_cons, List.mem_map, List.mem_range, Function.comp_apply]
  rintro (h | ⟨k, hk, h⟩) <;> omega
theorem upJ_new {j : Nat} (hj : j < 59) : (j : Int) ∉ frK (upJ j) := by
  unfold frK upJ
  simp only [List.map_cons, List.map_map, List.mem_cons, List.mem_map, List.mem_range, Function.comp_apply]
  rintro (h | ⟨k, hk, h⟩) <;> omega
theorem downJ_succ (j : Nat) : downJ j ++ [((j : Int) + 1, some (j : Int))] = downJ (j + 1) := by unfold downJ; rw [List.range_succ]; simp
theorem upJ_succ (j : Nat) : upJ j ++ [((j : Int), some ((j : Int) + 1))] = upJ (j + 1) := by unfold upJ; rw [List.range_succ]; simp
theorem J_len (j : Nat) : (kvP (downJ j)).length = j + 1 ∧ (kvP (upJ j)).length = j + 1 := by unfold downJ upJ; simp
def lev : Nat := 12
set_option maxHeartbeats 4000000 in
theorem spec : LawIs (cal tb lev) "law" := by
  intro ns hs
  have hlen := hs.1
  refine calN_eq t_law rfl ?_
  walk_at "run"
  refine for_rng (fun j σ A' => A' = A0 ∧ σ = [some (.fl (ns.map .int)), none, none, none, none, none, none, none, none, none, none]) ⟨rfl, rfl⟩ ?_ ?_
  · rintro j σ A1 nx hj ⟨rfl, rfl⟩ hk
    have hj4 : j < 4 := hj
    walk_at "run"
    refine .fz ?_
    walk_at "run"
    have ej : (1 : Int) + (j : Nat) = ((j + 1 : Nat) : Int) := by omega
    rw [ej]
    rw [cut_hi]
    have ei : List.take (j + 1) [D.int 3, D.int 7, D.int 12, D.int 59] = (([3, 7, 12, 59] : List Int).take (j + 1)).map D.int := by rw [List.map_take]; rfl
    rw [ei]
    refine .fz ?_
    walk_at "run"
    have q1 : ∀ i ∈ List.range 4, (([3, 7, 12, 59] : List Int).take (i + 1)).Nodup ∧ (∀ x ∈ ([3, 7, 12, 59] : List Int).take (i + 1), 0 ≤ x ∧ x < 60) ∧ ([3, 7, 12, 59] : List Int).take (i + 1) ≠ [] ∧ (([3, 7, 12, 59] : List Int).take (i + 1)).length ≤ 4 := by decide
    obtain ⟨g1, g2, g3, g4⟩ := q1 j (List.mem_range.mpr hj4)
    refine sp_all g1 g2 g3 g4 ?_
    intro Ps hPs
    walk_at "run"
    refine for_st (β := Unit) (b := ()) (e := frD) (fun _ r σ A' => A' = A0 ∧ σ = [some (.fl (ns.map .int)), none, none, none, none, none, none, none, none, none, none]) (fun _ _ => ()) Ps ⟨rfl, rfl⟩ (fun _ _ _ _ _ => holds_nil) ?_ ?_
    · rintro _ P r σ A' nx2 hP ⟨rfl, rfl⟩ hk2
      obtain ⟨v, lP⟩ := hPs P hP
      walk_at "run"
      refine sp_told v ?_
      intro T L hT hL lT lL
      have pw : 2 ^ P.length ≤ 16 := Nat.pow_le_pow_right (n := 2) (by decide) lP
      walk_at "run"
      have e := v.dayE
      have aN : (allI P).length ≤ 4 := by rw [sortI_len, frK_len]; exact lP
      have rl := e.ring_len
      have r3 : Rep (d3 (ringI (allI P) (dayB P)).length T L) := rep3 (by omega) (by omega) (by omega)
      refine ⟨r3.ok.1, r3.ok.2.1, r3.ok.2.2, ?_⟩
      walk_at "run"
      refine sp_days v hT hL (by omega) ?_
      walk_at "run"
      refine ⟨r3.ok.1, r3.ok.2.1, r3.ok.2.2, ?_⟩
      walk_at "run"
      refine sp_days v hT hL (by omega) ?_
      walk_at "run"
      refine sp_by_steps v hT hL (by omega) ?_
      walk_at "run"
      dsimp only
      rw [three_eqv]
      walk_at "run"
      exact hk2 _ _ ⟨rfl, rfl⟩
    · rintro σ A' ⟨rfl, rfl⟩
      walk_at "run"
      exact hk _ _ ⟨rfl, rfl⟩
  rintro σ A' ⟨rfl, rfl⟩
  walk_at "run"
  refine for_rng (fun j σ A' => σ = [some (.fl (ns.map .int)), none, none, none, none, none, none, none, none, none, none]) rfl ?_ ?_
  · rintro j σ A1 nx hj rfl hk
    have hl2 : (ns.map D.int).length = ns.length := List.length_map _
    have hj2 : j < 2 ^ 60 := by
      rw [hl2] at hj
      revert hj
      (repeat' split) <;> omega
    walk_at "run"
    rw [Int.zero_add]
    refine FD.sp_fount hj2 ?_
    intro p A2 hp w
    walk_at "runz"
    refine for_st (β := Unit) (b := ()) (e := D.int) (fun _ r σ A' => (∃ m, m + 20000 * r.length ≤ 100000 ∧ Wel A1 p A' m) ∧ σ = [some (.fl (ns.map .int)), none, none, none, none, some (.ref p), none, none, none, none, none]) (fun _ _ => ()) [9, 9, 60] ⟨⟨0, by simp, w⟩, rfl⟩ (fun _ _ _ _ _ => holds_nil) ?_ ?_
    · rintro _ most r σ A' nx2 hq ⟨⟨m, hm, w⟩, rfl⟩ hk2
      rw [List.length_cons] at hm
      have hq2 : most = 9 ∨ most = 60 := by
        simp only [List.mem_cons, List.not_mem_nil, or_false] at hq
        omega
      walk_at "run"
      refine FD.sp_palsB w (by omega) (by omega) (by omega) ?_
      intro P A3 v lP w3
      have pl := v.len
      have e := v.dayE
      have aN : (allI P).length ≤ 60 := by rw [sortI_len, frK_len]; exact pl
      have rl := e.ring_len
      walk_at "run"
      have gp := rep_of (good_fr v) (by omega) (by omega)
      rw [gp.at_]
      refine ⟨gp.ok.1, gp.ok.2.1, gp.ok.2.2, ?_⟩
      walk_at "run"
      refine sp_told v ?_
      intro T L hT hL lT lL
      have pw : 2 ^ P.length ≤ 2 ^ 60 := Nat.pow_le_pow_right (n := 2) (by decide) pl
      have r3 : Rep (d3 (ringI (allI P) (dayB P)).length T L) := rep3 (by omega) (by omega) (by omega)
      walk_at "run"
      refine ⟨r3.ok.1, r3.ok.2.1, r3.ok.2.2, ?_⟩
      walk_at "run"
      refine sp_by_steps v hT hL (by omega) ?_
      walk_at "run"
      refine ⟨r3.ok.1, r3.ok.2.1, r3.ok.2.2, ?_⟩
      walk_at "run"
      rw [gp.at_]
      refine ⟨gp.ok.1, gp.ok.2.1, gp.ok.2.2, ?_⟩
      walk_at "run"
      rcases hq2 with rfl | rfl
      · walk_at "run"
        refine sp_by_steps v hT hL (by omega) ?_
        walk_at "run"
        have pw2 : 2 ^ P.length ≤ 512 := Nat.pow_le_pow_right (n := 2) (by decide) (show P.length ≤ 9 by omega)
        refine sp_days v hT hL (by omega) ?_
        walk_at "run"
        dsimp only
        rw [three_eqv]
        walk_at "run"
        exact hk2 _ _ ⟨⟨_, by omega, w3⟩, rfl⟩
      · walk_at "run"
        exact hk2 _ _ ⟨⟨_, by omega, w3⟩, rfl⟩
    · rintro σ A' ⟨_, rfl⟩
      walk_at "run"
      exact hk _ _ rfl
  · rintro σ A' rfl
    walk_at "run"
    intro p1 hp1
    walk_at "run"
    refine .keep ?_
    walk_at "run"
    intro p2 hp2
    have n12 : p1 ≠ p2 := fun w => by rw [← w, put_same] at hp2; cases hp2
    walk_at "run"
    refine .keep ?_
    walk_at "run"
    refine for_rng (fun j σ A' => A' p1 = some (.dct (kvP (downJ j))) ∧ A' p2 = some (.dct (kvP (upJ j))) ∧ σ = [none, none, none, none, none, none, none, none, some (.ref p1), some (.ref p2), none]) ⟨?_, ?_, rfl⟩ ?_ ?_
    · rw [put_ne n12, put_ne n12, put_same]; rfl
    · rw [put_same]; rfl
    · rintro j σ A1 nx hj ⟨a1, a2, rfl⟩ hk
      have hj59 : j < 59 := hj
      have hl := J_len j
      have ej : (1 : Int) + (j : Nat) = (j : Int) + 1 := by omega
      have ek : (j : Int) + 1 - 1 = (j : Int) := by omega
      rw [ej]
      walk_at "run"
      rw [ek]
      refine ⟨by rw [hl.1, PySem.sizeLine_eq]; omega, ?_⟩
      walk_at "run"
      refine ⟨by rw [hl.2, PySem.sizeLine_eq]; omega, ?_⟩
      refine hk _ _ ⟨?_, ?_, rfl⟩
      · rw [put_ne n12, put_same]
        show some (AO.dct (setK (kvP (downJ j)) (.inl ((j : Int) + 1)) (optD (some (j : Int))))) = _
        rw [kvP_put (downJ_new j), downJ_succ]
      · rw [put_same]
        show some (AO.dct (setK (kvP (upJ j)) (.inl ((j : Int) + 1 - 1)) (optD (some ((j : Int) + 1))))) = _
        rw [ek, kvP_put (upJ_new hj59), upJ_succ]
    · rintro σ A1 ⟨a1, a2, rfl⟩
      have a1 : A1 p1 = some (.dct (kvP downP)) := a1
      have a2 : A1 p2 = some (.dct (kvP upP)) := a2
      have a3 : Py.rem A1 p1 p2 = some (.dct (kvP upP)) := by unfold Py.rem; rw [if_neg (Ne.symm n12)]; exact a2
      walk_at "run"
      refine sp_told vdown ?_
      intro T L hT hL _ _
      rw [down_T hT, down_L hL, down_cnt]
      walk_at "run"
      refine sp_told vup ?_
      intro T L hT hL _ _
      rw [up_T hT, up_L hL, up_cnt]
      walk_at "runz"
      refine .id ?_
      simp [PyData.eqv, PyData.eqvAll]
end K45

open PySem PySem.W PyProof.Rows in
set_option maxRecDepth 100000 in
set_option maxHeartbeats 0 in
theorem PySem.Challenge.cw_moveafter_k45_final_blocks_of_friends_holds : PySem.Challenge.rw_moveafter_k45_final_blocks_of_friends.Holds := by
  w_on; o_law; k_head; (case hw => w_witness2)
  k_fill
  refine Py.walk_py (l := PySem.Challenge.rw_moveafter_k45_final_blocks_of_friends) (n := K45.nm) (con := K45.tb.C) (sub := Py.noSub) (T := K45.tb.T) (law := "law") K45.lev (by decide) rfl rfl (fun w h Y => PySem.W.kIn_of Y) ?F K45.spec
  case F =>
    intro w mg fa h KX G hmg
    have s_is_int := @Py.stands_mk _ h mg K45.nm Pr.d_is_int "is_int" _ (K45.top 5) ["value"] ["value"] _ _ _ _ _ _ _ _ _ KX G K45.sc_is_int (fun _ _ _ _ _ _ us hl => match us, hl with | [_], _ => rfl) rfl rfl K45.ch_is_int (by k_is) (by k_is) (by k_is) (by k_is)
    have s_in_range := @Py.stands_mk _ h mg K45.nm Pr.d_in_range "in_range" _ (K45.top 6) ["value", "low", "high"] ["value", "low", "high"] _ _ _ _ _ _ _ _ _ KX G K45.sc_in_range (fun _ _ _ _ _ _ us hl => match us, hl with | [_, _, _], _ => rfl) rfl rfl K45.ch_in_range (by k_is) (by k_is) (by k_is) (by k_is)
    have s_is_item := @Py.stands_mk _ h mg K45.nm Pr.d_is_item "is_item" _ (K45.top 7) ["value"] ["value"] _ _ _ _ _ _ _ _ _ KX G K45.sc_is_item (fun _ _ _ _ _ _ us hl => match us, hl with | [_], _ => rfl) rfl rfl K45.ch_is_item (by k_is) (by k_is) (by k_is) (by k_is)
    have s_named_in := @Py.stands_mk _ h mg K45.nm Pr.d_named_in "named_in" _ (K45.top 8) ["script", "found", "word", "item", "other"] ["script"] _ _ _ _ _ _ _ _ _ KX G K45.sc_named_in (fun _ _ _ _ _ _ us hl => match us, hl with | [_], _ => rfl) rfl rfl K45.ch_named_in (by k_is) (by k_is) (by k_is) (by k_is)
    have s_moved_in_block := @Py.stands_mk _ h mg K45.nm Pr.d_moved_in_block "moved_in_block" _ (K45.top 10) ["block", "word", "item", "other", "place"] ["block", "word", "item", "other"] _ _ _ _ _ _ _ _ _ KX G K45.sc_moved_in_block (fun _ _ _ _ _ _ us hl => match us, hl with | [_, _, _, _], _ => rfl) rfl rfl K45.ch_moved_in_block (by k_is) (by k_is) (by k_is) (by k_is)
    have s_blocks_in := @Py.stands_mk _ h mg K45.nm Pr.d_blocks_in "blocks_in" _ (K45.top 11) ["script", "found", "item", "word", "other", "key", "block", "place"] ["script"] _ _ _ _ _ _ _ _ _ KX G K45.sc_blocks_in (fun _ _ _ _ _ _ us hl => match us, hl with | [_], _ => rfl) rfl rfl K45.ch_blocks_in (by k_is) (by k_is) (by k_is) (by k_is)
    have s_sources_in := @Py.stands_mk _ h mg K45.nm Pr.d_sources_in "sources_in" _ (K45.top 12) ["blocks", "key", "block", "item"] ["blocks"] _ _ _ _ _ _ _ _ _ KX G K45.sc_sources_in (fun _ _ _ _ _ _ us hl => match us, hl with | [_], _ => rfl) rfl rfl K45.ch_sources_in (by k_is) (by k_is) (by k_is) (by k_is)
    have s_rings_in := @Py.stands_mk _ h mg K45.nm Pr.d_rings_in "rings_in" _ (K45.top 14) ["blocks", "sources", "seen", "found", "start", "way", "item", "ring", "least"] ["blocks"] _ _ _ _ _ _ _ _ _ KX G K45.sc_rings_in (fun _ _ _ _ _ _ us hl => match us, hl with | [_], _ => rfl) rfl rfl K45.ch_rings_in (by k_is) (by k_is) (by k_is) (by k_is)
    have s_settled_in := @Py.stands_mk _ h mg K45.nm Pr.d_settled_in "settled_in" _ (K45.top 15) ["blocks", "sources", "on_rings", "ring", "item", "longest", "steps"] ["blocks"] _ _ _ _ _ _ _ _ _ KX G K45.sc_settled_in (fun _ _ _ _ _ _ us hl => match us, hl with | [_], _ => rfl) rfl rfl K45.ch_settled_in (by k_is) (by k_is) (by k_is) (by k_is)
    have s_greatest_divisor := @Py.stands_mk _ h mg K45.nm Pr.d_greatest_divisor "greatest_divisor" _ (K45.top 16) ["one", "other"] ["one", "other"] _ _ _ _ _ _ _ _ _ KX G K45.sc_greatest_divisor (fun _ _ _ _ _ _ us hl => match us, hl with | [_, _], _ => rfl) rfl rfl K45.ch_greatest_divisor (by k_is) (by k_is) (by k_is) (by k_is)
    have s_lcm_of := @Py.stands_mk _ h mg K45.nm Pr.d_lcm_of "lcm_of" _ (K45.top 17) ["numbers", "found", "number"] ["numbers"] _ _ _ _ _ _ _ _ _ KX G K45.sc_lcm_of (fun _ _ _ _ _ _ us hl => match us, hl with | [_], _ => rfl) rfl rfl K45.ch_lcm_of (by k_is) (by k_is) (by k_is) (by k_is)
    have s_is_friends := @Py.stands_mk _ h mg K45.nm Pr.d_is_friends "is_friends" _ (K45.top 20) ["value", "item", "friend"] ["value"] _ _ _ _ _ _ _ _ _ KX G K45.sc_is_friends (fun _ _ _ _ _ _ us hl => match us, hl with | [_], _ => rfl) rfl rfl K45.ch_is_friends (by k_is) (by k_is) (by k_is) (by k_is)
    have s_require_friends := @Py.stands_mk _ h mg K45.nm Pr.d_require_friends "require_friends" _ (K45.top 21) ["value"] ["value"] _ _ _ _ _ _ _ _ _ KX G K45.sc_require_friends (fun _ _ _ _ _ _ us hl => match us, hl with | [_], _ => rfl) rfl rfl K45.ch_require_friends (by k_is) (by k_is) (by k_is) (by k_is)
    have s_commands_of := @Py.stands_mk _ h mg K45.nm Pr.d_commands_of "commands_of" _ (K45.top 22) ["friends", "item"] ["friends"] _ _ _ _ _ _ _ _ _ KX G K45.sc_commands_of (fun _ _ _ _ _ _ us hl => match us, hl with | [_], _ => rfl) rfl rfl K45.ch_commands_of (by k_is) (by k_is) (by k_is) (by k_is)
    have s_count_final := @Py.stands_mk _ h mg K45.nm Pr.d_count_final "count_final" _ (K45.top 23) ["friends", "found", "item", "friend", "here", "turn"] ["friends"] _ _ _ _ _ _ _ _ _ KX G K45.sc_count_final (fun _ _ _ _ _ _ us hl => match us, hl with | [_], _ => rfl) rfl rfl K45.ch_count_final (by k_is) (by k_is) (by k_is) (by k_is)
    have s_days_needed := @Py.stands_mk _ h mg K45.nm Pr.d_days_needed "days_needed" _ (K45.top 24) ["friends"] ["friends"] _ _ _ _ _ _ _ _ _ KX G K45.sc_days_needed (fun _ _ _ _ _ _ us hl => match us, hl with | [_], _ => rfl) rfl rfl K45.ch_days_needed (by k_is) (by k_is) (by k_is) (by k_is)
    have s_day_period := @Py.stands_mk _ h mg K45.nm Pr.d_day_period "day_period" _ (K45.top 25) ["friends", "ring"] ["friends"] _ _ _ _ _ _ _ _ _ KX G K45.sc_day_period (fun _ _ _ _ _ _ us hl => match us, hl with | [_], _ => rfl) rfl rfl K45.ch_day_period (by k_is) (by k_is) (by k_is) (by k_is)
    have s__law_fount := @Py.stands_mk _ h mg K45.nm FD.d__law_fount "_law_fount" _ (K45.top 27) ["script", "k", "cell"] ["script", "k"] _ _ _ _ _ _ _ _ _ KX G K45.sc__law_fount (fun _ _ _ _ _ _ us hl => match us, hl with | [_, _], _ => rfl) rfl rfl K45.ch__law_fount (by k_is) (by k_is) (by k_is) (by k_is)
    have s__law_sip := @Py.stands_mk _ h mg K45.nm FD.d__law_sip "_law_sip" _ (K45.top 28) ["fount", "many", "found", "mixed"] ["fount", "many"] _ _ _ _ _ _ _ _ _ KX G K45.sc__law_sip (fun _ _ _ _ _ _ us hl => match us, hl with | [_, _], _ => rfl) rfl rfl K45.ch__law_sip (by k_is) (by k_is) (by k_is) (by k_is)
    have s__law_mixed := @Py.stands_mk _ h mg K45.nm FD.d__law_mixed "_law_mixed" _ (K45.top 29) ["fount", "items", "left", "turn"] ["fount", "items"] _ _ _ _ _ _ _ _ _ KX G K45.sc__law_mixed (fun _ _ _ _ _ _ us hl => match us, hl with | [_, _], _ => rfl) rfl rfl K45.ch__law_mixed (by k_is) (by k_is) (by k_is) (by k_is)
    have s__law_line := @Py.stands_mk _ h mg K45.nm FD.d__law_line "_law_line" _ (K45.top 30) ["fount", "most", "wide", "count"] ["fount", "most"] _ _ _ _ _ _ _ _ _ KX G K45.sc__law_line (fun _ _ _ _ _ _ us hl => match us, hl with | [_, _], _ => rfl) rfl rfl K45.ch__law_line (by k_is) (by k_is) (by k_is) (by k_is)
    have s__law_pieces := @Py.stands_mk _ h mg K45.nm FD.d__law_pieces "_law_pieces" _ (K45.top 35) ["script", "items", "found", "item", "word", "one", "other", "rest", "piece", "at"] ["script", "items"] _ _ _ _ _ _ _ _ _ KX G K45.sc__law_pieces (fun _ _ _ _ _ _ us hl => match us, hl with | [_, _], _ => rfl) rfl rfl K45.ch__law_pieces (by k_is) (by k_is) (by k_is) (by k_is)
    have s__law_put_in := @Py.stands_mk _ h mg K45.nm FD.d__law_put_in "_law_put_in" _ (K45.top 36) ["pieces_here", "other", "found", "item", "whole", "piece"] ["pieces_here", "other"] _ _ _ _ _ _ _ _ _ KX G K45.sc__law_put_in (fun _ _ _ _ _ _ us hl => match us, hl with | [_, _], _ => rfl) rfl rfl K45.ch__law_put_in (by k_is) (by k_is) (by k_is) (by k_is)
    have s__law_pals := @Py.stands_mk _ h mg K45.nm FD.d__law_pals "_law_pals" _ (K45.top 38) ["fount", "most", "items", "style", "found", "spot", "item", "others", "other"] ["fount", "most"] _ _ _ _ _ _ _ _ _ KX G K45.sc__law_pals (fun _ _ _ _ _ _ us hl => match us, hl with | [_, _], _ => rfl) rfl rfl K45.ch__law_pals (by k_is) (by k_is) (by k_is) (by k_is)
    have s__law_commands := @Py.stands_mk _ h mg K45.nm FD.d__law_commands "_law_commands" _ (K45.top 39) ["pals", "item"] ["pals"] _ _ _ _ _ _ _ _ _ KX G K45.sc__law_commands (fun _ _ _ _ _ _ us hl => match us, hl with | [_], _ => rfl) rfl rfl K45.ch__law_commands (by k_is) (by k_is) (by k_is) (by k_is)
    have s__law_filled := @Py.stands_mk _ h mg K45.nm K45.d__law_filled "_law_filled" _ (K45.top 40) ["pieces_here", "piece"] ["pieces_here"] _ _ _ _ _ _ _ _ _ KX G K45.sc__law_filled (fun _ _ _ _ _ _ us hl => match us, hl with | [_], _ => rfl) rfl rfl K45.ch__law_filled (by k_is) (by k_is) (by k_is) (by k_is)
    have s__law_days := @Py.stands_mk _ h mg K45.nm K45.d__law_days "_law_days" _ (K45.top 41) ["pals", "items", "day", "history_here", "first", "last", "needed", "at", "one"] ["pals"] _ _ _ _ _ _ _ _ _ KX G K45.sc__law_days (fun _ _ _ _ _ _ us hl => match us, hl with | [_], _ => rfl) rfl rfl K45.ch__law_days (by k_is) (by k_is) (by k_is) (by k_is)
    have s__law_source := @Py.stands_mk _ h mg K45.nm K45.d__law_source "_law_source" _ (K45.top 42) ["pals", "item", "here", "other"] ["pals", "item"] _ _ _ _ _ _ _ _ _ KX G K45.sc__law_source (fun _ _ _ _ _ _ us hl => match us, hl with | [_, _], _ => rfl) rfl rfl K45.ch__law_source (by k_is) (by k_is) (by k_is) (by k_is)
    have s__law_by_steps := @Py.stands_mk _ h mg K45.nm K45.d__law_by_steps "_law_by_steps" _ (K45.top 43) ["pals", "sources_here", "item", "left", "needed", "whole", "seen", "ring", "here"] ["pals"] _ _ _ _ _ _ _ _ _ KX G K45.sc__law_by_steps (fun _ _ _ _ _ _ us hl => match us, hl with | [_], _ => rfl) rfl rfl K45.ch__law_by_steps (by k_is) (by k_is) (by k_is) (by k_is)
    have s__law_common := @Py.stands_mk _ h mg K45.nm K45.d__law_common "_law_common" _ (K45.top 44) ["one", "other"] ["one", "other"] _ _ _ _ _ _ _ _ _ KX G K45.sc__law_common (fun _ _ _ _ _ _ us hl => match us, hl with | [_, _], _ => rfl) rfl rfl K45.ch__law_common (by k_is) (by k_is) (by k_is) (by k_is)
    have s__law_told := @Py.stands_mk _ h mg K45.nm K45.d__law_told "_law_told" _ (K45.top 45) ["pals"] ["pals"] _ _ _ _ _ _ _ _ _ KX G K45.sc__law_told (fun _ _ _ _ _ _ us hl => match us, hl with | [_], _ => rfl) rfl rfl K45.ch__law_told (by k_is) (by k_is) (by k_is) (by k_is)
    have s__law_all := @Py.stands_mk _ h mg K45.nm K45.d__law_all "_law_all" _ (K45.top 46) ["items", "found", "item", "longer", "pals", "other", "one", "more"] ["items"] _ _ _ _ _ _ _ _ _ KX G K45.sc__law_all (fun _ _ _ _ _ _ us hl => match us, hl with | [_], _ => rfl) rfl rfl K45.ch__law_all (by k_is) (by k_is) (by k_is) (by k_is)
    have s_law := @Py.stands_mk _ h mg K45.nm K45.d_law "law" _ (K45.top 47) ["script", "many", "items", "pals", "k", "fount", "most", "kept", "down", "up", "item"] ["script"] _ _ _ _ _ _ _ _ _ KX G K45.sc_law (fun _ _ _ _ _ _ us hl => match us, hl with | [_], _ => rfl) rfl rfl K45.ch_law (by k_is) (by k_is) (by k_is) (by k_is)
    have x_NoFriends := @Py.exc_mk _ h mg "NoFriends" _ KX G (by k_is) (by k_exc) (by k_is) (by k_is) (by k_is)
    have c_ITEMS := @Py.con_int _ h mg "ITEMS" (60) _ K45.tb.C KX G (by rfl) (by k_is)
    have c_MOST_KEYS := @Py.con_int _ h mg "MOST_KEYS" (60) _ K45.tb.C KX G (by rfl) (by k_is)
    have bl : ∀ x ∈ Py.bltAll, mg x = none := Py.al_cons (PySem.W.mg_none_of KX G (by k_is)) (Py.al_cons (PySem.W.mg_none_of KX G (by k_is)) (Py.al_cons (PySem.W.mg_none_of KX G (by k_is)) (Py.al_cons (PySem.W.mg_none_of KX G (by k_is)) (Py.al_cons (PySem.W.mg_none_of KX G (by k_is)) (Py.al_cons (PySem.W.mg_none_of KX G (by k_is)) (Py.al_cons (PySem.W.mg_none_of KX G (by k_is)) (Py.al_cons (PySem.W.mg_none_of KX G (by k_is)) (Py.al_cons (PySem.W.mg_none_of KX G (by k_is)) (Py.al_cons (PySem.W.mg_none_of KX G (by k_is)) (Py.al_cons (PySem.W.mg_none_of KX G (by k_is)) (Py.al_cons (PySem.W.mg_none_of KX G (by k_is)) (Py.al_cons (PySem.W.mg_none_of KX G (by k_is)) (Py.al_cons (PySem.W.mg_none_of KX G (by k_is)) (Py.al_cons (PySem.W.mg_none_of KX G (by k_is)) (Py.al_cons (PySem.W.mg_none_of KX G (by k_is)) (Py.al_cons (PySem.W.mg_none_of KX G (by k_is)) (Py.al_cons (PySem.W.mg_none_of KX G (by k_is)) (Py.al_cons (PySem.W.mg_none_of KX G (by k_is)) Py.al_nil))))))))))))))))))
    have hx : ∀ x ∈ K45.nm.excs, Py.ExcOk _ _ mg x := Py.al_cons x_NoFriends Py.al_nil
    have hc : ∀ x ∈ K45.nm.cons, ∃ d u v, K45.tb.C x = some d ∧ mg x = some u ∧ L2.RelV v u ∧ ∀ H, Py.RelD _ H d v := Py.al_cons c_ITEMS (Py.al_cons c_MOST_KEYS Py.al_nil)
    have hd : ∀ x ∈ K45.nm.defs, ∃ d, K45.tb.T x = some d ∧ Py.Stands K45.nm d _ mg x := Py.al_cons ⟨_, K45.t_is_int, _, _, _, s_is_int.choose_spec.1, s_is_int.choose_spec.2.1⟩ (Py.al_cons ⟨_, K45.t_in_range, _, _, _, s_in_range.choose_spec.1, s_in_range.choose_spec.2.1⟩ (Py.al_cons ⟨_, K45.t_is_item, _, _, _, s_is_item.choose_spec.1, s_is_item.choose_spec.2.1⟩ (Py.al_cons ⟨_, K45.t_named_in, _, _, _, s_named_in.choose_spec.1, s_named_in.choose_spec.2.1⟩ (Py.al_cons ⟨_, K45.t_moved_in_block, _, _, _, s_moved_in_block.choose_spec.1, s_moved_in_block.choose_spec.2.1⟩ (Py.al_cons ⟨_, K45.t_blocks_in, _, _, _, s_blocks_in.choose_spec.1, s_blocks_in.choose_spec.2.1⟩ (Py.al_cons ⟨_, K45.t_sources_in, _, _, _, s_sources_in.choose_spec.1, s_sources_in.choose_spec.2.1⟩ (Py.al_cons ⟨_, K45.t_rings_in, _, _, _, s_rings_in.choose_spec.1, s_rings_in.choose_spec.2.1⟩ (Py.al_cons ⟨_, K45.t_settled_in, _, _, _, s_settled_in.choose_spec.1, s_settled_in.choose_spec.2.1⟩ (Py.al_cons ⟨_, K45.t_greatest_divisor, _, _, _, s_greatest_divisor.choose_spec.1, s_greatest_divisor.choose_spec.2.1⟩ (Py.al_cons ⟨_, K45.t_lcm_of, _, _, _, s_lcm_of.choose_spec.1, s_lcm_of.choose_spec.2.1⟩ (Py.al_cons ⟨_, K45.t_is_friends, _, _, _, s_is_friends.choose_spec.1, s_is_friends.choose_spec.2.1⟩ (Py.al_cons ⟨_, K45.t_require_friends, _, _, _, s_require_friends.choose_spec.1, s_require_friends.choose_spec.2.1⟩ (Py.al_cons ⟨_, K45.t_commands_of, _, _, _, s_commands_of.choose_spec.1, s_commands_of.choose_spec.2.1⟩ (Py.al_cons ⟨_, K45.t_count_final, _, _, _, s_count_final.choose_spec.1, s_count_final.choose_spec.2.1⟩ (Py.al_cons ⟨_, K45.t_days_needed, _, _, _, s_days_needed.choose_spec.1, s_days_needed.choose_spec.2.1⟩ (Py.al_cons ⟨_, K45.t_day_period, _, _, _, s_day_period.choose_spec.1, s_day_period.choose_spec.2.1⟩ (Py.al_cons ⟨_, K45.t__law_fount, _, _, _, s__law_fount.choose_spec.1, s__law_fount.choose_spec.2.1⟩ (Py.al_cons ⟨_, K45.t__law_sip, _, _, _, s__law_sip.choose_spec.1, s__law_sip.choose_spec.2.1⟩ (Py.al_cons ⟨_, K45.t__law_mixed, _, _, _, s__law_mixed.choose_spec.1, s__law_mixed.choose_spec.2.1⟩ (Py.al_cons ⟨_, K45.t__law_line, _, _, _, s__law_line.choose_spec.1, s__law_line.choose_spec.2.1⟩ (Py.al_cons ⟨_, K45.t__law_pieces, _, _, _, s__law_pieces.choose_spec.1, s__law_pieces.choose_spec.2.1⟩ (Py.al_cons ⟨_, K45.t__law_put_in, _, _, _, s__law_put_in.choose_spec.1, s__law_put_in.choose_spec.2.1⟩ (Py.al_cons ⟨_, K45.t__law_pals, _, _, _, s__law_pals.choose_spec.1, s__law_pals.choose_spec.2.1⟩ (Py.al_cons ⟨_, K45.t__law_commands, _, _, _, s__law_commands.choose_spec.1, s__law_commands.choose_spec.2.1⟩ (Py.al_cons ⟨_, K45.t__law_filled, _, _, _, s__law_filled.choose_spec.1, s__law_filled.choose_spec.2.1⟩ (Py.al_cons ⟨_, K45.t__law_days, _, _, _, s__law_days.choose_spec.1, s__law_days.choose_spec.2.1⟩ (Py.al_cons ⟨_, K45.t__law_source, _, _, _, s__law_source.choose_spec.1, s__law_source.choose_spec.2.1⟩ (Py.al_cons ⟨_, K45.t__law_by_steps, _, _, _, s__law_by_steps.choose_spec.1, s__law_by_steps.choose_spec.2.1⟩ (Py.al_cons ⟨_, K45.t__law_common, _, _, _, s__law_common.choose_spec.1, s__law_common.choose_spec.2.1⟩ (Py.al_cons ⟨_, K45.t__law_told, _, _, _, s__law_told.choose_spec.1, s__law_told.choose_spec.2.1⟩ (Py.al_cons ⟨_, K45.t__law_all, _, _, _, s__law_all.choose_spec.1, s__law_all.choose_spec.2.1⟩ (Py.al_cons ⟨_, K45.t_law, _, _, _, s_law.choose_spec.1, s_law.choose_spec.2.1⟩ Py.al_nil))))))))))))))))))))))))))))))))
    obtain ⟨fd, S, _, hb⟩ := s_law
    have ef := hmg.symm.trans S.hm
    cases ef
    exact ⟨Py.clOf mg, ⟨rfl, bl, hc, hx⟩, ⟨hd, (fun q h => absurd (show q ∈ ([] : List _) from h) List.not_mem_nil), (fun q h => absurd (show q ∈ ([] : List _) from h) List.not_mem_nil)⟩, _, fd, K45.t_law, S, fun s u => hb s [u] rfl⟩
#print axioms PySem.Challenge.cw_moveafter_k45_final_blocks_of_friends_holds
