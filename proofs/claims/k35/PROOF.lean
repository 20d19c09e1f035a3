import PyProof.Rows.All
import Wide.All
import OpenK.AllK
import Wide.FinOn
import HandS.ForMost
import HandS.ForExc
import HandS.Wide
import HandS.Style
import HandS.Codes
import HandS.RaiseMore
import HandS.IsInst
import HandS.SetFor
import HandS.Iter
import HandS.More
import KE.KIndexOf
import HandS.TupAny
import HandS.Conv
import HandS.Zip
import HandS.EndBits
import PySem.Challenge.RW_moveafter_k35_effects_counted
set_option Elab.async false
set_option linter.all false
set_option maxRecDepth 100000
/-! The plain machine: data D, objects AO, the tree E, S of a def's body, and what each means. Own work. -/
namespace Py
open PySem PySem.Spec PyProof.Rows L2

/-- data: tuples are values, lists, dicts and instances stand at addresses -/
inductive D where
  | non | bl (b : Bool) | int (i : Int) | str (s : Str) | tup (ds : List D) | ref (a : Addr)
  | fl (ds : List D)   -- a list that nobody changes: the script
/-- what stands at an address; f..: read only -/
inductive AO where
  | lst (ds : List D)
  | dct (kvs : List (D × D)) | fdct (kvs : List (D × D))
  | ins (c : Str) (fs : List (Str × D)) | exc (c : Str)
abbrev AH := Addr → Option AO
def put (A : AH) (a : Addr) (o : AO) : AH := fun b => if b = a then some o else A b
abbrev DSt := List (Option D)
abbrev Dk := D → AH → Prop
abbrev Dx := Str → AH → Prop
abbrev DE := DSt → AH → Dx → Dk → Prop
abbrev Cal := Str → List D → AH → Dx → Dk → Prop
structure DEnds where
  nx : DSt → AH → Prop
  rt : Dk
  bk : DSt → AH → Prop
  ct : DSt → AH → Prop
  ex : DSt → Str → AH → Prop
structure GEnv where
  cal : Cal
  con : Str → Option D
  sub : Str → Str → Bool

inductive BOp | add | sub | mul | fdiv | mod | pow
  deriving DecidableEq
inductive COp | eq | ne | lt | le | gt | ge | is_ | isn | in_ | nin
  deriving DecidableEq
inductive Cl | int | bool | str | tuple | list | dict | own (x : Str)
  deriving DecidableEq
/-- built-in functions and types that are called -/
inductive BF | len | int | str | repr | sorted | min | max | all | any | sum | tuple | list | dict | set
  deriving DecidableEq
/-- methods of built-in types -/
inductive MT | append | pop | index | extend | insert | remove | get | items | values | join | split | partition | count | upper | clear | strip | replace | setdefault
  deriving DecidableEq
inductive Tg | name (i : Nat) (x : Str) | tup (xs : List (Nat × Str))
mutual
inductive E where
  | var (i : Nat) (x : Str)
  | gv (x : Str)
  | cst (d : D)
  | bin (o : BOp) (a b : E)
  | neg (a : E)
  | cmp (o : COp) (a b : E)
  | chain (o o' : COp) (a b c : E)
  | bop (isAnd : Bool) (es : Es)
  | not (a : E)
  | ite (c a b : E)
  | tup (es : Es)
  | lst (es : Es)
  | idx (a i : E)
  | slc (a : E) (lo hi : Oe)
  | rev (a : E)
  | call (f : Str) (es : Es)
  | bif (f : BF) (es : Es)
  | mth (m : MT) (o : E) (es : Es)
  | isi (a : E) (c : Cl)
  | lc (elt : E) (tg : Tg) (it : I) (cs : Es) (own : List (Str × Nat))
  | lrg (it : I) | trg (it : I)                 -- list(range ..), tuple(range ..)
  | lset (a : E) | sset (a : E)                 -- len(set(a)), sorted(set(a))
inductive Es where | nil | cons (e : E) (es : Es)
inductive Oe where | no | yes (e : E)
inductive I where
  | seq (e : E)
  | rng1 (a : E)
  | rng2 (a b : E)
end
mutual
inductive S where
  | asg (i : Nat) (x : Str) (e : E)
  | unp (xs : List (Nat × Str)) (e : E)
  | par (xs : List (Nat × Str)) (es : Es)
  | sto (o i e : E)
  | aug (i : Nat) (x : Str) (o : BOp) (e : E)
  | exp (e : E)
  | ret (e : E)
  | ret0
  | if_ (c : E) (a b : Ss)
  | whl (c : E) (b : Ss)
  | for_ (tg : Tg) (it : I) (b : Ss)
  | raise (c : Str)
  | pass | brk | cnt
inductive Ss where | nil | cons (s : S) (ss : Ss)
end
def Es.of : List E → Es | [] => .nil | e :: r => .cons e (Es.of r)
def Ss.of : List S → Ss | [] => .nil | e :: r => .cons e (Ss.of r)

/-! ### reading the heap -/
def rd (A : AH) (a : Addr) : Option AO := A a
def getL (A : AH) (a : Addr) : Option (List D) := match A a with
  | some (.lst ds) => some ds
  | _ => none
def getM (A : AH) (a : Addr) : Option (List (D × D)) := match A a with
  | some (.dct ds) => some ds
  | some (.fdct ds) => some ds
  | _ => none
/-- the items of a list or a tuple -/
def seqD (A : AH) : D → Option (List D)
  | .tup ds => some ds
  | .fl ds => some ds
  | .ref a => getL A a
  | _ => none
/-- a new object -/
def alloc (o : AO) (A : AH) (Q : Dk) : Prop := ∀ p, A p = none → Q (.ref p) (put A p o)
def allSome {α : Type} : List (Option α) → Option (List α)
  | [] => some []
  | some x :: r => (allSome r).map (x :: ·)
  | none :: _ => none
/-- the data that stands in a value: plain at depth n -/
def snap (A : AH) : Nat → D → Option PyData
  | _, .non => some .none
  | _, .bl b => some (.bool b)
  | _, .int i => some (.int i)
  | _, .str s => some (.str s)
  | 0, _ => none
  | n + 1, .tup ds => (allSome (ds.map (snap A n))).map .tuple
  | n + 1, .fl ds => (allSome (ds.map (snap A n))).map .list
  | n + 1, .ref a => match getL A a with
    | some ds => (allSome (ds.map (snap A n))).map .list
    | none => none
def truD (A : AH) : D → Option Bool
  | .non => some false
  | .bl b => some b
  | .int i => some (i != 0)
  | .str s => if s.length ≤ sizeLine then some ((s.length : Int) != 0) else none
  | .tup ds => some (!ds.isEmpty)
  | .fl ds => some (!ds.isEmpty)
  | .ref a => match A a with
    | some (.lst ds) => some (!ds.isEmpty)
    | some (.dct ds) => some (!ds.isEmpty)
    | _ => none

/-! ### operators -/
def CPowW (i j : Int) : Prop := 0 ≤ j ∧ j ≤ 1000 ∧ i.natAbs.log2 < 10000
def rBin (o : BOp) (x y : D) (A : AH) (Q : Dk) : Prop := match o, x, y with
  | .add, .int i, .int j => Q (.int (i + j)) A
  | .add, .str s, .str t => s.length + t.length ≤ sizeLine ∧ Q (.str (s ++ t)) A
  | .add, .tup xs, .tup ys => xs.length + ys.length ≤ sizeLine ∧ Q (.tup (xs ++ ys)) A
  | .add, .ref a, .ref b => match rd A a, rd A b with
    | some (.lst xs), some (.lst ys) => xs.length + ys.length ≤ sizeLine ∧ alloc (.lst (xs ++ ys)) A Q
    | _, _ => False
  | .sub, .int i, .int j => Q (.int (i - j)) A
  | .mul, .int i, .int j => CMulW i j ∧ Q (.int (i * j)) A
  | .mul, .ref a, .int k => match rd A a with
    | some (.lst xs) => 0 ≤ k ∧ k < 1000 ∧ xs.length * k.toNat ≤ sizeLine ∧ alloc (.lst (List.replicate k.toNat xs).flatten) A Q
    | _ => False
  | .fdiv, .int i, .int j => CDivW i j ∧ Q (.int (i / j)) A
  | .mod, .int i, .int j => 0 < j ∧ Q (.int (i % j)) A
  | .pow, .int i, .int j => CPowW i j ∧ Q (.int (i ^ j.toNat)) A
  | _, _, _ => False
/-- += and its like: not on lists -/
def rAug (o : BOp) (x y : D) (A : AH) (Q : Dk) : Prop := match x with
  | .ref _ => False
  | _ => rBin o x y A Q
def isScal : D → Bool
  | .tup _ => false
  | .ref _ => false
  | .fl _ => false
  | _ => true
/-- what == says of two values -/
def eqD (A : AH) : D → D → Option Bool
  | .int i, .int j => some (decide (i = j))
  | .str i, .str j => some (decide (i = j))
  | x, y => match snap A 60 x, snap A 60 y with
    | some p, some q => if SeqAt.shaped p && SeqAt.shaped q then some (PyData.eqv p q) else none
    | _, _ => none
def flatD : D → Bool
  | .non => true | .bl _ => true | .int _ => true | .str _ => true | _ => false
def eqF : D → D → Bool
  | .non, .non => true
  | .bl a, .bl b => a == b
  | .bl a, .int j => (if a then 1 else 0) == j
  | .int i, .bl b => i == (if b then 1 else 0)
  | .int i, .int j => i == j
  | .str x, .str y => x == y
  | _, _ => false
def inF (x : D) (ds : List D) : Bool := ds.any fun y => eqF y x
def rCmp (o : COp) (x y : D) (A : AH) (Q : Dk) : Prop := match o with
  | .eq => match eqD A x y with | some b => Q (.bl b) A | none => False
  | .ne => match eqD A x y with | some b => Q (.bl (!b)) A | none => False
  | .lt => match x, y with | .int i, .int j => Q (.bl (decide (i < j))) A | _, _ => False
  | .le => match x, y with | .int i, .int j => Q (.bl (decide (i ≤ j))) A | _, _ => False
  | .gt => match x, y with | .int i, .int j => Q (.bl (decide (j < i))) A | _, _ => False
  | .ge => match x, y with | .int i, .int j => Q (.bl (decide (j ≤ i))) A | _, _ => False
  | .is_ => match y with | .non => Q (.bl (match x with | .non => true | _ => false)) A | _ => False
  | .isn => match y with | .non => Q (.bl (match x with | .non => false | _ => true)) A | _ => False
  | .in_ => match seqD A y with
    | some ds => flatD x = true ∧ ds.all flatD = true ∧ Q (.bl (inF x ds)) A
    | none => False
  | .nin => match seqD A y with
    | some ds => flatD x = true ∧ ds.all flatD = true ∧ Q (.bl (!inF x ds)) A
    | none => False
/-- the place of an index, of any sign -/
def ixD (n : Nat) (i : Int) : Option Nat := ixN n i
def rIdx (x i : D) (A : AH) (Q : Dk) : Prop := match i with
  | .int k => match seqD A x with
    | some ds => match atI ds k with
      | some d => Q d A
      | none => False
    | none => False
  | _ => False
/-- lo and hi of a slice -/
def cutD {α : Type} (xs : List α) (lo hi : Option Int) : List α := (xs.drop (HT.sIx xs.length 0 lo)).take (HT.sIx xs.length xs.length hi - HT.sIx xs.length 0 lo)
def rSlc (x : D) (lo hi : Option Int) (A : AH) (Q : Dk) : Prop := match x with
  | .tup ds => Q (.tup (cutD ds lo hi)) A
  | .fl ds => alloc (.lst (cutD ds lo hi)) A Q
  | .ref a => match getL A a with
    | some ds => alloc (.lst (cutD ds lo hi)) A Q
    | none => False
  | _ => False
def rRev (x : D) (A : AH) (Q : Dk) : Prop := match x with
  | .tup ds => Q (.tup ds.reverse) A
  | .ref a => match getL A a with
    | some ds => alloc (.lst ds.reverse) A Q
    | none => False
  | _ => False
def intsD : List D → Option (List Int)
  | [] => some []
  | .int i :: r => (intsD r).map (i :: ·)
  | _ :: _ => none
def boolsD : List D → Option (List Bool)
  | [] => some []
  | .bl i :: r => (boolsD r).map (i :: ·)
  | _ :: _ => none
def rB (f : BF) (xs : List D) (A : AH) (Q : Dk) : Prop := match f, xs with
  | .len, [.str s] => s.length ≤ sizeLine ∧ Q (.int s.length) A
  | .len, [.tup ds] => Q (.int ds.length) A
  | .len, [.fl ds] => Q (.int ds.length) A
  | .len, [.ref a] => match getL A a with
    | some ds => Q (.int ds.length) A
    | none => match rd A a with
      | some (.dct ds) => Q (.int ds.length) A
      | _ => False
  | .int, [.int i] => Q (.int i) A
  | .int, [.bl b] => Q (.int (if b then 1 else 0)) A
  | .str, [.int i] => i.natAbs.log2 < 1920 ∧ Q (.str (toString i)) A
  | .repr, [.int i] => i.natAbs.log2 < 1920 ∧ Q (.str (toString i)) A
  | .max, [.int i, .int j] => Q (.int (if j > i then j else i)) A
  | .min, [.int i, .int j] => Q (.int (if j < i then j else i)) A
  | .all, [.ref a] => match (getL A a).bind boolsD with
    | some bs => Q (.bl (bs.all id)) A
    | none => False
  | .any, [.ref a] => match (getL A a).bind boolsD with
    | some bs => Q (.bl (bs.any id)) A
    | none => False
  | .sum, [.ref a] => match (getL A a).bind intsD with
    | some ns => Q (.int ns.sum) A
    | none => False
  | .tuple, [.tup ds] => Q (.tup ds) A
  | .tuple, [.ref a] => match getL A a with
    | some ds => Q (.tup ds) A
    | none => False
  | .list, [.tup ds] => alloc (.lst ds) A Q
  | .list, [.ref a] => match getL A a with
    | some ds => alloc (.lst ds) A Q
    | none => False
  | _, _ => False
/-- methods of a list -/
def rML (m : MT) (a : Addr) (ds : List D) (xs : List D) (A : AH) (Q : Dk) : Prop := match m, xs with
  | .append, [d] => ds.length < sizeLine ∧ Q .non (put A a (.lst (ds ++ [d])))
  | .pop, [] => match ds[ds.length - 1]? with
    | some d => Q d (put A a (.lst ds.dropLast))
    | none => False
  | .pop, [.int i] => 0 ≤ i ∧ i < 2 ^ 62 ∧ match ds[i.toNat]? with
    | some d => Q d (put A a (.lst (ds.eraseIdx i.toNat)))
    | none => False
  | .extend, [.tup es] => ds.length + es.length ≤ sizeLine ∧ Q .non (put A a (.lst (ds ++ es)))
  | .extend, [.ref b] => match rd A b with
    | some (.lst es) => ds.length + es.length ≤ sizeLine ∧ Q .non (put A a (.lst (ds ++ es)))
    | _ => False
  | .insert, [.int i, d] => ds.length < sizeLine ∧ 0 ≤ i ∧ i < 2 ^ 62 ∧ Q .non (put A a (.lst (ds.take i.toNat ++ [d] ++ ds.drop i.toNat)))
  | .index, [.int k] => match intsD ds with
    | some ns => k ∈ ns ∧ Q (.int (ns.idxOf k : Nat)) A
    | none => False
  | .remove, [.int k] => match intsD ds with
    | some ns => k ∈ ns ∧ Q .non (put A a (.lst (ds.eraseIdx (ns.idxOf k))))
    | none => False
  | .count, [.int k] => match intsD ds with
    | some ns => Q (.int (ns.count k : Nat)) A
    | none => False
  | _, _ => False
/-- methods of a tuple -/
def rMT (m : MT) (ds : List D) (xs : List D) (A : AH) (Q : Dk) : Prop := match m, xs with
  | .index, [.int k] => match intsD ds with
    | some ns => k ∈ ns ∧ Q (.int (ns.idxOf k : Nat)) A
    | none => False
  | _, _ => False
def rMD (m : MT) (a : Addr) (ds : List (D × D)) (xs : List D) (A : AH) (Q : Dk) : Prop := False
def rMS (m : MT) (s : Str) (xs : List D) (A : AH) (Q : Dk) : Prop := False
inductive RK | list | tuple | str | dict
/-- the kind of a receiver -/
def recv (A : AH) : D → Option RK
  | .tup _ => some .tuple
  | .str _ => some .str
  | .ref a => match A a with
    | some (.lst _) => some .list
    | some (.dct _) => some .dict
    | some (.fdct _) => some .dict
    | _ => none
  | _ => none
def listM : MT → Bool | .append => true | .pop => true | .extend => true | .insert => true | .index => true | .remove => true | _ => false
def tupM : MT → Bool | .index => true | _ => false
def dictM : MT → Bool | _ => false
def strM : MT → Bool | _ => false
def okRK : RK → MT → Bool | .list, m => listM m | .tuple, m => tupM m | .str, m => strM m | .dict, m => dictM m
def rM (k : RK) (m : MT) (o : D) (xs : List D) (A : AH) (Q : Dk) : Prop := match k, o with
  | .list, .ref a => match rd A a with
    | some (.lst ds) => rML m a ds xs A Q
    | _ => False
  | .dict, .ref a => match rd A a with
    | some (.dct ds) => rMD m a ds xs A Q
    | _ => False
  | .tuple, .tup ds => rMT m ds xs A Q
  | .str, .str s => rMS m s xs A Q
  | _, _ => False
/-- is it of the class -/
def isiD (sub : Str → Str → Bool) (A : AH) (d : D) (c : Cl) : Option Bool := match d, c with
  | .non, _ => some false
  | .bl _, c => some (decide (c = .bool) || decide (c = .int))
  | .int _, c => some (decide (c = .int))
  | .str _, c => some (decide (c = .str))
  | .tup _, c => some (decide (c = .tuple))
  | .fl _, c => some (decide (c = .list))
  | .ref a, c => match A a with
    | some (.lst _) => some (decide (c = .list))
    | some (.dct _) => some (decide (c = .dict))
    | some (.fdct _) => some (decide (c = .dict))
    | _ => none

/-! ### targets, loops -/
def bindT (tg : Tg) (d : D) (σ : DSt) (k : DSt → Prop) : Prop := match tg with
  | .name i _ => k (σ.set i (some d))
  | .tup xs => match d with
    | .tup ds => ds.length = xs.length ∧ k ((xs.zip ds).foldl (fun σ p => σ.set p.1.1 (some p.2)) σ)
    | _ => False
abbrev Gd := List (Addr × AO)
def holds (G : Gd) (A : AH) : Prop := ∀ p ∈ G, A p.1 = some p.2
/-- the same ends but the next -/
def DEnds.then_ (Z : DEnds) (f : DSt → AH → Prop) : DEnds := ⟨f, Z.rt, Z.bk, Z.ct, Z.ex⟩
/-- within a loop -/
def DEnds.loop (Z : DEnds) (f : DSt → AH → Prop) : DEnds := ⟨f, Z.rt, Z.nx, f, Z.ex⟩
def forR0 (G : Gd) (tg : Tg) (tb : DEnds → DSt → AH → Prop) (Z : DEnds) : List D → DSt → AH → Prop
  | [], σ, A => holds G A ∧ Z.nx σ A
  | d :: ds, σ, A => holds G A ∧ bindT tg d σ fun σ' => tb (Z.loop (forR0 G tg tb Z ds)) σ' A
/-- the loop; it stays as it is until a law of it is named -/
@[irreducible] def forR : Gd → Tg → (DEnds → DSt → AH → Prop) → DEnds → List D → DSt → AH → Prop := forR0
def whlR0 (c : DSt → AH → Dx → (Bool → AH → Prop) → Prop) (tb : DEnds → DSt → AH → Prop) (Z : DEnds) : Nat → DSt → AH → Prop
  | 0, _, _ => False
  | n + 1, σ, A => c σ A (Z.ex σ) fun b A1 => match b with
    | true => tb (Z.loop (whlR0 c tb Z n)) σ A1
    | false => Z.nx σ A1
@[irreducible] def whlR : (DSt → AH → Dx → (Bool → AH → Prop) → Prop) → (DEnds → DSt → AH → Prop) → DEnds → Nat → DSt → AH → Prop := whlR0
def noX : Dx := fun _ _ => False
def wipeD (σ : DSt) : List (Str × Nat) → DSt
  | [] => σ
  | v :: vs => (wipeD σ vs).set v.2 none
def lcR0 (G : Gd) (tg : Tg) (tt : DSt → AH → (Bool → AH → Prop) → Prop) (te : DSt → AH → Dk → Prop) (σ : DSt) (L : Addr) (Q : AH → Prop) : List D → AH → Prop
  | [], A => holds G A ∧ Q A
  | d :: ds, A => holds G A ∧ bindT tg d σ fun σ' => tt σ' A fun b A1 => match b with
    | true => te σ' A1 fun y A2 => match rd A2 L with
      | some (.lst acc) => acc.length < sizeLine ∧ lcR0 G tg tt te σ L Q ds (put A2 L (.lst (acc ++ [y])))
      | _ => False
    | false => lcR0 G tg tt te σ L Q ds A1
@[irreducible] def lcR : Gd → Tg → (DSt → AH → (Bool → AH → Prop) → Prop) → (DSt → AH → Dk → Prop) → DSt → Addr → (AH → Prop) → List D → AH → Prop := lcR0
section
variable {G : Gd} {tg : Tg} {tb : DEnds → DSt → AH → Prop} {Z : DEnds} {σ : DSt} {A : AH} {d : D} {ds : List D} {n : Nat} {c : DSt → AH → Dx → (Bool → AH → Prop) → Prop}
theorem forR_eq : forR = forR0 := by unfold forR; rfl
theorem whlR_eq : whlR = whlR0 := by unfold whlR; rfl
theorem lcR_eq : lcR = lcR0 := by unfold lcR; rfl
theorem forR_nil : forR G tg tb Z [] σ A = (holds G A ∧ Z.nx σ A) := by rw [forR_eq]; rfl
theorem forR_cons : forR G tg tb Z (d :: ds) σ A = (holds G A ∧ bindT tg d σ fun σ' => tb (Z.loop (forR G tg tb Z ds)) σ' A) := by rw [forR_eq]; rfl
theorem whlR_zero : whlR c tb Z 0 σ A = False := by rw [whlR_eq]; rfl
theorem whlR_succ : whlR c tb Z (n + 1) σ A = (c σ A (Z.ex σ) fun b A1 => match b with
    | true => tb (Z.loop (whlR c tb Z n)) σ A1
    | false => Z.nx σ A1) := by rw [whlR_eq]; rfl
theorem lcR_nil {tt : DSt → AH → (Bool → AH → Prop) → Prop} {te : DSt → AH → Dk → Prop} {L : Addr} {Q : AH → Prop} : lcR G tg tt te σ L Q [] A = (holds G A ∧ Q A) := by rw [lcR_eq]; rfl
theorem lcR_cons {tt : DSt → AH → (Bool → AH → Prop) → Prop} {te : DSt → AH → Dk → Prop} {L : Addr} {Q : AH → Prop} : lcR G tg tt te σ L Q (d :: ds) A = (holds G A ∧ bindT tg d σ fun σ' => tt σ' A fun b A1 => match b with
    | true => te σ' A1 fun y A2 => match rd A2 L with
      | some (.lst acc) => acc.length < sizeLine ∧ lcR G tg tt te σ L Q ds (put A2 L (.lst (acc ++ [y])))
      | _ => False
    | false => lcR G tg tt te σ L Q ds A1) := by rw [lcR_eq]; rfl
end
def rngD (lo : Int) (n : Nat) : List D := (List.range n).map fun k => .int (lo + (k : Nat))
def cstV : D → Bool
  | .non => true | .bl _ => true | .int _ => true | .str _ => true | _ => false

/-! ### the meaning -/
variable (G : GEnv)
abbrev DE' (α : Type) := DSt → AH → Dx → (α → AH → Prop) → Prop
/-- a value's truth -/
def valT (v : DE) : DE' Bool := fun σ A X Q => v σ A X fun x A1 => match truD A1 x with
  | some b => Q b A1
  | none => False
def boT (v : DE) : DE' Bool := fun σ A X Q => v σ A X fun z A3 => match z with
  | .bl k => Q k A3
  | _ => False
def wT (v : DE) : DE × DE' Bool := (v, valT v)
def wB (v : DE) : DE × DE' Bool := (v, boT v)
mutual
/-- an expression's meaning: as a value, as a test -/
def ev2 : E → DE × DE' Bool
  | .var i _ => wT fun σ A _ Q => match σ[i]? with
    | some (some d) => Q d A
    | _ => False
  | .gv x => wT fun _ A _ Q => match G.con x with
    | some d => Q d A
    | none => False
  | .cst d => wT fun _ A _ Q => Q d A
  | .bin o a b => wT fun σ A X Q => (ev2 a).1 σ A X fun x A1 => (ev2 b).1 σ A1 X fun y A2 => rBin o x y A2 Q
  | .neg a => wT fun σ A X Q => (ev2 a).1 σ A X fun x A1 => match x with | .int i => Q (.int (-i)) A1 | _ => False
  | .cmp o a b => wB fun σ A X Q => (ev2 a).1 σ A X fun x A1 => (ev2 b).1 σ A1 X fun y A2 => rCmp o x y A2 Q
  | .chain o o' a b c => wB fun σ A X Q => (ev2 a).1 σ A X fun x A1 => (ev2 b).1 σ A1 X fun y A2 => rCmp o x y A2 fun z A3 => match z with
    | .bl true => (ev2 c).1 σ A3 X fun w A4 => rCmp o' y w A4 Q
    | .bl false => Q (.bl false) A3
    | _ => False
  | .bop k es => evB2 k es
  | .not a => (fun σ A X Q => valT (ev2 a).1 σ A X fun b A1 => Q (.bl (!b)) A1, fun σ A X Q => (ev2 a).2 σ A X fun b A1 => Q (!b) A1)
  | .ite c a b => (fun σ A X Q => (ev2 c).2 σ A X fun k A1 => match k with
    | true => (ev2 a).1 σ A1 X Q
    | false => (ev2 b).1 σ A1 X Q, fun σ A X Q => (ev2 c).2 σ A X fun k A1 => match k with
    | true => (ev2 a).2 σ A1 X Q
    | false => (ev2 b).2 σ A1 X Q)
  | .tup es => wT fun σ A X Q => evs es σ A X fun ds A1 => ds.length ≤ sizeLine ∧ Q (.tup ds) A1
  | .lst es => wT fun σ A X Q => evs es σ A X fun ds A1 => ds.length ≤ sizeLine ∧ alloc (.lst ds) A1 Q
  | .idx a i => wT fun σ A X Q => (ev2 a).1 σ A X fun x A1 => (ev2 i).1 σ A1 X fun y A2 => rIdx x y A2 Q
  | .slc a lo hi => wT fun σ A X Q => (ev2 a).1 σ A X fun x A1 => evo lo σ A1 X fun l A2 => evo hi σ A2 X fun h A3 => rSlc x l h A3 Q
  | .rev a => wT fun σ A X Q => (ev2 a).1 σ A X fun x A1 => rRev x A1 Q
  | .call f es => wT fun σ A X Q => evs es σ A X fun ds A1 => G.cal f ds A1 X Q
  | .bif f es => wT fun σ A X Q => evs es σ A X fun ds A1 => rB f ds A1 Q
  | .mth m o es => wT fun σ A X Q => (ev2 o).1 σ A X fun x A1 => match recv A1 x with
    | some k => okRK k m = true ∧ evs es σ A1 X fun ds A2 => rM k m x ds A2 Q
    | none => False
  | .isi a c => wT fun σ A X Q => (ev2 a).1 σ A X fun x A1 => match isiD G.sub A1 x c with
    | some b => Q (.bl b) A1
    | none => False
  | .lc elt tg it cs own => wT fun σ A X Q => evI it σ A X fun ds Gd A1 => ∀ L, A1 L = none →
      lcR Gd tg (fun σ' A' R => evC cs σ' A' noX R) (fun σ' A' R => (ev2 elt).1 σ' A' noX R) (wipeD σ own) L (fun A2 => Q (.ref L) A2) ds (put A1 L (.lst []))
  | .lrg it => wT fun σ A X Q => evI it σ A X fun ds _ A1 => ds.length ≤ 2 ^ 24 ∧ alloc (.lst ds) A1 Q
  | .trg it => wT fun σ A X Q => evI it σ A X fun ds _ A1 => ds.length ≤ 2 ^ 24 ∧ Q (.tup ds) A1
  | .lset a => wT fun σ A X Q => (ev2 a).1 σ A X fun x A1 => False
  | .sset a => wT fun σ A X Q => (ev2 a).1 σ A X fun x A1 => False
/-- and (true), or (false): all but the last True or False, where the value is asked -/
def evB2 (k : Bool) : Es → DE × DE' Bool
  | .nil => (fun _ _ _ _ => False, fun _ _ _ _ => False)
  | .cons a es => match es with
    | .nil => ev2 a
    | .cons b r => (fun σ A X Q => (ev2 a).1 σ A X fun x A1 => match x with
      | .bl t => match t == k with
        | true => (evB2 k (.cons b r)).1 σ A1 X Q
        | false => Q (.bl t) A1
      | _ => False, fun σ A X Q => (ev2 a).2 σ A X fun t A1 => match t == k with
        | true => (evB2 k (.cons b r)).2 σ A1 X Q
        | false => Q t A1)
def evs : Es → DSt → AH → Dx → (List D → AH → Prop) → Prop
  | .nil, _, A, _, Q => Q [] A
  | .cons e es, σ, A, X, Q => (ev2 e).1 σ A X fun d A1 => evs es σ A1 X fun ds A2 => Q (d :: ds) A2
/-- a comprehension's tests -/
def evC : Es → DSt → AH → Dx → (Bool → AH → Prop) → Prop
  | .nil, _, A, _, Q => Q true A
  | .cons e _, σ, A, X, Q => (ev2 e).2 σ A X Q
def evo : Oe → DSt → AH → Dx → (Option Int → AH → Prop) → Prop
  | .no, _, A, _, Q => Q none A
  | .yes e, σ, A, X, Q => (ev2 e).1 σ A X fun d A1 => match d with
    | .int i => Q (some i) A1
    | _ => False
def evI : I → DSt → AH → Dx → (List D → Gd → AH → Prop) → Prop
  | .seq e, σ, A, X, Q => (ev2 e).1 σ A X fun d A1 => match d with
    | .tup ds => Q ds [] A1
    | .fl ds => Q ds [] A1
    | .ref a => match rd A1 a with
      | some (.lst ds) => Q ds [(a, .lst ds)] A1
      | _ => False
    | _ => False
  | .rng1 e, σ, A, X, Q => (ev2 e).1 σ A X fun d A1 => match d with
    | .int j => -(2 ^ 62) ≤ j ∧ j < 2 ^ 62 ∧ Q (rngD 0 j.toNat) [] A1
    | _ => False
  | .rng2 a b, σ, A, X, Q => (ev2 a).1 σ A X fun x A1 => (ev2 b).1 σ A1 X fun y A2 => match x, y with
    | .int i, .int j => (-(2 ^ 62) ≤ i ∧ i < 2 ^ 62 ∧ -(2 ^ 62) ≤ j ∧ j < 2 ^ 62) ∧ Q (rngD i (j - i).toNat) [] A2
    | _, _ => False
end
def ev (e : E) : DE := (ev2 G e).1
def evT (e : E) : DE' Bool := (ev2 G e).2
mutual
def evS : S → DEnds → DSt → AH → Prop
  | .asg i _ e, Z, σ, A => ev G e σ A (Z.ex σ) fun d A1 => Z.nx (σ.set i (some d)) A1
  | .unp xs e, Z, σ, A => ev G e σ A (Z.ex σ) fun d A1 => match d with
    | .tup ds => ds.length = xs.length ∧ Z.nx ((xs.zip ds).foldl (fun σ p => σ.set p.1.1 (some p.2)) σ) A1
    | _ => False
  | .par xs es, Z, σ, A => evs G es σ A (Z.ex σ) fun ds A1 => ds.length = xs.length ∧ Z.nx ((xs.zip ds).foldl (fun σ p => σ.set p.1.1 (some p.2)) σ) A1
  | .sto o i e, Z, σ, A => ev G e σ A (Z.ex σ) fun d A1 => ev G o σ A1 (Z.ex σ) fun x A2 => ev G i σ A2 (Z.ex σ) fun k A3 => match x, k with
    | .ref a, .int k => match rd A3 a with
      | some (.lst ds) => match ixD ds.length k with
        | some j => Z.nx σ (put A3 a (.lst (ds.set j d)))
        | none => False
      | _ => False
    | _, _ => False
  | .aug i _ o e, Z, σ, A => match σ[i]? with
    | some (some x) => ev G e σ A (Z.ex σ) fun y A1 => rAug o x y A1 fun z A2 => Z.nx (σ.set i (some z)) A2
    | _ => False
  | .exp e, Z, σ, A => ev G e σ A (Z.ex σ) fun _ A1 => Z.nx σ A1
  | .ret e, Z, σ, A => ev G e σ A (Z.ex σ) fun d A1 => Z.rt d A1
  | .ret0, Z, _, A => Z.rt .non A
  | .if_ c a b, Z, σ, A => evT G c σ A (Z.ex σ) fun k A1 => match k with
    | true => evSs a Z σ A1
    | false => evSs b Z σ A1
  | .whl c b, Z, σ, A => ∃ n, whlR (fun σ A X Q => evT G c σ A X Q) (fun Z σ A => evSs b Z σ A) Z n σ A
  | .for_ tg it b, Z, σ, A => evI G it σ A (Z.ex σ) fun ds Gd A1 => forR Gd tg (fun Z σ A => evSs b Z σ A) Z ds σ A1
  | .raise c, Z, σ, A => Z.ex σ c A
  | .pass, Z, σ, A => Z.nx σ A
  | .brk, Z, σ, A => Z.bk σ A
  | .cnt, Z, σ, A => Z.ct σ A
def evSs : Ss → DEnds → DSt → AH → Prop
  | .nil, Z, σ, A => Z.nx σ A
  | .cons s ss, Z, σ, A => evS s (Z.then_ fun σ A => evSs ss Z σ A) σ A
end
/-- A is part of A' -/
def Sub (A A' : AH) : Prop := ∀ a o, A a = some o → A' a = some o
/-- a call of a def: its slots, its body; what nobody holds may be forgotten -/
def runD (n : Nat) (body : Ss) (ds : List D) (A : AH) (X : Dx) (Q : Dk) : Prop :=
  evSs G body ⟨fun _ A' => ∃ A2, Sub A2 A' ∧ Q .non A2, fun d A' => ∃ A2, Sub A2 A' ∧ Q d A2, fun _ _ => False, fun _ _ => False, fun _ c A' => ∃ A2, Sub A2 A' ∧ X c A2⟩
    (ds.map some ++ List.replicate (n - ds.length) none) A
end Py

namespace Py
open PySem PySem.Spec PyProof.Rows L2

/-! ### how the plain data lies in the layer's heap -/
/-- a tuple without a dict of its own: locked as its object, or written -/
def TupAt (K : PySem.W.Frag) (H : Hp) (a : Addr) (vs : List V) : Prop :=
  (∃ o : Obj, H a = some (.frz o (.tup vs)) ∧ o.dict = none ∧ o.slots = #[]) ∨
    ∃ (o : Obj) (its : Array Value) (n : Nat), K.lookup a = some o ∧ o.cls = .type "tuple" ∧ (o.dict = none ∧ o.slots = #[]) ∧ o.data = .seq its n ∧ its.size ≤ sizeLine ∧ Vals vs its.toList
theorem TupAt.sqt {K : PySem.W.Frag} {H : Hp} {a : Addr} {vs : List V} (h : TupAt K H a vs) : SqT K H a vs := by
  rcases h with ⟨o, h, _⟩ | ⟨o, its, n, h1, h2, h3, h4, h5, h6⟩
  · exact .inl (.inr ⟨o, h⟩)
  · exact .inr ⟨o, its, n, h1, h2, h4, h5, h6⟩
/-- a list that nobody changes -/
def FlAt (K : PySem.W.Frag) (H : Hp) (a : Addr) (vs : List V) : Prop :=
  (∃ o : Obj, H a = some (.frz o (.lst vs))) ∨ ∃ (o : Obj) (its : Array Value) (n : Nat), K.lookup a = some o ∧ o.cls = .type "list" ∧ o.dict = none ∧ o.data = .seq its n ∧ its.size ≤ sizeLine ∧ Vals vs its.toList
theorem FlAt.sql {K : PySem.W.Frag} {H : Hp} {a : Addr} {vs : List V} (h : FlAt K H a vs) : SqL K H a vs := by
  rcases h with ⟨o, h⟩ | h
  · exact .inl (.inr ⟨o, h⟩)
  · exact .inr h
mutual
def RelD (K : PySem.W.Frag) (H : Hp) : D → V → Prop
  | .non, v => v = .non
  | .bl b, v => v = .bl b
  | .int i, v => v = .int i
  | .str s, v => v = .str s
  | .tup ds, v => ∃ a vs, v = .ref a ∧ TupAt K H a vs ∧ RelDs K H ds vs
  | .ref a, v => v = .ref a
  | .fl ds, v => ∃ a vs, v = .ref a ∧ FlAt K H a vs ∧ RelDs K H ds vs
def RelDs (K : PySem.W.Frag) (H : Hp) : List D → List V → Prop
  | [], vs => vs = []
  | d :: ds, vs => ∃ v r, vs = v :: r ∧ RelD K H d v ∧ RelDs K H ds r
end
def FzOk : HO → Prop
  | .tup _ => True
  | .lst _ => True
  | _ => False
def Mono (H H' : Hp) : Prop := ∀ a o u, FzOk u → H a = some (.frz o u) → H' a = some (.frz o u)
theorem Mono.refl {H : Hp} : Mono H H := fun _ _ _ _ h => h
theorem Mono.trans {H H1 H2 : Hp} (a : Mono H H1) (b : Mono H1 H2) : Mono H H2 := fun c o xs k h => b c o xs k (a c o xs k h)
theorem Mono.tup {K : PySem.W.Frag} {H H' : Hp} {a : Addr} {xs : List V} (m : Mono H H') (h : TupAt K H a xs) : TupAt K H' a xs := by
  rcases h with ⟨o, h, d⟩ | h
  · exact .inl ⟨o, m a o _ trivial h, d⟩
  · exact .inr h
theorem Mono.fl {K : PySem.W.Frag} {H H' : Hp} {a : Addr} {xs : List V} (m : Mono H H') (h : FlAt K H a xs) : FlAt K H' a xs := by
  rcases h with ⟨o, h⟩ | h
  · exact .inl ⟨o, m a o _ trivial h⟩
  · exact .inr h
mutual
theorem RelD.mono {K : PySem.W.Frag} {H H' : Hp} (m : Mono H H') : ∀ (d : D) (v : V), RelD K H d v → RelD K H' d v
  | .non, _, h => h
  | .bl _, _, h => h
  | .int _, _, h => h
  | .str _, _, h => h
  | .ref _, _, h => h
  | .tup ds, _, ⟨a, vs, e, h, r⟩ => ⟨a, vs, e, m.tup h, RelDs.mono m ds vs r⟩
  | .fl ds, _, ⟨a, vs, e, h, r⟩ => ⟨a, vs, e, m.fl h, RelDs.mono m ds vs r⟩
theorem RelDs.mono {K : PySem.W.Frag} {H H' : Hp} (m : Mono H H') : ∀ (ds : List D) (vs : List V), RelDs K H ds vs → RelDs K H' ds vs
  | [], _, h => h
  | d :: ds, _, ⟨v, r, e, h, t⟩ => ⟨v, r, e, RelD.mono m d v h, RelDs.mono m ds r t⟩
end
theorem RelDs.length {K : PySem.W.Frag} {H : Hp} : ∀ {ds : List D} {vs : List V}, RelDs K H ds vs → vs.length = ds.length
  | [], _, h => by cases (show _ = [] from h); rfl
  | _ :: ds, _, ⟨_, r, e, _, t⟩ => by subst e; simp [RelDs.length t]
theorem RelDs.get {K : PySem.W.Frag} {H : Hp} : ∀ {ds : List D} {vs : List V} {i : Nat} {d : D}, RelDs K H ds vs → ds[i]? = some d → ∃ v, vs[i]? = some v ∧ RelD K H d v
  | [], _, _, _, _, h => by simp at h
  | x :: ds, _, 0, d, ⟨v, r, e, h, t⟩, g => by
    subst e
    cases (show x = d by simpa using g)
    exact ⟨v, rfl, h⟩
  | x :: ds, _, i + 1, d, ⟨v, r, e, h, t⟩, g => by
    subst e
    obtain ⟨w, e1, e2⟩ := RelDs.get (i := i) (d := d) t (by simpa using g)
    exact ⟨w, by simpa using e1, e2⟩
theorem RelDs.getV {K : PySem.W.Frag} {H : Hp} {ds : List D} {vs : List V} {i : Nat} {v : V} (r : RelDs K H ds vs) (h : vs[i]? = some v) : ∃ d, ds[i]? = some d ∧ RelD K H d v := by
  have hi : i < ds.length := by
    have := (List.getElem?_eq_some_iff.mp h).1
    rw [r.length] at this
    exact this
  obtain ⟨w, e, q⟩ := r.get (List.getElem?_eq_getElem hi)
  rw [h] at e
  cases e
  exact ⟨_, List.getElem?_eq_getElem hi, q⟩
theorem RelDs.app {K : PySem.W.Frag} {H : Hp} : ∀ {ds es : List D} {vs ws : List V}, RelDs K H ds vs → RelDs K H es ws → RelDs K H (ds ++ es) (vs ++ ws)
  | [], _, _, _, h, q => by cases (show _ = [] from h); exact q
  | _ :: ds, _, _, _, ⟨v, r, e, h, t⟩, q => by subst e; exact ⟨v, _, rfl, h, RelDs.app t q⟩
theorem RelDs.one {K : PySem.W.Frag} {H : Hp} {d : D} {v : V} (h : RelD K H d v) : RelDs K H [d] [v] := ⟨v, [], rfl, h, rfl⟩
theorem RelDs.drop {K : PySem.W.Frag} {H : Hp} : ∀ (n : Nat) {ds : List D} {vs : List V}, RelDs K H ds vs → RelDs K H (ds.drop n) (vs.drop n)
  | 0, _, _, h => h
  | _ + 1, [], _, h => by cases (show _ = [] from h); exact rfl
  | n + 1, _ :: ds, _, ⟨v, r, e, _, t⟩ => by subst e; exact RelDs.drop n t
theorem RelDs.take {K : PySem.W.Frag} {H : Hp} : ∀ (n : Nat) {ds : List D} {vs : List V}, RelDs K H ds vs → RelDs K H (ds.take n) (vs.take n)
  | 0, _, _, h => rfl
  | _ + 1, [], _, h => by cases (show _ = [] from h); exact rfl
  | n + 1, _ :: ds, _, ⟨v, r, e, h, t⟩ => by subst e; exact ⟨v, _, rfl, h, RelDs.take n t⟩
theorem RelDs.set {K : PySem.W.Frag} {H : Hp} {d : D} {v : V} (q : RelD K H d v) : ∀ (n : Nat) {ds : List D} {vs : List V}, RelDs K H ds vs → RelDs K H (ds.set n d) (vs.set n v)
  | _, [], _, h => by cases (show _ = [] from h); exact rfl
  | 0, _ :: ds, _, ⟨w, r, e, h, t⟩ => by subst e; exact ⟨v, _, rfl, q, t⟩
  | n + 1, _ :: ds, _, ⟨w, r, e, h, t⟩ => by subst e; exact ⟨w, _, rfl, h, RelDs.set q n t⟩
theorem RelDs.erase {K : PySem.W.Frag} {H : Hp} : ∀ (n : Nat) {ds : List D} {vs : List V}, RelDs K H ds vs → RelDs K H (ds.eraseIdx n) (vs.eraseIdx n)
  | _, [], _, h => by cases (show _ = [] from h); exact rfl
  | 0, _ :: ds, _, ⟨w, r, e, h, t⟩ => by subst e; exact t
  | n + 1, _ :: ds, _, ⟨w, r, e, h, t⟩ => by subst e; exact ⟨w, _, rfl, h, RelDs.erase n t⟩
theorem RelDs.rev {K : PySem.W.Frag} {H : Hp} : ∀ {ds : List D} {vs : List V}, RelDs K H ds vs → RelDs K H ds.reverse vs.reverse
  | [], _, h => by cases (show _ = [] from h); exact rfl
  | _ :: ds, _, ⟨w, r, e, h, t⟩ => by
    subst e
    rw [List.reverse_cons, List.reverse_cons]
    exact RelDs.app (RelDs.rev t) (RelDs.one h)
theorem RelDs.mk {K : PySem.W.Frag} {H : Hp} : ∀ {ds : List D} {vs : List V}, vs.length = ds.length → (∀ (i : Nat) d v, ds[i]? = some d → vs[i]? = some v → RelD K H d v) → RelDs K H ds vs
  | [], vs, h, _ => by cases vs with | nil => rfl | cons _ _ => simp at h
  | d :: ds, [], h, _ => by simp at h
  | d :: ds, v :: vs, h, q => ⟨v, vs, rfl, q 0 d v rfl rfl, RelDs.mk (by simpa using h) fun i d v e1 e2 => q (i + 1) d v (by simpa using e1) (by simpa using e2)⟩

structure RC where
  K : PySem.W.Frag
  cl : Str → Option Addr
def RelKv (K : PySem.W.Frag) (H : Hp) : List (D × D) → List (Key × V) → Prop
  | [], ws => ws = []
  | p :: r, ws => ∃ k v t, ws = (k, v) :: t ∧ RelD K H p.1 (kV k) ∧ RelD K H p.2 v ∧ RelKv K H r t
def RelFs (K : PySem.W.Frag) (H : Hp) : List (Str × D) → List (Str × V) → Prop
  | [], ws => ws = []
  | p :: r, ws => ∃ v t, ws = (p.1, v) :: t ∧ RelD K H p.2 v ∧ RelFs K H r t
def RelO (c : RC) (H : Hp) (a : Addr) : AO → Prop
  | .lst ds => ∃ vs, H a = some (.lst vs) ∧ RelDs c.K H ds vs
  | .dct kvs => ∃ ws, H a = some (.dK ws) ∧ RelKv c.K H kvs ws
  | .fdct kvs => ∃ ws, Rd H a (.dK ws) ∧ RelKv c.K H kvs ws
  | .ins n fs => ∃ C dx ws, c.cl n = some C ∧ H a = some (.ins C dx ws) ∧ RelFs c.K H fs ws
  | .exc _ => False
def RelA (c : RC) (A : AH) (H : Hp) : Prop := ∀ a o, A a = some o → RelO c H a o
theorem RelKv.mono {K : PySem.W.Frag} {H H' : Hp} (m : Mono H H') : ∀ {ds : List (D × D)} {vs : List (Key × V)}, RelKv K H ds vs → RelKv K H' ds vs
  | [], _, h => h
  | _ :: ds, _, ⟨k, v, t, e, h1, h2, r⟩ => ⟨k, v, t, e, RelD.mono m _ _ h1, RelD.mono m _ _ h2, RelKv.mono m r⟩
theorem RelFs.mono {K : PySem.W.Frag} {H H' : Hp} (m : Mono H H') : ∀ {ds : List (Str × D)} {vs : List (Str × V)}, RelFs K H ds vs → RelFs K H' ds vs
  | [], _, h => h
  | _ :: ds, _, ⟨v, t, e, h2, r⟩ => ⟨v, t, e, RelD.mono m _ _ h2, RelFs.mono m r⟩
theorem Rd_some {H : Hp} {a : Addr} {u : HO} (r : Rd H a u) : ∃ o, H a = Option.some o := by
  rcases r with r | ⟨o, r⟩ <;> exact ⟨_, r⟩
theorem RelO_some {c : RC} {H : Hp} {a : Addr} {o : AO} (h : RelO c H a o) : ∃ u, H a = Option.some u := by
  cases o with
  | lst ds => obtain ⟨_, e, _⟩ := h; exact ⟨_, e⟩
  | dct ds => obtain ⟨_, e, _⟩ := h; exact ⟨_, e⟩
  | fdct ds => obtain ⟨_, e, _⟩ := h; exact Rd_some e
  | ins n fs => obtain ⟨_, _, _, _, e, _⟩ := h; exact ⟨_, e⟩
  | exc _ => exact h.elim
theorem RelA_none {c : RC} {A : AH} {H : Hp} (r : RelA c A H) {a : Addr} (h : H a = Option.none) : A a = Option.none := by
  cases e : A a with
  | none => rfl
  | some o =>
    obtain ⟨u, q⟩ := RelO_some (r a o e)
    rw [h] at q
    cases q
theorem RelO.keep {c : RC} {H H' : Hp} {a : Addr} {o : AO} (h : RelO c H a o) (m : Mono H H') (e : H' a = H a) : RelO c H' a o := by
  have er : ∀ u, Rd H a u → Rd H' a u := fun u x => by unfold Rd at *; rw [e]; exact x
  cases o with
  | lst ds => obtain ⟨v, q, r⟩ := h; exact ⟨v, e.trans q, r.mono m⟩
  | dct ds => obtain ⟨v, q, r⟩ := h; exact ⟨v, e.trans q, r.mono m⟩
  | fdct ds => obtain ⟨v, q, r⟩ := h; exact ⟨v, er _ q, r.mono m⟩
  | ins n fs => obtain ⟨C, dx, v, z, q, r⟩ := h; exact ⟨C, dx, v, z, e.trans q, r.mono m⟩
  | exc _ => exact h.elim
theorem Sub.rel {c : RC} {A A' : AH} {H : Hp} (s : Sub A A') (r : RelA c A' H) : RelA c A H := fun a o e => r a o (s a o e)
/-- a store at a place that holds nothing frozen -/
theorem Mono.upd {H : Hp} {a : Addr} {o : HO} (h : ∀ ob u, H a ≠ some (.frz ob u)) : Mono H (upd H a o) := fun b ob xs k r => by
  have hb : b ≠ a := fun e => h ob xs (e ▸ r)
  rw [upd_ne hb]
  exact r
theorem Mono.fresh {H : Hp} {a : Addr} {o : HO} (h : H a = none) : Mono H (L2.upd H a o) := Mono.upd fun ob xs r => by
  rw [h] at r
  cases r
theorem Mono.at {H : Hp} {a : Addr} {o u : HO} (h : H a = some u) (n2 : ∀ ob w, u ≠ .frz ob w) : Mono H (L2.upd H a o) := Mono.upd fun ob xs r => by
  rw [h] at r
  cases r
  exact n2 _ _ rfl
theorem RelA.put {c : RC} {A : AH} {H : Hp} {a : Addr} {o : AO} {u : HO} (r : RelA c A H) (m : Mono H (L2.upd H a u)) (h : RelO c (L2.upd H a u) a o) : RelA c (put A a o) (L2.upd H a u) := fun b p e => by
  unfold Py.put at e
  by_cases hb : b = a
  · subst hb
    rw [if_pos rfl] at e
    cases e
    exact h
  · rw [if_neg hb] at e
    exact (r b p e).keep m (upd_ne hb)
/-- a new object that is no concern of the plain heap (a tuple) -/
theorem RelA.aside {c : RC} {A : AH} {H : Hp} {a : Addr} {u : HO} (r : RelA c A H) (h : H a = none) : RelA c A (L2.upd H a u) := fun b p e => by
  have hb : b ≠ a := fun z => by
    obtain ⟨o, q⟩ := RelO_some (r b p e)
    rw [z, h] at q
    cases q
  exact (r b p e).keep (Mono.fresh h) (upd_ne hb)
theorem getL_rel {c : RC} {A : AH} {H : Hp} {a : Addr} {ds : List D} (r : RelA c A H) (h : getL A a = some ds) : ∃ vs, Rd H a (.lst vs) ∧ RelDs c.K H ds vs := by
  unfold getL at h
  split at h
  · rename_i e
    cases h
    obtain ⟨vs, q, t⟩ := r a _ e
    exact ⟨vs, .inl q, t⟩
  · cases h
/-! ### the slots -/
def RelS (K : PySem.W.Frag) (H : Hp) (σd : DSt) (σ : L2.St) : Prop := σd.length = σ.length ∧ ∀ (i : Nat) d, σd[i]? = some (some d) → ∃ v, σ[i]? = some (some v) ∧ RelD K H d v
theorem RelS.mono {K : PySem.W.Frag} {H H' : Hp} {σd : DSt} {σ : L2.St} (m : Mono H H') (r : RelS K H σd σ) : RelS K H' σd σ := ⟨r.1, fun i d e => let ⟨v, a, b⟩ := r.2 i d e; ⟨v, a, RelD.mono m _ _ b⟩⟩
theorem RelS.set {K : PySem.W.Frag} {H : Hp} {σd : DSt} {σ : L2.St} {i : Nat} {d : D} {v : V} (r : RelS K H σd σ) (h : RelD K H d v) : RelS K H (σd.set i (some d)) (σ.set i (some v)) := by
  refine ⟨by simpa using r.1, fun j e q => ?_⟩
  by_cases hj : i = j
  · subst hj
    by_cases hi : i < σd.length
    · rw [List.getElem?_set_self hi] at q
      cases q
      exact ⟨v, List.getElem?_set_self (by rw [← r.1]; exact hi), h⟩
    · rw [List.getElem?_eq_none (by simpa using hi)] at q
      cases q
  · rw [List.getElem?_set_ne hj] at q ⊢
    exact r.2 j e q
theorem RelS.setN {K : PySem.W.Frag} {H : Hp} {σd : DSt} {σ : L2.St} {i : Nat} (r : RelS K H σd σ) : RelS K H (σd.set i none) (σ.set i none) := by
  refine ⟨by simpa using r.1, fun j e q => ?_⟩
  by_cases hj : i = j
  · subst hj
    by_cases hi : i < σd.length
    · rw [List.getElem?_set_self hi] at q
      cases q
    · rw [List.getElem?_eq_none (by simpa using hi)] at q
      cases q
  · rw [List.getElem?_set_ne hj] at q ⊢
    exact r.2 j e q
theorem RelS.wipe {K : PySem.W.Frag} {H : Hp} {σd : DSt} {σ : L2.St} (r : RelS K H σd σ) : ∀ own : List (Str × Nat), RelS K H (wipeD σd own) (wipe σ (own.map (·.2)))
  | [] => r
  | v :: vs => (RelS.wipe r vs).setN
/-- weaken what follows -/
theorem PE.imp {X : Cx} {e : Expr} {t t' : TE} (h : PE X e t) (i : ∀ σ H Q, t' σ H Q → t σ H Q) : PE X e t' := ⟨fun pins s σ H Q I q => h.run pins s σ H Q I (i _ _ _ q)⟩
theorem PT.imp {X : Cx} {e : Expr} {t t' : TT} (h : PT X e t) (i : ∀ σ H Q, t' σ H Q → t σ H Q) : PT X e t' := ⟨fun pins s σ H Q I q => h.run pins s σ H Q I (i _ _ _ q)⟩
theorem PS.imp {X : Cx} {e : Stmt} {t t' : TS} (h : PS X e t) (i : ∀ D σ H, t' D σ H → t D σ H) : PS X e t' := ⟨fun pins s σ H Q I q => h.run pins s σ H Q I (i _ _ _ q)⟩
theorem PSs.imp {X : Cx} {e : List Stmt} {t t' : TS} (h : PSs X e t) (i : ∀ D σ H, t' D σ H → t D σ H) : PSs X e t' := ⟨fun pins s σ H Q I q => h.run pins s σ H Q I (i _ _ _ q)⟩
theorem PA.imp {X : Cx} {e : List Expr} {t t' : TA} (h : PA X e t) (i : ∀ σ H Q, t' σ H Q → t σ H Q) : PA X e t' := ⟨fun pos pins s σ H Q I q => h.run pos pins s σ H Q I (i _ _ _ q)⟩
theorem PI.imp {X : Cx} {tg e : Expr} {t t' : TI} (h : PI X tg e t) (i : ∀ σ H Q, t' σ H Q → t σ H Q) : PI X tg e t' := ⟨fun pins s σ H Q I q => h.run pins s σ H Q I (i _ _ _ q)⟩
theorem PG.imp {X : Cx} {e : Expr} {t t' : TG} (h : PG X e t) (i : ∀ v σ H Q, t' v σ H Q → t v σ H Q) : PG X e t' := ⟨fun pins s σ H v u Q I r q => h.run pins s σ H v u Q I r (i _ _ _ _ q)⟩
theorem OpR.imp {X : Cx} {f : Value → Value → Sem Value} {r r' : R2} (h : OpR X f r) (i : ∀ x y H Q, r' x y H Q → r x y H Q) : OpR X f r' := fun pins s σ H x y v u Q I rx ry q => h pins s σ H x y v u Q I rx ry (i _ _ _ _ q)
theorem CallR.imp {X : Cx} {f : Value} {r r' : List V → Hp → VK → Prop} (h : CallR X f r) (i : ∀ x H Q, r' x H Q → r x H Q) : CallR X f r' := fun pins s σ H x v Q I rx q => h pins s σ H x v Q I rx (i _ _ _ q)
theorem MtR.imp {X : Cx} {f : String} {r r' : V → List V → Hp → VK → Prop} (h : MtR X f r) (i : ∀ o x H Q, r' o x H Q → r o x H Q) : MtR X f r' := fun pins s σ H o x w v Q I ro rx q => h pins s σ H o x w v Q I ro rx (i _ _ _ _ q)
theorem IxR.imp {X : Cx} {r r' : R2} (h : IxR X r) (i : ∀ x y H Q, r' x y H Q → r x y H Q) : IxR X r' := fun a b pins s σ H x y v u Q I rx ry q => h a b pins s σ H x y v u Q I rx ry (i _ _ _ _ q)
theorem SlR.imp {X : Cx} {r r' : V → Option Int → Option Int → Hp → VK → Prop} (h : SlR X r) (i : ∀ x a b H Q, r' x a b H Q → r x a b H Q) : SlR X r' := fun pins s σ H x v vl vu lo hi sl Q I rx hs pl pu q => h pins s σ H x v vl vu lo hi sl Q I rx hs pl pu (i _ _ _ _ _ q)
end Py

namespace Py
open PySem PySem.Spec PyProof.Rows L2
section
variable (c : RC)
/-- what follows, told of the layer's values -/
def Fol (H : Hp) (Q : VK) (Qd : Dk) : Prop := ∀ d A' v H', Qd d A' → Mono H H' → RelA c A' H' → RelD c.K H' d v → Q v H'
def lR2 (r : D → D → AH → Dk → Prop) : R2 := fun x y H Q => ∃ A dx dy Qd, RelA c A H ∧ RelD c.K H dx x ∧ RelD c.K H dy y ∧ r dx dy A Qd ∧ Fol c H Q Qd
def lR1 (r : D → AH → Dk → Prop) : V → Hp → VK → Prop := fun x H Q => ∃ A dx Qd, RelA c A H ∧ RelD c.K H dx x ∧ r dx A Qd ∧ Fol c H Q Qd
def lRs (r : List D → AH → Dk → Prop) : List V → Hp → VK → Prop := fun xs H Q => ∃ A ds Qd, RelA c A H ∧ RelDs c.K H ds xs ∧ r ds A Qd ∧ Fol c H Q Qd
def lRm (r : D → List D → AH → Dk → Prop) : V → List V → Hp → VK → Prop := fun x xs H Q => ∃ A dx ds Qd, RelA c A H ∧ RelD c.K H dx x ∧ RelDs c.K H ds xs ∧ r dx ds A Qd ∧ Fol c H Q Qd
end
section
variable {c : RC} {X : Cx}
theorem Fol.here {H : Hp} {Q : VK} {Qd : Dk} {A : AH} {d : D} {v : V} (f : Fol c H Q Qd) (q : Qd d A) (ra : RelA c A H) (r : RelD c.K H d v) : Q v H := f d A v H q Mono.refl ra r
theorem Fol.lst {H : Hp} {Q : VK} {Qd : Dk} {A : AH} {ds : List D} {vs : List V} (f : Fol c H Q Qd) (q : alloc (.lst ds) A Qd) (ra : RelA c A H) (r : RelDs c.K H ds vs) : ∀ p, H p = none → Q (.ref p) (upd H p (.lst vs)) := fun p hp =>
  have m := Mono.fresh (o := .lst vs) hp
  f (.ref p) _ _ _ (q p (RelA_none ra hp)) m (ra.put m ⟨vs, upd_same, r.mono m⟩) rfl
/-- a new tuple, locked as its object -/
def newT (vs : List V) (H : Hp) (Q : VK) : Prop := ∀ (p : Addr) (ob : Obj), H p = none → ob.dict = none ∧ ob.slots = #[] → Q (.ref p) (upd H p (.frz ob (.tup vs)))
theorem Fol.tup {H : Hp} {Q : VK} {Qd : Dk} {A : AH} {ds : List D} {vs : List V} (f : Fol c H Q Qd) (q : Qd (.tup ds) A) (ra : RelA c A H) (r : RelDs c.K H ds vs) : newT vs H Q := fun p ob hp hd =>
  have m := Mono.fresh (o := .frz ob (.tup vs)) hp
  f (.tup ds) A _ _ q m (ra.aside hp) ⟨p, vs, rfl, .inl ⟨ob, upd_same, hd⟩, r.mono m⟩
theorem laidT {pins : List (Addr × Obj)} {σ : L2.St} {H : Hp} {s : Shared} {t : Nat} {h : Heap} {xs : List V} {us : List Value} {Q : VK} (I : Inv X pins σ H { s with heap := h, toks := t }) (r : Vals xs us) (z : xs.length ≤ sizeLine) (q : newT xs H Q) :
    EP X pins σ Q (.ref h.objs.size) { s with heap := h.push { cls := .type "tuple", data := .seq us.toArray }, toks := t } := by
  refine ⟨.ref h.objs.size, upd H h.objs.size (.frz { cls := .type "tuple", data := .seq us.toArray } (.tup xs)), ?_, rfl, q _ _ (I.hok.fresh (Nat.le_refl _)) ⟨rfl, rfl⟩⟩
  exact I.laid (t' := t) (fun b ob q => Heap.get?_push_of_some _ q) (Nat.le_refl _) ⟨Heap.get?_push_size _ rfl, z, us, r, IsTup.new _ _⟩
/-- tuple + tuple -/
def rCatN (K : PySem.W.Frag) : R2 := fun x y H Q => ∃ a b xs ys, x = .ref a ∧ y = .ref b ∧ SqT K H a xs ∧ SqT K H b ys ∧ xs.length + ys.length ≤ sizeLine ∧
  (xs = [] → Q (.ref b) H) ∧ (xs ≠ [] → ys = [] → Q (.ref a) H) ∧ (xs ≠ [] → ys ≠ [] → newT (xs ++ ys) H Q)
theorem op_catN : OpR X (binaryOp .Add) (rCatN X.K) := by
  intro pins s σ H x y v u Q I rx ry h
  obtain ⟨a, b, xs, ys, rfl, rfl, ha, hb, hz, q0, q1, q2⟩ := h
  cases rx
  cases ry
  obtain ⟨its, r1, p1, _⟩ := I.tuple ha
  obtain ⟨its2, r2, p2, _⟩ := I.tuple hb
  by_cases hx : xs = []
  · subst hx
    cases r1
    exact cat_tup0 p1 p2 ⟨.ref b, H, I, rfl, q0 rfl⟩
  · refine HT.cat_tup p1 p2 (fun z => hx (r1.nil_iff.mp z)) (fun z => ⟨.ref a, H, I, rfl, q1 hx (r2.nil_iff.mp z)⟩) (fun z => ?_) (by rw [← r1.length, ← r2.length]; exact hz)
    exact laidT (h := s.heap) (t := s.toks) I (r1.append r2) (by rw [List.length_append]; exact hz) (q2 hx fun w => z (r2.nil_iff.mpr w))
theorem Rd_sql {K : PySem.W.Frag} {H : Hp} {a : Addr} {xs : List V} (h : Rd H a (.lst xs)) : SqL K H a xs := .inl h

/-! ### + - * // % ** -/
theorem d_add (hK : X.K = c.K) : OpR X (binaryOp .Add) (lR2 c (rBin .add)) := by
  refine OpR.imp (op_add.or (op_add_str.or (op_catN.or op_cat))) fun x y H Q h => ?_
  obtain ⟨A, dx, dy, Qd, ra, rx, ry, r, f⟩ := h
  cases dx <;> cases dy <;> try exact r.elim
  · exact .inl ⟨_, _, rx, ry, f.here r ra rfl⟩
  · exact .inr (.inl ⟨_, _, rx, ry, r.1, f.here r.2 ra rfl⟩)
  · rename_i xs ys
    obtain ⟨a, vs, rfl, h1, r1⟩ := rx
    obtain ⟨b, ws, rfl, h2, r2⟩ := ry
    refine .inr (.inr (.inl ⟨a, b, vs, ws, rfl, rfl, by rw [hK]; exact h1.sqt, by rw [hK]; exact h2.sqt, by rw [r1.length, r2.length]; exact r.1, fun e => ?_, fun e1 e2 => ?_, fun e1 e2 => ?_⟩))
    · subst e
      have e1 : xs = [] := by have := r1.length; exact List.length_eq_zero_iff.mp (by simpa using this.symm)
      subst e1
      exact f.here (d := .tup ([] ++ ys)) r.2 ra ⟨b, ws, rfl, h2, r2⟩
    · subst e2
      have e3 : ys = [] := by have := r2.length; exact List.length_eq_zero_iff.mp (by simpa using this.symm)
      subst e3
      exact f.here (d := .tup (xs ++ [])) r.2 ra ⟨a, vs, rfl, h1, by rw [List.append_nil]; exact r1⟩
    · exact f.tup r.2 ra (r1.app r2)
  · rename_i a b
    unfold rBin at r
    dsimp only at r
    split at r
    · rename_i xs ys e1 e2
      obtain ⟨vs, h1, r1⟩ := ra a _ e1
      obtain ⟨ws, h2, r2⟩ := ra b _ e2
      exact .inr (.inr (.inr ⟨a, b, vs, ws, rx, ry, h1, h2, by rw [r1.length, r2.length]; exact r.1, f.lst r.2 ra (r1.app r2)⟩))
    · exact r.elim
theorem d_sub : OpR X (binaryOp .Sub) (lR2 c (rBin .sub)) := by
  refine OpR.imp op_sub fun x y H Q h => ?_
  obtain ⟨A, dx, dy, Qd, ra, rx, ry, r, f⟩ := h
  cases dx <;> cases dy <;> try exact r.elim
  exact ⟨_, _, rx, ry, f.here r ra rfl⟩
theorem flat_rep {K : PySem.W.Frag} {H : Hp} {ds : List D} {vs : List V} (r : RelDs K H ds vs) : ∀ n, RelDs K H (List.replicate n ds).flatten (List.replicate n vs).flatten
  | 0 => rfl
  | n + 1 => by
    rw [List.replicate_succ, List.replicate_succ, List.flatten_cons, List.flatten_cons]
    exact r.app (flat_rep r n)
theorem d_mul : OpR X (binaryOp .Mult) (lR2 c (rBin .mul)) := by
  refine OpR.imp (op_mulW.or op_rep) fun x y H Q h => ?_
  obtain ⟨A, dx, dy, Qd, ra, rx, ry, r, f⟩ := h
  cases dx <;> cases dy <;> try exact r.elim
  · exact .inl ⟨_, _, rx, ry, r.1, f.here r.2 ra rfl⟩
  · rename_i a k
    unfold rBin at r
    dsimp only at r
    split at r
    · rename_i xs e1
      obtain ⟨vs, h1, r1⟩ := ra a _ e1
      obtain ⟨k0, k1, hz, q⟩ := r
      exact .inr ⟨a, k, vs, rx, ry, h1, by omega, by omega, by rw [r1.length]; exact hz, f.lst q ra (flat_rep r1 _)⟩
    · exact r.elim
theorem d_fdiv : OpR X (binaryOp .FloorDiv) (lR2 c (rBin .fdiv)) := by
  refine OpR.imp op_fdivW fun x y H Q h => ?_
  obtain ⟨A, dx, dy, Qd, ra, rx, ry, r, f⟩ := h
  cases dx <;> cases dy <;> try exact r.elim
  exact ⟨_, _, rx, ry, r.1, f.here r.2 ra rfl⟩
theorem d_mod : OpR X (binaryOp .Mod) (lR2 c (rBin .mod)) := by
  refine OpR.imp op_mod fun x y H Q h => ?_
  obtain ⟨A, dx, dy, Qd, ra, rx, ry, r, f⟩ := h
  cases dx <;> cases dy <;> try exact r.elim
  exact ⟨_, _, rx, ry, r.1, f.here r.2 ra rfl⟩
theorem op_powW : OpR X (binaryOp .Pow) (rI CPowW fun i j => .int (i ^ j.toNat)) := opI fun i j _ _ _ _ _ hc q => by
  obtain ⟨h0, h1, h2⟩ := hc
  refine pow_int h0 ?_ q
  have b : Builtin.Int.intBits i ≤ 10000 := by
    unfold Builtin.Int.intBits
    split <;> omega
  have h3 : (Builtin.Int.intBits i : Int) * j ≤ 10000 * j := Int.mul_le_mul_of_nonneg_right (by omega) h0
  omega
theorem d_pow : OpR X (binaryOp .Pow) (lR2 c (rBin .pow)) := by
  refine OpR.imp op_powW fun x y H Q h => ?_
  obtain ⟨A, dx, dy, Qd, ra, rx, ry, r, f⟩ := h
  cases dx <;> cases dy <;> try exact r.elim
  exact ⟨_, _, rx, ry, r.1, f.here r.2 ra rfl⟩
def bopOp : BOp → Operator | .add => .Add | .sub => .Sub | .mul => .Mult | .fdiv => .FloorDiv | .mod => .Mod | .pow => .Pow
theorem d_bin (hK : X.K = c.K) : ∀ o : BOp, OpR X (binaryOp (bopOp o)) (lR2 c (rBin o))
  | .add => d_add hK | .sub => d_sub | .mul => d_mul | .fdiv => d_fdiv | .mod => d_mod | .pow => d_pow

/-! ### comparisons -/
theorem snaps_of {A : AH} {H : Hp} {n : Nat} (ih : ∀ (d : D) (v : V) (p : PyData), RelD c.K H d v → snap A n d = some p → Dp c.K H v p) : ∀ (ds : List D) (vs : List V) (ps : List PyData), RelDs c.K H ds vs → allSome (ds.map (snap A n)) = some ps → DpAll c.K H vs ps
  | [], _, _, r, e => by cases (show _ = [] from r); simp only [List.map_nil, allSome] at e; cases e; exact .nil
  | d :: ds, _, _, ⟨v, w, ev, h, r⟩, e => by
    subst ev
    rw [List.map_cons] at e
    cases q1 : snap A n d with
    | none => rw [q1] at e; simp only [allSome] at e; cases e
    | some p =>
      rw [q1] at e
      simp only [allSome] at e
      cases q2 : allSome (ds.map (snap A n)) with
      | none => rw [q2] at e; cases e
      | some ps =>
        rw [q2] at e
        cases e
        exact .cons (ih d v p h q1) (snaps_of ih ds w ps r q2)
theorem snap_ok {A : AH} {H : Hp} (ra : RelA c A H) : ∀ (n : Nat) (d : D) (v : V) (p : PyData), RelD c.K H d v → snap A n d = some p → Dp c.K H v p
  | _, .non, _, _, r, e => by simp only [snap] at e; cases e; cases r; exact .non
  | _, .bl _, _, _, r, e => by simp only [snap] at e; cases e; cases r; exact .bl _
  | _, .int _, _, _, r, e => by simp only [snap] at e; cases e; cases r; exact .int _
  | _, .str _, _, _, r, e => by simp only [snap] at e; cases e; cases r; exact .str _
  | 0, .tup _, _, _, r, e => by simp only [snap] at e; cases e
  | 0, .ref _, _, _, r, e => by simp only [snap] at e; cases e
  | n + 1, .tup ds, _, _, ⟨a, vs, ev, h, r⟩, e => by
    simp only [snap] at e
    subst ev
    cases q : allSome (ds.map (snap A n)) with
    | none => rw [q] at e; cases e
    | some ps =>
      rw [q] at e
      cases e
      exact .tup h.sqt (snaps_of (snap_ok ra n) ds vs ps r q)
  | 0, .fl _, _, _, r, e => by simp only [snap] at e; cases e
  | n + 1, .fl ds, _, _, ⟨a, vs, ev, h, r⟩, e => by
    simp only [snap] at e
    subst ev
    cases q : allSome (ds.map (snap A n)) with
    | none => rw [q] at e; cases e
    | some ps =>
      rw [q] at e
      cases e
      exact .lst h.sql (snaps_of (snap_ok ra n) ds vs ps r q)
  | n + 1, .ref a, _, _, r, e => by
    simp only [snap] at e
    cases r
    cases g : getL A a with
    | none => rw [g] at e; cases e
    | some ds =>
      rw [g] at e
      dsimp only at e
      cases q : allSome (ds.map (snap A n)) with
      | none => rw [q] at e; cases e
      | some ps =>
        rw [q] at e
        cases e
        obtain ⟨vs, h, r⟩ := getL_rel ra g
        exact .lst (Rd_sql h) (snaps_of (snap_ok ra n) ds vs ps r q)
theorem eqD_ok {A : AH} {H : Hp} {dx dy : D} {x y : V} {b : Bool} (ra : RelA c A H) (rx : RelD c.K H dx x) (ry : RelD c.K H dy y) (e : eqD A dx dy = some b) :
    (scal x y = true ∧ decide (x = y) = b) ∨ ∃ d e', Dp c.K H x d ∧ Dp c.K H y e' ∧ SeqAt.shaped d = true ∧ SeqAt.shaped e' = true ∧ PyData.eqv d e' = b := by
  unfold eqD at e
  split at e
  · cases rx
    cases ry
    cases e
    exact .inl ⟨rfl, by simp⟩
  · cases rx
    cases ry
    cases e
    exact .inl ⟨rfl, by simp⟩
  · split at e
    · rename_i p q hp hq
      split at e
      · rename_i hs
        cases e
        rw [Bool.and_eq_true] at hs
        exact .inr ⟨p, q, snap_ok ra _ _ _ _ rx hp, snap_ok ra _ _ _ _ ry hq, hs.1, hs.2, rfl⟩
      · cases e
    · cases e
theorem d_eq (hK : X.K = c.K) (hu : X.A.units + 64 < cLine) : OpR X (compareOp .Eq) (lR2 c (rCmp .eq)) := by
  refine OpR.imp (op_eq.or (op_eqD hu)) fun x y H Q h => ?_
  obtain ⟨A, dx, dy, Qd, ra, rx, ry, r, f⟩ := h
  unfold rCmp at r
  dsimp only at r
  split at r
  · rename_i b e
    rcases eqD_ok ra rx ry e with ⟨h1, h2⟩ | ⟨d, e', h1, h2, s1, s2, ev⟩
    · exact .inl ⟨h1, by rw [h2]; exact f.here r ra rfl⟩
    · rw [hK]
      exact .inr ⟨d, e', h1, h2, s1, s2, by rw [ev]; exact f.here r ra rfl⟩
  · exact r.elim
theorem d_ne (hK : X.K = c.K) (hu : X.A.units + 64 < cLine) : OpR X (compareOp .NotEq) (lR2 c (rCmp .ne)) := by
  refine OpR.imp (op_ne.or (op_neD hu)) fun x y H Q h => ?_
  obtain ⟨A, dx, dy, Qd, ra, rx, ry, r, f⟩ := h
  unfold rCmp at r
  dsimp only at r
  split at r
  · rename_i b e
    rcases eqD_ok ra rx ry e with ⟨h1, h2⟩ | ⟨d, e', h1, h2, s1, s2, ev⟩
    · exact .inl ⟨h1, by rw [h2]; exact f.here r ra rfl⟩
    · rw [hK]
      exact .inr ⟨d, e', h1, h2, s1, s2, by rw [ev]; exact f.here r ra rfl⟩
  · exact r.elim
theorem d_lt : OpR X (compareOp .Lt) (lR2 c (rCmp .lt)) := by
  refine OpR.imp op_lt fun x y H Q h => ?_
  obtain ⟨A, dx, dy, Qd, ra, rx, ry, r, f⟩ := h
  cases dx <;> cases dy <;> try exact r.elim
  exact ⟨_, _, rx, ry, f.here r ra rfl⟩
theorem d_le : OpR X (compareOp .LtE) (lR2 c (rCmp .le)) := by
  refine OpR.imp op_le fun x y H Q h => ?_
  obtain ⟨A, dx, dy, Qd, ra, rx, ry, r, f⟩ := h
  cases dx <;> cases dy <;> try exact r.elim
  exact ⟨_, _, rx, ry, f.here r ra rfl⟩
theorem d_gt : OpR X (compareOp .Gt) (lR2 c (rCmp .gt)) := by
  refine OpR.imp op_gt fun x y H Q h => ?_
  obtain ⟨A, dx, dy, Qd, ra, rx, ry, r, f⟩ := h
  cases dx <;> cases dy <;> try exact r.elim
  exact ⟨_, _, rx, ry, f.here r ra rfl⟩
theorem d_ge : OpR X (compareOp .GtE) (lR2 c (rCmp .ge)) := by
  refine OpR.imp op_ge fun x y H Q h => ?_
  obtain ⟨A, dx, dy, Qd, ra, rx, ry, r, f⟩ := h
  cases dx <;> cases dy <;> try exact r.elim
  exact ⟨_, _, rx, ry, f.here r ra rfl⟩
theorem non_iff {K : PySem.W.Frag} {H : Hp} {d : D} {x : V} (r : RelD K H d x) : decide (x = V.non) = (match d with | .non => true | _ => false) := by
  cases d with
  | tup ds => obtain ⟨a, vs, e, _⟩ := r; subst e; simp
  | fl ds => obtain ⟨a, vs, e, _⟩ := r; subst e; simp
  | _ => cases r; simp
theorem d_is : OpR X (compareOp .Is) (lR2 c (rCmp .is_)) := by
  refine OpR.imp op_isN fun x y H Q h => ?_
  obtain ⟨A, dx, dy, Qd, ra, rx, ry, r, f⟩ := h
  cases dy <;> try exact r.elim
  refine ⟨ry, ?_⟩
  rw [non_iff rx]
  refine f.here r ra ?_
  cases dx <;> rfl
theorem d_isn : OpR X (compareOp .IsNot) (lR2 c (rCmp .isn)) := by
  refine OpR.imp op_notN fun x y H Q h => ?_
  obtain ⟨A, dx, dy, Qd, ra, rx, ry, r, f⟩ := h
  cases dy <;> try exact r.elim
  refine ⟨ry, ?_⟩
  rw [non_iff rx]
  refine f.here r ra ?_
  cases dx <;> rfl
theorem flat_ok {K : PySem.W.Frag} {H : Hp} {d : D} {x : V} (r : RelD K H d x) (h : flatD d = true) : flatV x = true := by
  cases d <;> first | (cases r; rfl) | cases h
theorem flats_ok {K : PySem.W.Frag} {H : Hp} : ∀ {ds : List D} {xs : List V}, RelDs K H ds xs → ds.all flatD = true → xs.all flatV = true
  | [], _, r, _ => by cases (show _ = [] from r); rfl
  | d :: ds, _, ⟨v, w, e, h, r⟩, q => by
    subst e
    rw [List.all_cons, Bool.and_eq_true] at q ⊢
    exact ⟨flat_ok h q.1, flats_ok r q.2⟩
theorem eqF_ok {K : PySem.W.Frag} {H : Hp} {d e : D} {x y : V} (r : RelD K H d x) (q : RelD K H e y) (h : flatD d = true) (h2 : flatD e = true) : eqV x y = eqF d e := by
  cases d <;> first | (cases h; done) | (cases r; cases e <;> first | (cases h2; done) | (cases q; rfl))
theorem inF_ok {K : PySem.W.Frag} {H : Hp} {d : D} {x : V} (r : RelD K H d x) (h : flatD d = true) : ∀ {ds : List D} {xs : List V}, RelDs K H ds xs → ds.all flatD = true → inV x xs = inF d ds
  | [], _, q, _ => by cases (show _ = [] from q); rfl
  | e :: ds, _, ⟨v, w, ev, h1, q⟩, a => by
    subst ev
    rw [List.all_cons, Bool.and_eq_true] at a
    have ih := inF_ok r h q a.2
    unfold inV inF at *
    rw [List.any_cons, List.any_cons, ih, eqF_ok h1 r a.1 h]
theorem seq_ok {A : AH} {H : Hp} {d : D} {x : V} {ds : List D} (ra : RelA c A H) (r : RelD c.K H d x) (e : seqD A d = some ds) : ∃ p vs, x = .ref p ∧ (SqL c.K H p vs ∨ SqT c.K H p vs) ∧ RelDs c.K H ds vs := by
  cases d <;> first | (simp only [seqD] at e; cases e; done) | skip
  · simp only [seqD] at e
    cases e
    obtain ⟨a, vs, e, h, q⟩ := r
    exact ⟨a, vs, e, .inr h.sqt, q⟩
  · simp only [seqD] at e
    obtain ⟨vs, h, q⟩ := getL_rel ra e
    exact ⟨_, vs, r, .inl (Rd_sql h), q⟩
  · simp only [seqD] at e
    cases e
    obtain ⟨a, vs, e, h, q⟩ := r
    exact ⟨a, vs, e, .inl h.sql, q⟩
theorem d_in (hK : X.K = c.K) : OpR X (compareOp .In) (lR2 c (rCmp .in_)) := by
  refine OpR.imp op_in_seq fun x y H Q h => ?_
  obtain ⟨A, dx, dy, Qd, ra, rx, ry, r, f⟩ := h
  unfold rCmp at r
  dsimp only at r
  split at r
  · rename_i ds e
    obtain ⟨p, vs, e1, h, q⟩ := seq_ok ra ry e
    rw [hK]
    refine ⟨p, vs, e1, h, flat_ok rx r.1, flats_ok q r.2.1, ?_⟩
    rw [inF_ok rx r.1 q r.2.1]
    exact f.here r.2.2 ra rfl
  · exact r.elim
theorem d_nin (hK : X.K = c.K) : OpR X (compareOp .NotIn) (lR2 c (rCmp .nin)) := by
  refine OpR.imp op_notIn_seq fun x y H Q h => ?_
  obtain ⟨A, dx, dy, Qd, ra, rx, ry, r, f⟩ := h
  unfold rCmp at r
  dsimp only at r
  split at r
  · rename_i ds e
    obtain ⟨p, vs, e1, h, q⟩ := seq_ok ra ry e
    rw [hK]
    refine ⟨p, vs, e1, h, flat_ok rx r.1, flats_ok q r.2.1, ?_⟩
    rw [inF_ok rx r.1 q r.2.1]
    exact f.here r.2.2 ra rfl
  · exact r.elim
def copOp : COp → CmpOp | .eq => .Eq | .ne => .NotEq | .lt => .Lt | .le => .LtE | .gt => .Gt | .ge => .GtE | .is_ => .Is | .isn => .IsNot | .in_ => .In | .nin => .NotIn
theorem d_cmp (hK : X.K = c.K) (hu : X.A.units + 64 < cLine) : ∀ o : COp, OpR X (compareOp (copOp o)) (lR2 c (rCmp o))
  | .eq => d_eq hK hu | .ne => d_ne hK hu | .lt => d_lt | .le => d_le | .gt => d_gt | .ge => d_ge | .is_ => d_is | .isn => d_isn | .in_ => d_in hK | .nin => d_nin hK
end
end Py

namespace Py
open PySem PySem.Spec PyProof.Rows L2
section
variable {c : RC} {X : Cx}
/-- a slice of a tuple -/
def rSlN (K : PySem.W.Frag) : V → Option Int → Option Int → Hp → VK → Prop := fun x lo hi H Q => ∃ a xs, x = .ref a ∧ SqT K H a xs ∧
  (HT.sIx xs.length 0 lo = 0 ∧ HT.sIx xs.length xs.length hi = xs.length → Q (.ref a) H) ∧ (¬ (HT.sIx xs.length 0 lo = 0 ∧ HT.sIx xs.length xs.length hi = xs.length) → newT (cutV xs lo hi) H Q)
theorem sl_tupN : SlR X (rSlN X.K) := by
  intro pins s σ H x v vl vu lo hi sl Q I rx hs pl pu h
  obtain ⟨a, xs, rfl, hx, q1, q2⟩ := h
  cases rx
  obtain ⟨its, r, ht, hz⟩ := I.tuple hx
  have hlen : its.toArray.size = xs.length := by rw [List.size_toArray]; exact r.length.symm
  refine ⟨"tuple", _, PyProof.Rows.slot_tuple_getitem.lookup, ht.typeIs, ?_⟩
  by_cases hw : HT.sIx xs.length 0 lo = 0 ∧ HT.sIx xs.length xs.length hi = xs.length
  · exact getItem_tuple_whole ht hs pl pu (by rw [hlen]; exact hw) ⟨.ref a, H, I, rfl, q1 hw⟩
  · refine HT.getItem_tuple_cut ht hs pl pu (by rw [hlen]; exact hw) ?_ (by rw [hlen]; exact hz)
    rw [hlen]
    exact laidT (h := s.heap) (t := s.toks) I ((r.drop (HT.sIx xs.length 0 lo)).take (HT.sIx xs.length xs.length hi - HT.sIx xs.length 0 lo)) (Nat.le_trans (cutV_length xs lo hi) hz) (q2 hw)
theorem call_tupleN : CallR X (.type "tuple") (fun xs H Q => ∃ p ys, xs = [.ref p] ∧ ((SqL X.K H p ys ∧ newT ys H Q) ∨ (SqT X.K H p ys ∧ Q (.ref p) H))) := by
  intro pins s σ H xs us Q I r h
  obtain ⟨p, ys, rfl, h⟩ := h
  obtain ⟨u, rfl, rx⟩ := vals1 r
  cases rx
  rcases h with ⟨hq, q⟩ | ⟨hq, q⟩
  · obtain ⟨its, r', pl, hz⟩ := I.list hq
    have hlen := r'.length
    refine call_tuple_list pl.isList (fun h' kp => ?_) (by simp only [List.size_toArray] <;> omega)
    exact laidT (h := h') (t := s.toks) (I.kept kp) r' hz q
  · obtain ⟨its, r', pl, hz⟩ := I.tuple hq
    exact call_tuple_same pl ⟨.ref p, H, I, rfl, q⟩
theorem atI_ok {K : PySem.W.Frag} {H : Hp} {ds : List D} {vs : List V} {k : Int} {d : D} (r : RelDs K H ds vs) (h : atI ds k = some d) : ∃ v, atI vs k = some v ∧ RelD K H d v := by
  unfold atI at *
  rw [r.length]
  cases e : ixN ds.length k with
  | none => rw [e] at h; cases h
  | some j =>
    rw [e] at h
    exact r.get h
theorem d_idx (hK : X.K = c.K) : IxR X (lR2 c rIdx) := by
  refine IxR.imp ix_seq fun x y H Q h => ?_
  obtain ⟨A, dx, dy, Qd, ra, rx, ry, r, f⟩ := h
  unfold rIdx at r
  split at r
  · cases ry
    split at r
    · rename_i ds e
      split at r
      · rename_i d e2
        obtain ⟨p, vs, e1, h, q⟩ := seq_ok ra rx e
        obtain ⟨v, hv, rv⟩ := atI_ok q e2
        rcases h with h | h
        · exact .inl ⟨p, vs, _, v, e1, rfl, by rw [hK]; exact h, hv, f.here r ra rv⟩
        · exact .inr (.inl ⟨p, vs, _, v, e1, rfl, by rw [hK]; exact h, hv, f.here r ra rv⟩)
      · exact r.elim
    · exact r.elim
  · exact r.elim
def lRsl (c : RC) (r : D → Option Int → Option Int → AH → Dk → Prop) : V → Option Int → Option Int → Hp → VK → Prop := fun x lo hi H Q => ∃ A dx Qd, RelA c A H ∧ RelD c.K H dx x ∧ r dx lo hi A Qd ∧ Fol c H Q Qd
theorem cut_ok {K : PySem.W.Frag} {H : Hp} {ds : List D} {vs : List V} {lo hi : Option Int} (r : RelDs K H ds vs) : RelDs K H (cutD ds lo hi) (cutV vs lo hi) := by
  unfold cutD cutV
  rw [r.length]
  exact (r.drop _).take _
theorem d_slc (hK : X.K = c.K) : SlR X (lRsl c rSlc) := by
  refine SlR.imp (SlR.or sl_list sl_tupN) fun x lo hi H Q h => ?_
  obtain ⟨A, dx, Qd, ra, rx, r, f⟩ := h
  unfold rSlc at r
  split at r
  · rename_i ds
    obtain ⟨a, vs, e, h, q⟩ := rx
    refine .inr ⟨a, vs, e, by rw [hK]; exact h.sqt, fun hw => ?_, fun hw => f.tup r ra (cut_ok q)⟩
    have e2 : cutD ds lo hi = ds := by
      unfold cutD
      rw [q.length] at hw
      rw [hw.1, hw.2]
      simp
    refine f.here r ra ?_
    rw [e2]
    exact ⟨a, vs, rfl, h, q⟩
  · obtain ⟨a, vs, rfl, h, q⟩ := rx
    exact .inl ⟨a, vs, rfl, by rw [hK]; exact h.sql, f.lst r ra (cut_ok q)⟩
  · split at r
    · rename_i e
      obtain ⟨vs, h, q⟩ := getL_rel ra e
      exact .inl ⟨_, vs, rx, .inl h, f.lst r ra (cut_ok q)⟩
    · exact r.elim
  · exact r.elim
/-! ### built-in calls -/
theorem ints_ok {K : PySem.W.Frag} {H : Hp} : ∀ {ds : List D} {vs : List V} {ns : List Int}, RelDs K H ds vs → intsD ds = some ns → vs = ns.map V.int
  | [], _, _, r, e => by cases (show _ = [] from r); cases e; rfl
  | d :: ds, _, ns, ⟨v, w, ev, h, r⟩, e => by
    subst ev
    cases d <;> try (simp only [intsD] at e; cases e; done)
    rename_i i
    simp only [intsD] at e
    cases q : intsD ds with
    | none => rw [q] at e; cases e
    | some ms =>
      rw [q] at e
      cases e
      cases h
      rw [ints_ok r q]
      rfl
theorem bools_ok {K : PySem.W.Frag} {H : Hp} : ∀ {ds : List D} {vs : List V} {ns : List Bool}, RelDs K H ds vs → boolsD ds = some ns → vs = ns.map V.bl
  | [], _, _, r, e => by cases (show _ = [] from r); cases e; rfl
  | d :: ds, _, ns, ⟨v, w, ev, h, r⟩, e => by
    subst ev
    cases d <;> try (simp only [boolsD] at e; cases e; done)
    rename_i i
    simp only [boolsD] at e
    cases q : boolsD ds with
    | none => rw [q] at e; cases e
    | some ms =>
      rw [q] at e
      cases e
      cases h
      rw [bools_ok r q]
      rfl
theorem RelKv.length {K : PySem.W.Frag} {H : Hp} : ∀ {ds : List (D × D)} {vs : List (Key × V)}, RelKv K H ds vs → vs.length = ds.length
  | [], _, h => by cases (show _ = [] from h); rfl
  | _ :: ds, _, ⟨k, v, t, e, _, _, r⟩ => by subst e; simp [RelKv.length r]
theorem getM_rel {A : AH} {H : Hp} {a : Addr} {ds : List (D × D)} (r : RelA c A H) (h : getM A a = some ds) : ∃ vs, Rd H a (.dK vs) ∧ RelKv c.K H ds vs := by
  unfold getM at h
  split at h
  · rename_i e
    cases h
    obtain ⟨vs, q, t⟩ := r a _ e
    exact ⟨vs, .inl q, t⟩
  · rename_i e
    cases h
    exact r a _ e
  · cases h
theorem CallR.or {f : Value} {r r' : List V → Hp → VK → Prop} (h : CallR X f r) (h' : CallR X f r') : CallR X f (fun x H Q => r x H Q ∨ r' x H Q) := by
  intro pins s σ H xs us Q I r q
  rcases q with q | q
  · exact h pins s σ H xs us Q I r q
  · exact h' pins s σ H xs us Q I r q
theorem RelDs.nil_of {K : PySem.W.Frag} {H : Hp} {vs : List V} (r : RelDs K H [] vs) : vs = [] := r
theorem RelDs.one_of {K : PySem.W.Frag} {H : Hp} {d : D} {vs : List V} (r : RelDs K H [d] vs) : ∃ v, vs = [v] ∧ RelD K H d v := by
  obtain ⟨v, w, e, h, q⟩ := r
  cases q.nil_of
  exact ⟨v, e, h⟩
theorem RelDs.two_of {K : PySem.W.Frag} {H : Hp} {d e : D} {vs : List V} (r : RelDs K H [d, e] vs) : ∃ v w, vs = [v, w] ∧ RelD K H d v ∧ RelD K H e w := by
  obtain ⟨v, w, e, h, q⟩ := r
  obtain ⟨u, e2, h2⟩ := q.one_of
  subst e2
  exact ⟨v, u, e, h, h2⟩
theorem b_len (hK : X.K = c.K) : CallR X (.builtin "len") (lRs c (rB .len)) := by
  refine CallR.imp (call_len.or call_lenD) fun xs H Q h => ?_
  obtain ⟨A, ds, Qd, ra, rx, r, f⟩ := h
  rcases ds with _ | ⟨d, _ | ⟨e, _⟩⟩
  · exact r.elim
  · obtain ⟨v, rfl, rv⟩ := rx.one_of
    cases d <;> try exact r.elim
    · cases rv
      exact .inl ⟨_, _, rfl, ⟨r.1, rfl⟩, f.here r.2 ra rfl⟩
    · obtain ⟨a, vs, rfl, h, q⟩ := rv
      exact .inl ⟨_, _, rfl, .inr ⟨vs, by rw [hK]; exact h.sqt, rfl⟩, f.here r ra (by rw [q.length]; rfl)⟩
    · cases rv
      simp only [rB] at r
      split at r
      · rename_i e
        obtain ⟨vs, h, q⟩ := getL_rel ra e
        exact .inl ⟨_, _, rfl, .inl ⟨vs, .inl h, rfl⟩, f.here r ra (by rw [q.length]; rfl)⟩
      · split at r
        · rename_i e
          obtain ⟨vs, h, q⟩ := ra _ _ e
          exact .inr ⟨_, _, rfl, h, f.here r ra (by rw [RelKv.length q]; rfl)⟩
        · exact r.elim
    · obtain ⟨a, vs, rfl, h, q⟩ := rv
      exact .inl ⟨_, _, rfl, .inl ⟨vs, by rw [hK]; exact h.sql, rfl⟩, f.here r ra (by rw [q.length]; rfl)⟩
  · cases d <;> exact r.elim
theorem b_int : CallR X (.type "int") (lRs c (rB .int)) := by
  refine CallR.imp call_int1 fun xs H Q h => ?_
  obtain ⟨A, ds, Qd, ra, rx, r, f⟩ := h
  rcases ds with _ | ⟨d, _ | ⟨e, _⟩⟩
  · exact r.elim
  · obtain ⟨v, rfl, rv⟩ := rx.one_of
    cases d <;> try exact r.elim
    · cases rv
      exact .inr ⟨_, rfl, f.here r ra rfl⟩
    · cases rv
      exact .inl ⟨_, rfl, f.here r ra rfl⟩
  · cases d <;> exact r.elim
theorem b_str : CallR X (.type "str") (lRs c (rB .str)) := by
  refine CallR.imp call_str_int fun xs H Q h => ?_
  obtain ⟨A, ds, Qd, ra, rx, r, f⟩ := h
  rcases ds with _ | ⟨d, _ | ⟨e, _⟩⟩
  · exact r.elim
  · obtain ⟨v, rfl, rv⟩ := rx.one_of
    cases d <;> try exact r.elim
    cases rv
    exact ⟨_, rfl, r.1, f.here r.2 ra rfl⟩
  · cases d <;> exact r.elim
theorem b_repr : CallR X (.builtin "repr") (lRs c (rB .repr)) := by
  refine CallR.imp SkE.call_repr_int fun xs H Q h => ?_
  obtain ⟨A, ds, Qd, ra, rx, r, f⟩ := h
  rcases ds with _ | ⟨d, _ | ⟨e, _⟩⟩
  · exact r.elim
  · obtain ⟨v, rfl, rv⟩ := rx.one_of
    cases d <;> try exact r.elim
    cases rv
    exact ⟨_, rfl, r.1, f.here r.2 ra rfl⟩
  · cases d <;> exact r.elim
theorem b_max (hc : X.calm = true) : CallR X (.builtin "max") (lRs c (rB .max)) := by
  refine CallR.imp (call_max2 hc) fun xs H Q h => ?_
  obtain ⟨A, ds, Qd, ra, rx, r, f⟩ := h
  rcases ds with _ | ⟨d, _ | ⟨e, _ | _⟩⟩
  · exact r.elim
  · cases d <;> exact r.elim
  · obtain ⟨v, w, rfl, rv, rw'⟩ := rx.two_of
    cases d <;> cases e <;> try exact r.elim
    cases rv
    cases rw'
    exact ⟨_, _, rfl, f.here r ra rfl⟩
  · cases d <;> cases e <;> exact r.elim
theorem b_min (hc : X.calm = true) : CallR X (.builtin "min") (lRs c (rB .min)) := by
  refine CallR.imp (call_min2 hc) fun xs H Q h => ?_
  obtain ⟨A, ds, Qd, ra, rx, r, f⟩ := h
  rcases ds with _ | ⟨d, _ | ⟨e, _ | _⟩⟩
  · exact r.elim
  · cases d <;> exact r.elim
  · obtain ⟨v, w, rfl, rv, rw'⟩ := rx.two_of
    cases d <;> cases e <;> try exact r.elim
    cases rv
    cases rw'
    exact ⟨_, _, rfl, f.here r ra rfl⟩
  · cases d <;> cases e <;> exact r.elim
theorem getL_ints {A : AH} {H : Hp} {a : Addr} {ns : List Int} (ra : RelA c A H) (h : (getL A a).bind intsD = some ns) : SqL c.K H a (ns.map V.int) := by
  cases e : getL A a with
  | none => rw [e] at h; cases h
  | some ds =>
    rw [e] at h
    obtain ⟨vs, h1, q⟩ := getL_rel ra e
    cases ints_ok q h
    exact .inl h1
theorem getL_bools {A : AH} {H : Hp} {a : Addr} {ns : List Bool} (ra : RelA c A H) (h : (getL A a).bind boolsD = some ns) : SqL c.K H a (ns.map V.bl) := by
  cases e : getL A a with
  | none => rw [e] at h; cases h
  | some ds =>
    rw [e] at h
    obtain ⟨vs, h1, q⟩ := getL_rel ra e
    cases bools_ok q h
    exact .inl h1
theorem b_all (hc : X.calm = true) (hK : X.K = c.K) : CallR X (.builtin "all") (lRs c (rB .all)) := by
  refine CallR.imp (cr_all hc) fun xs H Q h => ?_
  obtain ⟨A, ds, Qd, ra, rx, r, f⟩ := h
  rcases ds with _ | ⟨d, _ | ⟨e, _⟩⟩
  · exact r.elim
  · obtain ⟨v, rfl, rv⟩ := rx.one_of
    cases d <;> try exact r.elim
    cases rv
    simp only [rB] at r
    split at r
    · rename_i bs e
      exact ⟨_, bs, rfl, by rw [hK]; exact getL_bools ra e, f.here r ra rfl⟩
    · exact r.elim
  · cases d <;> exact r.elim
theorem b_any (hc : X.calm = true) (hK : X.K = c.K) : CallR X (.builtin "any") (lRs c (rB .any)) := by
  refine CallR.imp (cr_any hc) fun xs H Q h => ?_
  obtain ⟨A, ds, Qd, ra, rx, r, f⟩ := h
  rcases ds with _ | ⟨d, _ | ⟨e, _⟩⟩
  · exact r.elim
  · obtain ⟨v, rfl, rv⟩ := rx.one_of
    cases d <;> try exact r.elim
    cases rv
    simp only [rB] at r
    split at r
    · rename_i bs e
      exact ⟨_, bs, rfl, by rw [hK]; exact getL_bools ra e, f.here r ra rfl⟩
    · exact r.elim
  · cases d <;> exact r.elim
theorem b_sum (hc : X.calm = true) (hK : X.K = c.K) : CallR X (.builtin "sum") (lRs c (rB .sum)) := by
  refine CallR.imp (cr_sum hc) fun xs H Q h => ?_
  obtain ⟨A, ds, Qd, ra, rx, r, f⟩ := h
  rcases ds with _ | ⟨d, _ | ⟨e, _⟩⟩
  · exact r.elim
  · obtain ⟨v, rfl, rv⟩ := rx.one_of
    cases d <;> try exact r.elim
    cases rv
    simp only [rB] at r
    split at r
    · rename_i ns e
      exact ⟨_, ns, rfl, by rw [hK]; exact getL_ints ra e, f.here r ra rfl⟩
    · exact r.elim
  · cases d <;> exact r.elim
theorem b_tuple (hK : X.K = c.K) : CallR X (.type "tuple") (lRs c (rB .tuple)) := by
  refine CallR.imp call_tupleN fun xs H Q h => ?_
  obtain ⟨A, ds, Qd, ra, rx, r, f⟩ := h
  rcases ds with _ | ⟨d, _ | ⟨e, _⟩⟩
  · exact r.elim
  · obtain ⟨v, rfl, rv⟩ := rx.one_of
    cases d <;> try exact r.elim
    · obtain ⟨a, vs, rfl, h, q⟩ := rv
      exact ⟨a, vs, rfl, .inr ⟨by rw [hK]; exact h.sqt, f.here r ra ⟨a, vs, rfl, h, q⟩⟩⟩
    · cases rv
      simp only [rB] at r
      split at r
      · rename_i e
        obtain ⟨vs, h, q⟩ := getL_rel ra e
        exact ⟨_, vs, rfl, .inl ⟨.inl h, f.tup r ra q⟩⟩
      · exact r.elim
  · cases d <;> exact r.elim
theorem b_list (hK : X.K = c.K) : CallR X (.type "list") (lRs c (rB .list)) := by
  refine CallR.imp call_list_of fun xs H Q h => ?_
  obtain ⟨A, ds, Qd, ra, rx, r, f⟩ := h
  rcases ds with _ | ⟨d, _ | ⟨e, _⟩⟩
  · exact r.elim
  · obtain ⟨v, rfl, rv⟩ := rx.one_of
    cases d <;> try exact r.elim
    · obtain ⟨a, vs, rfl, h, q⟩ := rv
      exact ⟨a, vs, rfl, .inr (by rw [hK]; exact h.sqt), f.lst r ra q⟩
    · cases rv
      simp only [rB] at r
      split at r
      · rename_i e
        obtain ⟨vs, h, q⟩ := getL_rel ra e
        exact ⟨_, vs, rfl, .inl (.inl h), f.lst r ra q⟩
      · exact r.elim
  · cases d <;> exact r.elim

/-! ### methods -/
theorem MtR.or {f : String} {r r' : V → List V → Hp → VK → Prop} (h : MtR X f r) (h' : MtR X f r') : MtR X f (fun o x H Q => r o x H Q ∨ r' o x H Q) := by
  intro pins s σ H o xs ov us Q I ro rx q
  rcases q with q | q
  · exact h pins s σ H o xs ov us Q I ro rx q
  · exact h' pins s σ H o xs ov us Q I ro rx q
theorem Mono.lst {H : Hp} {a : Addr} {vs : List V} {o : HO} (h : H a = some (.lst vs)) : Mono H (L2.upd H a o) := Mono.at h fun _ _ z => nomatch z
theorem Fol.wr {H : Hp} {Q : VK} {Qd : Dk} {A : AH} {d : D} {v : V} {a : Addr} {ds : List D} {vs ws : List V} (f : Fol c H Q Qd) (q : Qd d (put A a (.lst ds))) (ra : RelA c A H) (h : H a = some (.lst ws)) (rd : RelD c.K H d v) (r : RelDs c.K H ds vs) : Q v (upd H a (.lst vs)) :=
  have m := Mono.lst (o := .lst vs) h
  f d _ v _ q m (ra.put m ⟨vs, upd_same, r.mono m⟩) (RelD.mono m _ _ rd)
def lRl (c : RC) (r : Addr → List D → List D → AH → Dk → Prop) : V → List V → Hp → VK → Prop := fun x xs H Q => ∃ A a es ds Qd, RelA c A H ∧ x = .ref a ∧ A a = some (.lst es) ∧ RelDs c.K H ds xs ∧ r a es ds A Qd ∧ Fol c H Q Qd
def lRt (c : RC) (r : List D → List D → AH → Dk → Prop) : V → List V → Hp → VK → Prop := fun x xs H Q => ∃ A es ds Qd, RelA c A H ∧ RelD c.K H (.tup es) x ∧ RelDs c.K H ds xs ∧ r es ds A Qd ∧ Fol c H Q Qd
theorem m_append : MtR X "list.append" (lRl c (rML .append)) := by
  refine MtR.imp mt_append fun o xs H Q h => ?_
  obtain ⟨A, a, es, ds, Qd, ra, rfl, e, rx, r, f⟩ := h
  obtain ⟨vs, h, q⟩ := ra _ _ e
  rcases ds with _ | ⟨d, _ | ⟨e, _⟩⟩ <;> try exact r.elim
  obtain ⟨v, rfl, rv⟩ := rx.one_of
  exact ⟨_, vs, v, rfl, rfl, h, by rw [q.length]; exact r.1, f.wr (d := .non) r.2 ra h rfl (q.app (.one rv))⟩
theorem dropLast_ok {K : PySem.W.Frag} {H : Hp} {ds : List D} {vs : List V} (r : RelDs K H ds vs) : RelDs K H ds.dropLast vs.dropLast := by
  rw [List.dropLast_eq_take, List.dropLast_eq_take, r.length]
  exact r.take _
theorem m_pop : MtR X "list.pop" (lRl c (rML .pop)) := by
  refine MtR.imp (MtR.or mt_pop mt_popAt) fun o xs H Q h => ?_
  obtain ⟨A, a, es, ds, Qd, ra, rfl, e, rx, r, f⟩ := h
  obtain ⟨vs, h, q⟩ := ra _ _ e
  rcases ds with _ | ⟨d, _ | ⟨e, _⟩⟩
  · cases rx.nil_of
    simp only [rML] at r
    split at r
    · rename_i d e2
      obtain ⟨v, hv, rv⟩ := q.get e2
      exact .inl ⟨_, vs, v, rfl, rfl, h, by rw [q.length]; exact hv, f.wr r ra h rv (dropLast_ok q)⟩
    · exact r.elim
  · obtain ⟨v, rfl, rv⟩ := rx.one_of
    cases d <;> try exact r.elim
    cases rv
    rename_i i
    simp only [rML] at r
    obtain ⟨h0, h1, r⟩ := r
    split at r
    · rename_i d e2
      obtain ⟨v, hv, rv⟩ := q.get e2
      have hl : i.toNat < vs.length := (List.getElem?_eq_some_iff.mp hv).1
      exact .inr ⟨_, vs, i, i.toNat, v, rfl, rfl, h, by omega, by omega, PySem.StrLaws.seqIndex_nonneg h0 (by omega), hv, f.wr r ra h rv (q.erase _)⟩
    · exact r.elim
  · cases d <;> exact r.elim
/-- xs.extend(t), t a tuple locked as its object -/
theorem mt_extendT : MtR X "list.extend" (fun x vs H Q => ∃ l b xs zs o, x = .ref l ∧ vs = [.ref b] ∧ H l = some (.lst xs) ∧ ((H b = some (.frz o (.tup zs)) ∧ o.dict = none ∧ o.slots = #[]) ∨ ∃ (its : Array Value) (n : Nat), X.K.lookup b = some o ∧ o.cls = .type "tuple" ∧ (o.dict = none ∧ o.slots = #[]) ∧ o.data = .seq its n ∧ its.size ≤ sizeLine ∧ Vals zs its.toList) ∧ xs.length + zs.length ≤ sizeLine ∧ Q .non (upd H l (.lst (xs ++ zs)))) := by
  intro pins s σ H x vs v us Q I rx rv h
  obtain ⟨l, b, xs, zs, o, rfl, rfl, hH, hB, hz, q⟩ := h
  cases rx
  obtain ⟨u, rfl, ru⟩ := vals1 rv
  cases ru
  obtain ⟨z, its, n, r, hl, e⟩ := I.lstM hH
  obtain ⟨its2, n2, r2, e2⟩ : ∃ (its2 : List Value) (n2 : Nat), Vals zs its2 ∧ s.heap.get? b = some { cls := .type "tuple", dict := none, data := .seq its2.toArray n2, slots := #[] } := by
    rcases hB with ⟨hB, d1, d2⟩ | ⟨ar, n2, k1, k2, ⟨d1, d2⟩, k3, k4, k5⟩
    · obtain ⟨g1, g2, its2, r2, o', g3, g4, n2, g5⟩ := I.hok b _ hB
      rw [g1] at g3
      cases g3
      refine ⟨its2, n2, r2, ?_⟩
      rw [g1]
      obtain ⟨c1, c2, c3, c4⟩ := o
      subst d1 d2 g4 g5
      rfl
    · refine ⟨ar.toList, n2, k5, ?_⟩
      rw [I.kIn b o k1]
      obtain ⟨c1, c2, c3, c4⟩ := o
      subst d1 d2 k2 k3
      simp
  have hl1 := r.length
  have hl2 := r2.length
  have hsz : its.toArray.size + its2.toArray.size ≤ sizeLine := by rw [List.size_toArray, List.size_toArray]; omega
  have hlong : ¬ (!its.toArray.isEmpty && Builtin.List.listTooLong (its.toArray.size + its2.toArray.size)) = true := by
    rw [notLongL hsz, Bool.and_false]
    exact Bool.false_ne_true
  refine call_meets F.slot_list_extend ⟨_, e, rfl⟩ F.entry_list_extend (F.args_list_extend_2 _ _)
    (AutoSeq1.list_extend_list_tuple_0 l its.toArray n b its2.toArray n2 hlong (by rw [List.size_toArray]; omega) (by omega)) ⟨e, e2, ?_⟩
  refine ⟨.non, _, I.lset (its' := its ++ its2) hH e (by simp) (r.append r2) ?_, rfl, q⟩
  rw [List.length_append]
  omega
theorem m_extend (hK : X.K = c.K) : MtR X "list.extend" (lRl c (rML .extend)) := by
  refine MtR.imp (MtR.or mt_extend mt_extendT) fun o xs H Q h => ?_
  obtain ⟨A, a, es, ds, Qd, ra, rfl, e, rx, r, f⟩ := h
  obtain ⟨vs, h, q⟩ := ra _ _ e
  rcases ds with _ | ⟨d, _ | ⟨e, _⟩⟩ <;> try exact r.elim
  · obtain ⟨v, rfl, rv⟩ := rx.one_of
    cases d <;> try exact r.elim
    · obtain ⟨b, ws, rfl, h2, q2⟩ := rv
      rcases h2 with ⟨ob, h2⟩ | ⟨ob, h2⟩
      · exact .inr ⟨a, b, vs, ws, ob, rfl, rfl, h, .inl h2, by rw [q.length, q2.length]; exact r.1, f.wr (d := .non) r.2 ra h rfl (q.app q2)⟩
      · exact .inr ⟨a, b, vs, ws, ob, rfl, rfl, h, .inr (by rw [hK]; exact h2), by rw [q.length, q2.length]; exact r.1, f.wr (d := .non) r.2 ra h rfl (q.app q2)⟩
    · cases rv
      simp only [rML] at r
      split at r
      · rename_i e2
        obtain ⟨ws, h2, q2⟩ := ra _ _ e2
        exact .inl ⟨_, _, vs, ws, rfl, rfl, h, h2, by rw [q.length, q2.length]; exact r.1, f.wr (d := .non) r.2 ra h rfl (q.app q2)⟩
      · exact r.elim
  · cases d <;> exact r.elim
theorem m_insert : MtR X "list.insert" (lRl c (rML .insert)) := by
  refine MtR.imp mt_insert fun o xs H Q h => ?_
  obtain ⟨A, a, es, ds, Qd, ra, rfl, e, rx, r, f⟩ := h
  obtain ⟨vs, h, q⟩ := ra _ _ e
  rcases ds with _ | ⟨d, _ | ⟨e, _ | _⟩⟩ <;> try exact r.elim
  · cases d <;> exact r.elim
  · obtain ⟨v, w, rfl, rv, rw'⟩ := rx.two_of
    cases d <;> try exact r.elim
    cases rv
    exact ⟨_, vs, _, w, rfl, rfl, h, by rw [q.length]; exact r.1, r.2.1, by have := r.2.2.1; omega, f.wr (d := .non) r.2.2.2 ra h rfl (((q.take _).app (.one rw')).app (q.drop _))⟩
  · cases d <;> exact r.elim
theorem m_index (hK : X.K = c.K) : MtR X "list.index" (lRl c (rML .index)) := by
  intro pins s σ H x xs v us Q I rx rxs h
  obtain ⟨A, a, es, ds, Qd, ra, rfl, e, rd, r, f⟩ := h
  obtain ⟨vs, h, q⟩ := ra _ _ e
  rcases ds with _ | ⟨d, _ | ⟨e, _⟩⟩ <;> try exact r.elim
  · obtain ⟨w, rfl, rv⟩ := rd.one_of
    cases d <;> try exact r.elim
    cases rv
    cases rx
    obtain ⟨u, rfl, t, rfl⟩ := vals1 rxs
    simp only [rML] at r
    split at r
    · rename_i ns e2
      cases ints_ok q e2
      obtain ⟨its, r', pl, hz⟩ := I.list (SqL.of (K := X.K) h)
      have hlen := r'.length
      exact SeqAt.list_index_ints pl.isList (intsAre_of r') (by rw [List.length_map] at hz; exact hz) r.1 ⟨.int _, H, I.tok _, ⟨_, rfl⟩, f.here r.2 ra rfl⟩
    · exact r.elim
  · cases d <;> exact r.elim
theorem m_tindex (hK : X.K = c.K) : MtR X "tuple.index" (lRt c (rMT .index)) := by
  intro pins s σ H x xs v us Q I rx rxs h
  obtain ⟨A, es, ds, Qd, ra, ⟨a, vs, rfl, h, q⟩, rd, r, f⟩ := h
  rcases ds with _ | ⟨d, _ | ⟨e, _⟩⟩ <;> try exact r.elim
  · obtain ⟨w, rfl, rv⟩ := rd.one_of
    cases d <;> try exact r.elim
    cases rv
    cases rx
    obtain ⟨u, rfl, t, rfl⟩ := vals1 rxs
    simp only [rMT] at r
    split at r
    · rename_i ns e2
      cases ints_ok q e2
      obtain ⟨its, r', pl, hz⟩ := I.tuple (by rw [hK]; exact h.sqt)
      exact SeqAt.tuple_index_ints pl (intsAre_of r') r.1 ⟨.int _, H, I.tok _, ⟨_, rfl⟩, f.here r.2 ra rfl⟩
    · exact r.elim
  · cases d <;> exact r.elim
theorem idxOf_first {ns : List Int} {k : Int} (h : k ∈ ns) : ns[ns.idxOf k]? = some k ∧ ∀ m : Nat, m < ns.idxOf k → ns[m]? ≠ some k := by
  induction ns with
  | nil => simp at h
  | cons a r ih =>
    by_cases e : a = k
    · subst e
      simp
    · have hk : k ∈ r := by
        rcases List.mem_cons.mp h with z | z
        · exact absurd z.symm e
        · exact z
      obtain ⟨i1, i2⟩ := ih hk
      have hb : (a == k) = false := beq_eq_false_iff_ne.mpr e
      rw [List.idxOf_cons, hb]
      refine ⟨by simpa using i1, fun m hm => ?_⟩
      cases m with
      | zero => simpa using e
      | succ m => simpa using i2 m (by simpa using hm)
theorem m_remove : MtR X "list.remove" (lRl c (rML .remove)) := by
  refine MtR.imp mt_remove fun o xs H Q h => ?_
  obtain ⟨A, a, es, ds, Qd, ra, rfl, e, rx, r, f⟩ := h
  obtain ⟨vs, h, q⟩ := ra _ _ e
  rcases ds with _ | ⟨d, _ | ⟨e, _⟩⟩ <;> try exact r.elim
  · obtain ⟨v, rfl, rv⟩ := rx.one_of
    cases d <;> try exact r.elim
    cases rv
    rename_i k
    simp only [rML] at r
    split at r
    · rename_i ns e2
      cases ints_ok q e2
      obtain ⟨h1, h2⟩ := idxOf_first r.1
      refine ⟨_, ns, k, ns.idxOf k, rfl, rfl, h, h1, h2, ?_⟩
      have := f.wr (d := .non) (v := .non) (vs := (ns.map V.int).eraseIdx (ns.idxOf k)) r.2 ra h rfl (q.erase _)
      rwa [erase_mapI] at this
    · exact r.elim
  · cases d <;> exact r.elim
end
end Py

namespace Py
open PySem PySem.Spec PyProof.Rows L2
section
variable (c : RC)
/-- what is wished of an exception, told of the layer's -/
def FolW (H : Hp) (W : Value → Option Addr → Hp → Prop) (Xd : Dx) : Prop := ∀ n A' C H', Xd n A' → c.cl n = some C → Mono H H' → RelA c A' H' → W (.ref C) none H'
def lE (t : DE) (W : WX) : TE := fun σ H Q => ∃ σd A Xd Qd, RelS c.K H σd σ ∧ RelA c A H ∧ t σd A Xd Qd ∧ Fol c H Q Qd ∧ FolW c H (fun cl d H' => W cl d σ H') Xd
def FolB (H : Hp) (Q : Bool → Hp → Prop) (Qd : Bool → AH → Prop) : Prop := ∀ b A' H', Qd b A' → Mono H H' → RelA c A' H' → Q b H'
def FolA (H : Hp) (Q : List V → Hp → Prop) (Qd : List D → AH → Prop) : Prop := ∀ ds A' vs H', Qd ds A' → Mono H H' → RelA c A' H' → RelDs c.K H' ds vs → Q vs H'
def lT (t : DE' Bool) (W : WX) : TT := fun σ H Q => ∃ σd A Xd Qd, RelS c.K H σd σ ∧ RelA c A H ∧ t σd A Xd Qd ∧ FolB c H Q Qd ∧ FolW c H (fun cl d H' => W cl d σ H') Xd
def lA (t : DE' (List D)) (W : WX) : TA := fun σ H Q => ∃ σd A Xd Qd, RelS c.K H σd σ ∧ RelA c A H ∧ t σd A Xd Qd ∧ FolA c H Q Qd ∧ FolW c H (fun cl d H' => W cl d σ H') Xd
/-- what a def promises -/
def lSp (t : List D → AH → Dx → Dk → Prop) : Sp := fun vs H Q E => ∃ A ds Xd Qd, RelA c A H ∧ RelDs c.K H ds vs ∧ t ds A Xd Qd ∧ Fol c H Q Qd ∧ FolW c H E Xd
end
section
variable {c : RC} {X : Cx} {W : WX}
theorem Fol.from {H H1 : Hp} {Q : VK} {Qd : Dk} (f : Fol c H Q Qd) (m : Mono H H1) : Fol c H1 Q Qd := fun d A v H' q m' ra r => f d A v H' q (m.trans m') ra r
theorem FolB.from {H H1 : Hp} {Q : Bool → Hp → Prop} {Qd : Bool → AH → Prop} (f : FolB c H Q Qd) (m : Mono H H1) : FolB c H1 Q Qd := fun d A H' q m' ra => f d A H' q (m.trans m') ra
theorem FolA.from {H H1 : Hp} {Q : List V → Hp → Prop} {Qd : List D → AH → Prop} (f : FolA c H Q Qd) (m : Mono H H1) : FolA c H1 Q Qd := fun d A v H' q m' ra r => f d A v H' q (m.trans m') ra r
theorem FolW.from {H H1 : Hp} {W : Value → Option Addr → Hp → Prop} {Xd : Dx} (f : FolW c H W Xd) (m : Mono H H1) : FolW c H1 W Xd := fun n A C H' q cl m' ra => f n A C H' q cl (m.trans m') ra
/-- go on with another reading -/
theorem lE_go {t : DE} {σ : L2.St} {H H1 : Hp} {σd : DSt} {A : AH} {Xd : Dx} {Q : VK} {Qd : Dk} (rs : RelS c.K H σd σ) (m : Mono H H1) (ra : RelA c A H1) (fw : FolW c H (fun cl d H' => W cl d σ H') Xd) (h : t σd A Xd Qd) (f : Fol c H1 Q Qd) : lE c t W σ H1 Q :=
  ⟨σd, A, Xd, Qd, rs.mono m, ra, h, f, fw.from m⟩
theorem lT_go {t : DE' Bool} {σ : L2.St} {H H1 : Hp} {σd : DSt} {A : AH} {Xd : Dx} {Q : Bool → Hp → Prop} {Qd : Bool → AH → Prop} (rs : RelS c.K H σd σ) (m : Mono H H1) (ra : RelA c A H1) (fw : FolW c H (fun cl d H' => W cl d σ H') Xd) (h : t σd A Xd Qd) (f : FolB c H1 Q Qd) : lT c t W σ H1 Q :=
  ⟨σd, A, Xd, Qd, rs.mono m, ra, h, f, fw.from m⟩
theorem lA_go {t : DE' (List D)} {σ : L2.St} {H H1 : Hp} {σd : DSt} {A : AH} {Xd : Dx} {Q : List V → Hp → Prop} {Qd : List D → AH → Prop} (rs : RelS c.K H σd σ) (m : Mono H H1) (ra : RelA c A H1) (fw : FolW c H (fun cl d H' => W cl d σ H') Xd) (h : t σd A Xd Qd) (f : FolA c H1 Q Qd) : lA c t W σ H1 Q :=
  ⟨σd, A, Xd, Qd, rs.mono m, ra, h, f, fw.from m⟩

/-- two expressions and an operation on their values -/
theorem two_lift {ta tb : DE} {r : D → D → AH → Dk → Prop} {σ : L2.St} {H : Hp} {Q : VK} (h : lE c (fun σ A X Q => ta σ A X fun x A1 => tb σ A1 X fun y A2 => r x y A2 Q) W σ H Q) : tOp (lR2 c r) (lE c ta W) (lE c tb W) σ H Q := by
  obtain ⟨σd, A, Xd, Qd, rs, ra, t, f, fw⟩ := h
  refine lE_go rs .refl ra fw t fun x A1 v H1 q1 m1 ra1 rx => ?_
  refine lE_go rs m1 ra1 fw q1 fun y A2 w H2 q2 m2 ra2 ry => ?_
  exact ⟨A2, x, y, Qd, ra2, RelD.mono m2 _ _ rx, ry, q2, f.from (m1.trans m2)⟩
theorem s_var {i : Nat} {x : Str} {pos : Pos} (hN : X.N[i]? = some x) (hv : Vis X.env.scope x) (hd : (x == ("__debug__" : Str)) = false) (hcd : (x == ("__classdict__" : Str)) = false) (G : GEnv) : PE X (.Name x pos) (lE c (ev G (.var i x)) W) := by
  refine PE.imp (pe_var hN hv hd hcd) fun σ H Q h => ?_
  obtain ⟨σd, A, Xd, Qd, rs, ra, t, f, fw⟩ := h
  simp only [ev, ev2, wT] at t
  split at t
  · rename_i d e
    obtain ⟨v, ev, rv⟩ := rs.2 i d e
    exact ⟨v, ev, f.here t ra rv⟩
  · exact t.elim
theorem s_gv {x : Str} {pos : Pos} {G : GEnv} (hg : Gl X x) (hd : (x == ("__debug__" : Str)) = false) (hc : ∀ d, G.con x = some d → ∃ u v, X.mg x = some u ∧ RelV v u ∧ ∀ H, RelD c.K H d v) : PE X (.Name x pos) (lE c (ev G (.gv x)) W) := by
  cases e : G.con x with
  | none =>
    refine ⟨fun _ _ σ H Q _ h => ?_⟩
    obtain ⟨σd, A, Xd, Qd, rs, ra, t, f, fw⟩ := h
    simp only [ev, ev2, wT, e] at t
  | some d =>
    obtain ⟨u, v, hm, rv, rd⟩ := hc d e
    refine PE.imp (pe_glob hg hm rv hd) fun σ H Q h => ?_
    obtain ⟨σd, A, Xd, Qd, rs, ra, t, f, fw⟩ := h
    simp only [ev, ev2, wT, e] at t
    exact f.here t ra (rd H)
def cstIs : Const → D → Bool
  | .none, .non => true
  | .bool a, .bl b => a == b
  | .int i, .int j => i == j
  | .str x, .str y => x == y
  | _, _ => false
theorem s_cst {k : Const} {d : D} {j : Nat} {pos : Pos} {G : GEnv} (h : cstIs k d = true) : PE X (.Constant k j pos) (lE c (ev G (.cst d)) W) := by
  have fin : ∀ {v : V} {σ : L2.St} {H : Hp} {Q : VK}, lE c (ev G (.cst d)) W σ H Q → (∀ H, RelD c.K H d v) → Q v H := fun {v σ H Q} h rd => by
    obtain ⟨σd, A, Xd, Qd, rs, ra, t, f, fw⟩ := h
    have t' : Qd d A := t
    exact f.here t' ra (rd H)
  cases k <;> cases d <;> first | (cases h; done) | skip
  · exact PE.imp pe_non fun σ H Q q => fin q fun _ => rfl
  · exact PE.imp pe_bl fun σ H Q q => fin q fun _ => by simp only [cstIs, beq_iff_eq] at h; subst h; rfl
  · exact PE.imp pe_int fun σ H Q q => fin q fun _ => by simp only [cstIs, beq_iff_eq] at h; subst h; rfl
  · exact PE.imp pe_str fun σ H Q q => fin q fun _ => by simp only [cstIs, beq_iff_eq] at h; subst h; rfl
variable {G : GEnv} {a b e : Expr} {ea eb : E} {pos : Pos}
theorem s_bin (hK : X.K = c.K) {o : BOp} (ha : PE X a (lE c (ev G ea) W)) (hb : PE X b (lE c (ev G eb) W)) : PE X (.BinOp a (bopOp o) b pos) (lE c (ev G (.bin o ea eb)) W) :=
  PE.imp (pe_op (d_bin hK o) ha hb) fun σ H Q h => two_lift (ta := ev G ea) (tb := ev G eb) (r := rBin o) h
theorem s_neg (ha : PE X a (lE c (ev G ea) W)) : PE X (.UnaryOp .USub a pos) (lE c (ev G (.neg ea)) W) := by
  refine PE.imp (pe_un un_neg ha) fun σ H Q h => ?_
  obtain ⟨σd, A, Xd, Qd, rs, ra, t, f, fw⟩ := h
  refine lE_go rs .refl ra fw t fun x A1 v H1 q1 m1 ra1 rx => ?_
  cases x <;> try exact q1.elim
  exact ⟨_, rx, (f.from m1).here q1 ra1 rfl⟩
theorem s_cmp (hK : X.K = c.K) (hu : X.A.units + 64 < cLine) {o : COp} (ha : PE X a (lE c (ev G ea) W)) (hb : PE X b (lE c (ev G eb) W)) (hm : behindInMarks (copOp o) b = false) : PE X (.Compare a [copOp o] [b] pos) (lE c (ev G (.cmp o ea eb)) W) :=
  PE.imp (pe_cmpR (d_cmp hK hu o) ha hb hm) fun σ H Q h => two_lift (ta := ev G ea) (tb := ev G eb) (r := rCmp o) h
/-- what comes out of a comparison, as a test -/
theorem two_liftT {ta tb : DE} {r : D → D → AH → Dk → Prop} {σ : L2.St} {H : Hp} {Q : Bool → Hp → Prop} (h : lT c (fun σ A X Q => ta σ A X fun x A1 => tb σ A1 X fun y A2 => r x y A2 fun z A3 => match z with | .bl k => Q k A3 | _ => False) W σ H Q) : tTest (tOp (lR2 c r) (lE c ta W) (lE c tb W)) σ H Q := by
  obtain ⟨σd, A, Xd, Qd, rs, ra, t, f, fw⟩ := h
  refine lE_go rs .refl ra fw t fun x A1 v H1 q1 m1 ra1 rx => ?_
  refine lE_go rs m1 ra1 fw q1 fun y A2 w H2 q2 m2 ra2 ry => ?_
  refine ⟨A2, x, y, _, ra2, RelD.mono m2 _ _ rx, ry, q2, fun z A3 u H3 q3 m3 ra3 rz => ?_⟩
  cases z <;> try exact q3.elim
  exact ⟨_, rz, f _ _ _ q3 ((m1.trans m2).trans m3) ra3⟩
theorem t_cmp (hK : X.K = c.K) (hu : X.A.units + 64 < cLine) {o : COp} (ha : PE X a (lE c (ev G ea) W)) (hb : PE X b (lE c (ev G eb) W)) (hm : behindInMarks (copOp o) b = false) : PT X (.Compare a [copOp o] [b] pos) (lT c (evT G (.cmp o ea eb)) W) :=
  PT.imp (pt_cmpR (d_cmp hK hu o) ha hb hm) fun σ H Q h => two_liftT (ta := ev G ea) (tb := ev G eb) (r := rCmp o) h
theorem s_chain (hK : X.K = c.K) (hu : X.A.units + 64 < cLine) {o o' : COp} {d : Expr} {ed : E} (ha : PE X a (lE c (ev G ea) W)) (hb : PE X b (lE c (ev G eb) W)) (hd : PE X d (lE c (ev G ed) W)) (hm : lastMarks [copOp o, copOp o'] [b, d] = false) :
    PE X (.Compare a [copOp o, copOp o'] [b, d] pos) (lE c (ev G (.chain o o' ea eb ed)) W) := by
  refine PE.imp (pe_chain (d_cmp hK hu o) (d_cmp hK hu o') ha hb hd hm) fun σ H Q h => ?_
  obtain ⟨σd, A, Xd, Qd, rs, ra, t, f, fw⟩ := h
  refine lE_go rs .refl ra fw t fun x A1 v H1 q1 m1 ra1 rx => ?_
  refine lE_go rs m1 ra1 fw q1 fun y A2 w H2 q2 m2 ra2 ry => ?_
  refine ⟨A2, x, y, _, ra2, RelD.mono m2 _ _ rx, ry, q2, fun z A3 u H3 q3 m3 ra3 rz => ?_⟩
  cases z <;> try exact q3.elim
  rename_i k
  refine ⟨k, rz, ?_⟩
  have m13 := (m1.trans m2).trans m3
  cases k with
  | true =>
    refine lE_go rs m13 ra3 fw q3 fun w' A4 v4 H4 q4 m4 ra4 r4 => ?_
    exact ⟨A4, y, w', Qd, ra4, RelD.mono (m3.trans m4) _ _ ry, r4, q4, f.from (m13.trans m4)⟩
  | false => exact (f.from m13).here q3 ra3 rfl
theorem t_chain (hK : X.K = c.K) (hu : X.A.units + 64 < cLine) {o o' : COp} {d : Expr} {ed : E} (ha : PE X a (lE c (ev G ea) W)) (hb : PE X b (lE c (ev G eb) W)) (hd : PE X d (lE c (ev G ed) W)) (hm : lastMarks [copOp o, copOp o'] [b, d] = false) :
    PT X (.Compare a [copOp o, copOp o'] [b, d] pos) (lT c (evT G (.chain o o' ea eb ed)) W) := by
  refine PT.imp (pt_chain (d_cmp hK hu o) (d_cmp hK hu o') ha hb hd hm) fun σ H Q h => ?_
  obtain ⟨σd, A, Xd, Qd, rs, ra, t, f, fw⟩ := h
  refine lE_go rs .refl ra fw t fun x A1 v H1 q1 m1 ra1 rx => ?_
  refine lE_go rs m1 ra1 fw q1 fun y A2 w H2 q2 m2 ra2 ry => ?_
  refine ⟨A2, x, y, _, ra2, RelD.mono m2 _ _ rx, ry, q2, fun z A3 u H3 q3 m3 ra3 rz => ?_⟩
  cases z <;> try exact q3.elim
  rename_i k
  refine ⟨k, rz, ?_⟩
  have m13 := (m1.trans m2).trans m3
  cases k with
  | true =>
    refine lE_go rs m13 ra3 fw q3 fun w' A4 v4 H4 q4 m4 ra4 r4 => ?_
    refine ⟨A4, y, w', _, ra4, RelD.mono (m3.trans m4) _ _ ry, r4, q4, fun z A5 u H5 q5 m5 ra5 r5 => ?_⟩
    cases z <;> try exact q5.elim
    exact ⟨_, r5, f _ _ _ q5 ((m13.trans m4).trans m5) ra5⟩
  | false => exact ⟨false, rfl, f _ _ _ q3 m13 ra3⟩
theorem tru_of {A : AH} {H : Hp} {d : D} {x : V} {b : Bool} (hK : X.K = c.K) (ra : RelA c A H) (r : RelD c.K H d x) (e : truD A d = some b) : TruV X.K x H b := by
  cases d <;> simp only [truD] at e
  · cases r; cases e; rfl
  · cases r; cases e; rfl
  · cases r; cases e; rfl
  · cases r
    split at e
    · rename_i h
      cases e
      exact ⟨h, rfl⟩
    · cases e
  · obtain ⟨a, vs, rfl, h, q⟩ := r
    cases e
    refine .inr (.inl ⟨vs, by rw [hK]; exact h.sqt, ?_⟩)
    have ne : ∀ {α β : Type} {l : List α} {m : List β}, l.length = m.length → (!m.isEmpty) = !l.isEmpty := fun {α β l m} h => by cases l <;> cases m <;> simp_all
    exact ne q.length
  · cases r
    have ne : ∀ {α β : Type} {l : List α} {m : List β}, l.length = m.length → (!m.isEmpty) = !l.isEmpty := fun {α β l m} h => by cases l <;> cases m <;> simp_all
    split at e
    · rename_i g
      cases e
      obtain ⟨vs, h, q⟩ := ra _ _ g
      exact .inl ⟨vs, SqL.of h, ne q.length⟩
    · rename_i g
      cases e
      obtain ⟨vs, h, q⟩ := ra _ _ g
      exact .inr (.inr ⟨vs, h, ne (RelKv.length q)⟩)
    · cases e
  · obtain ⟨a, vs, rfl, h, q⟩ := r
    cases e
    have ne : ∀ {α β : Type} {l : List α} {m : List β}, l.length = m.length → (!m.isEmpty) = !l.isEmpty := fun {α β l m} h => by cases l <;> cases m <;> simp_all
    exact .inl ⟨vs, by rw [hK]; exact h.sql, ne q.length⟩
theorem s_not (hK : X.K = c.K) (ha : PE X a (lE c (ev G ea) W)) : PE X (.UnaryOp .Not a pos) (lE c (ev G (.not ea)) W) := by
  refine ⟨fun pins s σ H Q I h => ?_⟩
  obtain ⟨σd, A, Xd, Qd, rs, ra, t, f, fw⟩ := h
  refine UnaryOp_ (thn (ha.run pins s σ H (fun x H1 => ∃ k, TruV X.K x H1 k ∧ Q (.bl (!k)) H1) I (lE_go rs .refl ra fw t fun x A1 v H1 q1 m1 ra1 rx => ?_)) fun v s1 ⟨x, H1, I1, r1, k, q1, q2⟩ => ?_)
  · split at q1
    · rename_i b e
      exact ⟨b, tru_of hK ra1 rx e, (f.from m1).here q1 ra1 rfl⟩
    · exact q1.elim
  · exact not_of (thn (tru_ok pins s1 σ H1 x v (fun k' H' => Q (.bl (!k')) H') I1 r1 ⟨k, q1, q2⟩) fun k' s2 ⟨H2, I2, q3⟩ => ⟨.bl (!k'), H2, I2, rfl, q3⟩)
theorem t_val (hK : X.K = c.K) (ha : PE X a (lE c (ev G ea) W)) (he : ∀ whole, isTrue a X.env whole = (do let v ← whole; standAt a.pos; holding [v] (truthy v))) : PT X a (lT c (valT (ev G ea)) W) := by
  refine PT.imp (pt_truth ha he) fun σ H Q h => ?_
  obtain ⟨σd, A, Xd, Qd, rs, ra, t, f, fw⟩ := h
  refine lE_go rs .refl ra fw t fun x A1 v H1 q1 m1 ra1 rx => ?_
  split at q1
  · rename_i b e
    exact ⟨b, tru_of hK ra1 rx e, f _ _ _ q1 m1 ra1⟩
  · exact q1.elim
theorem t_ite {d : Expr} {ed : E} (hd : PT X d (lT c (evT G ed) W)) (ha : PT X a (lT c (evT G ea) W)) (hb : PT X b (lT c (evT G eb) W)) : PT X (.IfExp d a b pos) (lT c (evT G (.ite ed ea eb)) W) := by
  refine ⟨fun pins s σ H Q I h => ?_⟩
  obtain ⟨σd, A, Xd, Qd, rs, ra, t, f, fw⟩ := h
  rw [arm_isTrue_IfExp]
  refine wpAny_bind (thn (hd.run pins s σ H (fun k H1 => if k = true then lT c (evT G ea) W σ H1 Q else lT c (evT G eb) W σ H1 Q) I (lT_go rs .refl ra fw t fun k A1 H1 q1 m1 ra1 => ?_)) fun k s1 ⟨H1, I1, q1⟩ => ?_)
  · cases k with
    | true => exact lT_go rs m1 ra1 fw q1 (f.from m1)
    | false => exact lT_go rs m1 ra1 fw q1 (f.from m1)
  · cases k with
    | true => exact ha.run pins s1 σ H1 Q I1 q1
    | false => exact hb.run pins s1 σ H1 Q I1 q1
theorem t_not (ha : PT X a (lT c (evT G ea) W)) : PT X (.UnaryOp .Not a pos) (lT c (evT G (.not ea)) W) := by
  refine PT.imp (pt_not ha) fun σ H Q h => ?_
  obtain ⟨σd, A, Xd, Qd, rs, ra, t, f, fw⟩ := h
  exact lT_go rs .refl ra fw t fun b A1 H1 q1 m1 ra1 => f _ _ _ q1 m1 ra1
theorem s_ite {d : Expr} {ed : E} (hd : PT X d (lT c (evT G ed) W)) (ha : PE X a (lE c (ev G ea) W)) (hb : PE X b (lE c (ev G eb) W)) : PE X (.IfExp d a b pos) (lE c (ev G (.ite ed ea eb)) W) := by
  refine PE.imp (pe_ifExp hd ha hb) fun σ H Q h => ?_
  obtain ⟨σd, A, Xd, Qd, rs, ra, t, f, fw⟩ := h
  refine lT_go rs .refl ra fw t fun k A1 H1 q1 m1 ra1 => ?_
  cases k with
  | true => exact lE_go rs m1 ra1 fw q1 (f.from m1)
  | false => exact lE_go rs m1 ra1 fw q1 (f.from m1)
end
end Py

namespace Py
open PySem PySem.Spec PyProof.Rows L2
section
variable {c : RC} {X : Cx} {W : WX} {G : GEnv} {a b e : Expr} {ea eb : E} {es : List Expr} {ees : Es} {pos : Pos}
/-! ### and, or -/
theorem s_bop1 {op : BoolOp} {k : Bool} (ha : PE X a (lE c (ev G ea) W)) : PE X (.BoolOp op [a] pos) (lE c (evB2 G k (.cons ea .nil)).1 W) := pe_one ha
theorem s_and {r : Expr} {rs : List Expr} {eb : E} {ers : Es} (ha : PE X a (lE c (ev G ea) W)) (hb : PE X (.BoolOp .And (r :: rs) pos) (lE c (evB2 G true (.cons eb ers)).1 W)) : PE X (.BoolOp .And (a :: r :: rs) pos) (lE c (evB2 G true (.cons ea (.cons eb ers))).1 W) := by
  refine PE.imp (pe_and ha hb) fun σ H Q h => ?_
  obtain ⟨σd, A, Xd, Qd, rs, ra, t, f, fw⟩ := h
  refine lE_go rs .refl ra fw t fun x A1 v H1 q1 m1 ra1 rx => ?_
  cases x <;> try exact q1.elim
  rename_i k
  refine ⟨k, rx, ?_⟩
  cases k with
  | true => exact lE_go rs m1 ra1 fw q1 (f.from m1)
  | false => exact (f.from m1).here q1 ra1 rfl
theorem s_or {r : Expr} {rs : List Expr} {eb : E} {ers : Es} (ha : PE X a (lE c (ev G ea) W)) (hb : PE X (.BoolOp .Or (r :: rs) pos) (lE c (evB2 G false (.cons eb ers)).1 W)) : PE X (.BoolOp .Or (a :: r :: rs) pos) (lE c (evB2 G false (.cons ea (.cons eb ers))).1 W) := by
  refine PE.imp (pe_or ha hb) fun σ H Q h => ?_
  obtain ⟨σd, A, Xd, Qd, rs, ra, t, f, fw⟩ := h
  refine lE_go rs .refl ra fw t fun x A1 v H1 q1 m1 ra1 rx => ?_
  cases x <;> try exact q1.elim
  rename_i k
  refine ⟨k, rx, ?_⟩
  cases k with
  | false => exact lE_go rs m1 ra1 fw q1 (f.from m1)
  | true => exact (f.from m1).here q1 ra1 rfl
theorem t_and1 {k : Bool} (ha : PT X a (lT c (evT G ea) W)) : PW X (.BoolOp .And [a] pos) (lT c (evB2 G k (.cons ea .nil)).2 W) := pw_and1 ha
theorem t_or1 {k : Bool} (ha : PT X a (lT c (evT G ea) W)) : PW X (.BoolOp .Or [a] pos) (lT c (evB2 G k (.cons ea .nil)).2 W) := pw_or1 ha
theorem PW.imp {e : Expr} {t t' : TT} (h : PW X e t) (i : ∀ σ H Q, t' σ H Q → t σ H Q) : PW X e t' := ⟨fun wh pins s σ H Q I q => h.run wh pins s σ H Q I (i _ _ _ q)⟩
theorem t_and {r : Expr} {rs : List Expr} {eb : E} {ers : Es} (ha : PT X a (lT c (evT G ea) W)) (hb : PW X (.BoolOp .And (r :: rs) pos) (lT c (evB2 G true (.cons eb ers)).2 W)) : PW X (.BoolOp .And (a :: r :: rs) pos) (lT c (evB2 G true (.cons ea (.cons eb ers))).2 W) := by
  refine PW.imp (pw_and ha hb) fun σ H Q h => ?_
  obtain ⟨σd, A, Xd, Qd, rs, ra, t, f, fw⟩ := h
  refine lT_go rs .refl ra fw t fun k A1 H1 q1 m1 ra1 => ?_
  cases k with
  | true => exact lT_go rs m1 ra1 fw q1 (f.from m1)
  | false => exact f _ _ _ q1 m1 ra1
theorem t_or {r : Expr} {rs : List Expr} {eb : E} {ers : Es} (ha : PT X a (lT c (evT G ea) W)) (hb : PW X (.BoolOp .Or (r :: rs) pos) (lT c (evB2 G false (.cons eb ers)).2 W)) : PW X (.BoolOp .Or (a :: r :: rs) pos) (lT c (evB2 G false (.cons ea (.cons eb ers))).2 W) := by
  refine PW.imp (pw_or ha hb) fun σ H Q h => ?_
  obtain ⟨σd, A, Xd, Qd, rs, ra, t, f, fw⟩ := h
  refine lT_go rs .refl ra fw t fun k A1 H1 q1 m1 ra1 => ?_
  cases k with
  | false => exact lT_go rs m1 ra1 fw q1 (f.from m1)
  | true => exact f _ _ _ q1 m1 ra1

/-! ### lists of expressions, displays -/
def noStar : Expr → Bool
  | .Starred .. => false
  | _ => true
theorem starEach_cons {env : Env} (h : noStar e = true) : starEach (e :: es) env = (false, eval e env) :: starEach es env := by
  cases e <;> first | rfl | cases h
theorem starEach_plain {env : Env} {pos : Pos} : ∀ {es : List Expr}, es.all noStar = true → (backTo pos (starEach es env)).any (·.1) = false
  | [], _ => rfl
  | e :: es, h => by
    rw [List.all_cons, Bool.and_eq_true] at h
    rw [starEach_cons h.1]
    show (false || (backTo pos (starEach es env)).any (·.1)) = false
    rw [starEach_plain h.2]
    rfl
theorem a_nil : PA X [] (lA c (evs G .nil) W) := by
  refine PA.imp pa_nil fun σ H Q h => ?_
  obtain ⟨σd, A, Xd, Qd, rs, ra, t, f, fw⟩ := h
  exact f [] A [] H t .refl ra rfl
theorem a_cons (he : PE X e (lE c (ev G ea) W)) (hs : PA X es (lA c (evs G ees) W)) (hn : noStar e = true) : PA X (e :: es) (lA c (evs G (.cons ea ees)) W) := by
  refine PA.imp (pa_cons he hs (starEach_cons hn)) fun σ H Q h => ?_
  obtain ⟨σd, A, Xd, Qd, rs, ra, t, f, fw⟩ := h
  refine lE_go rs .refl ra fw t fun x A1 v H1 q1 m1 ra1 rx => ?_
  refine lA_go rs m1 ra1 fw q1 fun ds A2 vs H2 q2 m2 ra2 r2 => ?_
  exact f _ _ _ _ q2 (m1.trans m2) ra2 ⟨v, vs, rfl, RelD.mono m2 _ _ rx, r2⟩
def tTupN (t : TA) : TE := fun σ H Q => t σ H fun xs H1 => xs.length ≤ sizeLine ∧ newT xs H1 Q
theorem pe_tupN {t : TA} {x1} (h : PA X es t) : PE X (.Tuple es x1 pos) (tTupN t) := by
  refine ⟨fun pins s σ H Q I hq => ?_⟩
  refine wpAny_Tuple_spliced (thn (h.run pos pins s σ H _ I hq) fun us s1 ⟨xs, H1, I1, r, z, q⟩ => ⟨by rw [← r.length]; exact z, ?_⟩)
  exact laidT (h := s1.heap) (t := s1.toks) I1 r z q
theorem s_tup {k : Nat} (h : PA X es (lA c (evs G ees) W)) : PE X (.Tuple es k pos) (lE c (ev G (.tup ees)) W) := by
  refine PE.imp (pe_tupN h) fun σ H Q h => ?_
  obtain ⟨σd, A, Xd, Qd, rs, ra, t, f, fw⟩ := h
  refine lA_go rs .refl ra fw t fun ds A1 vs H1 q1 m1 ra1 r1 => ?_
  exact ⟨by rw [r1.length]; exact q1.1, (f.from m1).tup q1.2 ra1 r1⟩
theorem s_lst (h : PA X es (lA c (evs G ees) W)) : PE X (.List es pos) (lE c (ev G (.lst ees)) W) := by
  refine PE.imp (pe_lst h) fun σ H Q h => ?_
  obtain ⟨σd, A, Xd, Qd, rs, ra, t, f, fw⟩ := h
  refine lA_go rs .refl ra fw t fun ds A1 vs H1 q1 m1 ra1 r1 => ?_
  exact ⟨by rw [r1.length]; exact q1.1, (f.from m1).lst q1.2 ra1 r1⟩

/-! ### subscripts -/
def notSlice : Expr → Bool
  | .Slice .. => false
  | _ => true
theorem plainIx (h : notSlice b = true) : PlainIx b := fun o i => by
  cases b <;> first | rfl | cases h
theorem s_idx (hK : X.K = c.K) (ha : PE X a (lE c (ev G ea) W)) (hb : PE X b (lE c (ev G eb) W)) (hn : notSlice b = true) : PE X (.Subscript a b pos) (lE c (ev G (.idx ea eb)) W) :=
  PE.imp (pe_ix (d_idx hK) ha hb (plainIx hn)) fun σ H Q h => two_lift (ta := ev G ea) (tb := ev G eb) (r := rIdx) h
abbrev TO := L2.St → Hp → (Option Int → Hp → Prop) → Prop
def FolO (c : RC) (H : Hp) (Q : Option Int → Hp → Prop) (Qd : Option Int → AH → Prop) : Prop := ∀ b A' H', Qd b A' → Mono H H' → RelA c A' H' → Q b H'
def lO (c : RC) (t : DE' (Option Int)) (W : WX) : TO := fun σ H Q => ∃ σd A Xd Qd, RelS c.K H σd σ ∧ RelA c A H ∧ t σd A Xd Qd ∧ FolO c H Q Qd ∧ FolW c H (fun cl d H' => W cl d σ H') Xd
theorem PO.imp {e : Option Expr} {t t' : TO} (h : PO X e t) (i : ∀ σ H Q, t' σ H Q → t σ H Q) : PO X e t' := ⟨fun pins s σ H Q I q => h.run pins s σ H Q I (i _ _ _ q)⟩
theorem o_no : PO X none (lO c (evo G .no) W) := by
  refine PO.imp po_none fun σ H Q h => ?_
  obtain ⟨σd, A, Xd, Qd, rs, ra, t, f, fw⟩ := h
  exact f none A H t .refl ra
theorem o_yes (he : PE X e (lE c (ev G ea) W)) : PO X (some e) (lO c (evo G (.yes ea)) W) := by
  refine PO.imp (po_some he) fun σ H Q h => ?_
  obtain ⟨σd, A, Xd, Qd, rs, ra, t, f, fw⟩ := h
  refine lE_go rs .refl ra fw t fun x A1 v H1 q1 m1 ra1 rx => ?_
  cases x <;> try exact q1.elim
  exact ⟨_, rx, f _ _ _ q1 m1 ra1⟩
theorem s_slc (hK : X.K = c.K) {lo hi : Option Expr} {el eh : Oe} {p2 : Pos} (ha : PE X a (lE c (ev G ea) W)) (hl : PO X lo (lO c (evo G el) W)) (hh : PO X hi (lO c (evo G eh) W)) : PE X (.Subscript a (.Slice lo hi none p2) pos) (lE c (ev G (.slc ea el eh)) W) := by
  refine PE.imp (pe_slice (d_slc hK) ha hl hh) fun σ H Q h => ?_
  obtain ⟨σd, A, Xd, Qd, rs, ra, t, f, fw⟩ := h
  refine lE_go rs .refl ra fw t fun x A1 v H1 q1 m1 ra1 rx => ?_
  refine ⟨σd, A1, Xd, _, rs.mono m1, ra1, q1, fun l A2 H2 q2 m2 ra2 => ?_, fw.from m1⟩
  refine ⟨σd, A2, Xd, _, rs.mono (m1.trans m2), ra2, q2, fun h A3 H3 q3 m3 ra3 => ?_, fw.from (m1.trans m2)⟩
  exact ⟨A3, x, Qd, ra3, RelD.mono (m2.trans m3) _ _ rx, q3, f.from ((m1.trans m2).trans m3)⟩

/-! ### calls -/
theorem glob_name {env : Env} {x : Str} (h : env.scope.names.lookup x = some .globalImplicit) : env.kindOf x = some .globalImplicit := h
theorem a_len {n : Nat} : ∀ {ees : Es} {ds : List D} {k : Nat}, True := fun {_ _ _} => trivial
theorem s_bifB (bf : BF) {id : String} {x : Str} {p : Pos} (hc : CallR X (.builtin id) (lRs c (rB bf))) (hg : Gl X x) (hm : X.mg x = none) (hv : bootBuiltins x = some (.builtin id)) (hn : x ≠ "__name__") (hdb : (x == ("__debug__" : Str)) = false)
    (ha : PA X (e :: es) (lA c (evs G ees) W)) (h1 : noStar e = true) (h2 : es.all noStar = true) : PE X (.Call (.Name x p) (e :: es) [] pos) (lE c (ev G (.bif bf ees)) W) := by
  refine PE.imp (pe_callB hc hg hm hv ha hn hdb (starEach_cons h1) (starEach_plain h2)) fun σ H Q h => ?_
  obtain ⟨σd, A, Xd, Qd, rs, ra, t, f, fw⟩ := h
  refine lA_go rs .refl ra fw t fun ds A1 vs H1 q1 m1 ra1 r1 => ?_
  exact ⟨A1, ds, Qd, ra1, r1, q1, f.from m1⟩
theorem s_bifT (bf : BF) {T : String} {x : Str} {p : Pos} (hc : CallR X (.type T) (lRs c (rB bf))) (hg : Gl X x) (hm : X.mg x = none) (hv : bootBuiltins x = some (.type T)) (hn : x ≠ "__name__") (hdb : (x == ("__debug__" : Str)) = false)
    (ha : PA X (e :: es) (lA c (evs G ees) W)) (h1 : noStar e = true) (h2 : es.all noStar = true) : PE X (.Call (.Name x p) (e :: es) [] pos) (lE c (ev G (.bif bf ees)) W) := by
  refine PE.imp (pe_callTy hc hg hm hv ha hn hdb (starEach_cons h1) (starEach_plain h2)) fun σ H Q h => ?_
  obtain ⟨σd, A, Xd, Qd, rs, ra, t, f, fw⟩ := h
  refine lA_go rs .refl ra fw t fun ds A1 vs H1 q1 m1 ra1 r1 => ?_
  exact ⟨A1, ds, Qd, ra1, r1, q1, f.from m1⟩
/-- a def of the text stands and keeps the plain promise -/
structure DefOk (c : RC) (P : Program) (w : World) (K : PySem.W.Frag) (mg : Str → Option Value) (base : Heap) (k : Nat) (cal : Cal) (f : Str) : Prop where
  ex : ∃ (fa : Addr) (fd : FuncData) (ps : List Str), mg f = some (.ref fa) ∧ PySem.W.keepIn K (.ref fa) = true ∧ Binds K fd ps [] ∧ FnOk P w K mg base (L2.CX P w) k fa fd ps (lSp c (cal f))
/-- f() within a try too -/
theorem pe_callS0 {CX : CXT} {k : Nat} {f : Addr} {fd : FuncData} {ps : List Str} {sp : Sp} {E : L2.St → XK} {x : Str} {p : Pos} (F : FnOk X.prog X.w X.K X.mg X.base CX k f fd ps sp) (hr : Room k X.A) (hg : Gl X x) (hm : X.mg x = some (.ref f)) (hk : PySem.W.keepIn X.K (.ref f) = true) (hb : Binds X.K fd ps []) (hx : ∀ σ, PassesAt CX X σ (E σ))
    (hdb : (x == ("__debug__" : Str)) = false) : PE X (.Call (.Name x p) [] [] pos) (tCallS sp E tNil) := by
  refine ⟨fun pins s σ H Q I h => ?_⟩
  refine wpAny_Call_Name_kw (ld_glob I hg hm ?_ hdb)
  exact PySem.W.callWith_K0 I.kIn hk (run_fnS (us := []) F hr hb (hx σ) I .nil h)
theorem s_call (tk : Takes X W) {k : Nat} {x : Str} {p : Pos} (D : DefOk c X.prog X.w X.K X.mg X.base k G.cal x) (hr : Room k X.A) (hg : Gl X x) (hdb : (x == ("__debug__" : Str)) = false)
    (ha : PA X (e :: es) (lA c (evs G ees) W)) (h1 : noStar e = true) (h2 : es.all noStar = true) : PE X (.Call (.Name x p) (e :: es) [] pos) (lE c (ev G (.call x ees)) W) := by
  obtain ⟨fa, fd, ps, hm, hk, hb, F⟩ := D.ex
  refine PE.imp (pe_callS F hr hg hm hk hb (fun σ => passAt tk σ) ha hdb (starEach_cons h1) (starEach_plain h2)) fun σ H Q h => ?_
  obtain ⟨σd, A, Xd, Qd, rs, ra, t, f, fw⟩ := h
  refine lA_go rs .refl ra fw t fun ds A1 vs H1 q1 m1 ra1 r1 => ?_
  exact ⟨A1, ds, Xd, Qd, ra1, r1, q1, f.from m1, fw.from m1⟩
theorem s_call0 (tk : Takes X W) {k : Nat} {x : Str} {p : Pos} (D : DefOk c X.prog X.w X.K X.mg X.base k G.cal x) (hr : Room k X.A) (hg : Gl X x) (hdb : (x == ("__debug__" : Str)) = false) :
    PE X (.Call (.Name x p) [] [] pos) (lE c (ev G (.call x .nil)) W) := by
  obtain ⟨fa, fd, ps, hm, hk, hb, F⟩ := D.ex
  refine PE.imp (pe_callS0 F hr hg hm hk hb (fun σ => passAt tk σ) hdb) fun σ H Q h => ?_
  obtain ⟨σd, A, Xd, Qd, rs, ra, t, f, fw⟩ := h
  exact ⟨A, [], Xd, Qd, ra, rfl, t, f, fw⟩

/-! ### isinstance of a built-in type -/
def clT : Cl → Option String | .int => some "int" | .bool => some "bool" | .str => some "str" | .tuple => some "tuple" | .list => some "list" | .dict => some "dict" | .own _ => none
theorem kit_all {K : PySem.W.Frag} : ∀ (a : String) (cl : Cl) (T : String), a ∈ ["NoneType", "bool", "int", "str", "tuple", "list", "dict"] → clT cl = some T →
    PySem.W.kitOne K (.type a) (.type T) = some ((a == T) || (a == "bool" && T == "int")) := by
  intro a cl T ha hT
  simp only [List.mem_cons, List.not_mem_nil, or_false] at ha
  rcases ha with rfl | rfl | rfl | rfl | rfl | rfl | rfl <;> cases cl <;> first | (cases hT; done) | (cases hT; exact kit_ty (by decide +kernel))
theorem tyx_of {A : AH} {H : Hp} {d : D} {x : V} {cl : Cl} {T : String} {b : Bool} {sub : Str → Str → Bool} (hK : X.K = c.K) (ra : RelA c A H) (r : RelD c.K H d x) (hT : clT cl = some T) (e : isiD sub A d cl = some b) :
    ∃ t, TyX X.K H x t ∧ PySem.W.kitOne X.K t (.type T) = some b := by
  have fin : ∀ a, a ∈ ["NoneType", "bool", "int", "str", "tuple", "list", "dict"] → TyX X.K H x (.type a) → ((a == T) || (a == "bool" && T == "int")) = b → ∃ t, TyX X.K H x t ∧ PySem.W.kitOne X.K t (.type T) = some b := fun a ha ht hb => ⟨_, ht, by rw [kit_all a cl T ha hT, hb]⟩
  cases d <;> simp only [isiD] at e
  · cases r; cases e; exact fin "NoneType" (by decide) (.base .non) (by cases cl <;> cases hT <;> decide +kernel)
  · cases r; cases e; exact fin "bool" (by decide) (.base (.bl _)) (by cases cl <;> cases hT <;> decide +kernel)
  · cases r; cases e; exact fin "int" (by decide) (.base (.int _)) (by cases cl <;> cases hT <;> decide +kernel)
  · cases r; cases e; exact fin "str" (by decide) (.base (.str _)) (by cases cl <;> cases hT <;> decide +kernel)
  · obtain ⟨a, vs, rfl, h, q⟩ := r
    cases e
    refine fin "tuple" (by decide) ?_ (by cases cl <;> cases hT <;> decide +kernel)
    rcases h with ⟨o, h, _⟩ | ⟨o, its, n, h1, h2, _⟩
    · exact .fTuple h
    · rw [← hK] at h1
      exact .kTuple h1 h2
  · cases r
    split at e
    · rename_i g
      cases e
      obtain ⟨vs, h, q⟩ := ra _ _ g
      exact fin "list" (by decide) (.base (.lst h)) (by cases cl <;> cases hT <;> decide +kernel)
    · rename_i g
      cases e
      obtain ⟨vs, h, q⟩ := ra _ _ g
      exact fin "dict" (by decide) (.base (.dK h)) (by cases cl <;> cases hT <;> decide +kernel)
    · rename_i g
      cases e
      obtain ⟨vs, h, q⟩ := ra _ _ g
      exact fin "dict" (by decide) (by rcases h with h | ⟨o, h⟩; exact .base (.dK h); exact .fDict h) (by cases cl <;> cases hT <;> decide +kernel)
    · cases e
  · obtain ⟨a, vs, rfl, h, q⟩ := r
    cases e
    refine fin "list" (by decide) ?_ (by cases cl <;> cases hT <;> decide +kernel)
    rcases h with ⟨o, h⟩ | ⟨o, its, n, h1, h2, _⟩
    · exact .base (.frz h)
    · rw [← hK] at h1
      exact .kList h1 h2
theorem s_isi (hK : X.K = c.K) {cl : Cl} {T : String} {x : Str} {px p : Pos} (hT : clT cl = some T) (ha : PE X e (lE c (ev G ea) W)) (hn : noStar e = true) (hg : Gl X "isinstance") (hm : X.mg "isinstance" = none) (hgT : Gl X x) (hmT : X.mg x = none) (hv : bootBuiltins x = some (.type T)) (hnn : x ≠ "__name__") (hdb : (x == ("__debug__" : Str)) = false) :
    PE X (.Call (.Name "isinstance" p) [e, .Name x px] [] pos) (lE c (ev G (.isi ea cl)) W) := by
  refine PE.imp (pe_callB call_isi hg hm (by decide +kernel) (pa_cons ha (pa_cons (pe_bltn (v := .ty T) hgT hmT hv rfl hnn hdb) pa_nil) (starEach_cons hn)) (by decide) (by decide) (starEach_cons hn) (starEach_plain (by rfl))) fun σ H Q h => ?_
  obtain ⟨σd, A, Xd, Qd, rs, ra, t, f, fw⟩ := h
  refine lE_go rs .refl ra fw t fun d A1 v H1 q1 m1 ra1 rx => ?_
  split at q1
  · rename_i b eb
    obtain ⟨ty, h1, h2⟩ := tyx_of hK ra1 rx hT eb
    exact ⟨v, .ty T, ty, .type T, b, rfl, .ty T, h1, h2, (f.from m1).here q1 ra1 rfl⟩
  · exact q1.elim
end
end Py

namespace Py
open PySem PySem.Spec PyProof.Rows L2
section
variable {c : RC} {X : Cx} {W : WX} {G : GEnv} {a b e : Expr} {ea eb : E} {es : List Expr} {ees : Es} {pos : Pos}
/-! ### methods of built-in types -/
def mName : MT → Str
  | .append => "append" | .pop => "pop" | .index => "index" | .extend => "extend" | .insert => "insert" | .remove => "remove" | .get => "get" | .items => "items" | .values => "values" | .join => "join" | .split => "split"
  | .partition => "partition" | .count => "count" | .upper => "upper" | .clear => "clear" | .strip => "strip" | .replace => "replace" | .setdefault => "setdefault"
/-- the value is of that built-in type and has no dict of its own -/
def tyW (K : PySem.W.Frag) (T : String) (x : V) (H : Hp) : Prop := tyV K T x H ∨ (T = "tuple" ∧ ∃ p vs, x = .ref p ∧ TupAt K H p vs)
theorem tyW_is {pins : List (Addr × Obj)} {σ : L2.St} {H : Hp} {s : Shared} {T : String} {x : V} {v : Value} (I : Inv X pins σ H s) (r : RelV x v) (ty : tyW X.K T x H) :
    s.TypeIs v T ∧ ∀ a, v = .ref a → ∃ ob, s.heap.get? a = some ob ∧ ob.dict = none := by
  rcases ty with ty | ⟨rfl, p, vs, rfl, h⟩
  · exact tyV_is I r ty
  · cases r
    rcases h with ⟨o, h, d, _⟩ | ⟨o, its, n, h1, h2, ⟨d, _⟩, _⟩
    · obtain ⟨g1, g2, its2, r2, o', g3, g4, n2, g5⟩ := I.hok p _ h
      rw [g1] at g3
      cases g3
      exact ⟨⟨_, g1, g4⟩, fun a e => by cases e; exact ⟨_, g1, d⟩⟩
    · exact ⟨⟨_, I.kIn p o h1, h2⟩, fun a e => by cases e; exact ⟨_, I.kIn p o h1, d⟩⟩
/-- a method: its type's, its rule -/
def MInfo (X : Cx) (T : String) (name : Str) (r : V → List V → Hp → VK → Prop) : Prop :=
  PlainAttrs T ∧ ∃ id, Slot T name id ∧ typeOf (.builtin id) = pure (.type "method_descriptor") ∧ MtR X id r
def tBX (X : Cx) (name : Str) (to : TE) (t : TA) : TE := fun σ H Q => to σ H fun x H1 => ∃ T r, MInfo X T name r ∧ tyW X.K T x H1 ∧ t σ H1 fun xs H2 => r x xs H2 Q
theorem backTo_few {env : Env} {pos : Pos} : ∀ {es : List Expr}, es.all noStar = true → (backTo pos (starEach es env)).all (fun x => !x.1) = true
  | [], _ => rfl
  | e :: es, h => by
    rw [List.all_cons, Bool.and_eq_true] at h
    rw [starEach_cons h.1]
    show (true && (backTo pos (starEach es env)).all (fun x => !x.1)) = true
    rw [backTo_few h.2]
    rfl
def tBX0 (X : Cx) (name : Str) (to : TE) : TE := fun σ H Q => to σ H fun x H1 => ∃ T r, MInfo X T name r ∧ tyW X.K T x H1 ∧ r x [] H1 Q
theorem pe_bmX0 {o : Expr} {to : TE} {name : Str} {apos cpos : Pos} (ho : PE X o to) (hbase : attributeBase o name X.env (eval o X.env) = eval o X.env)
    (hline : (apos.endLine == cpos.line) = true) : PE X (.Call (.Attribute o name apos) [] [] cpos) (tBX0 X name to) := by
  refine ⟨fun pins s σ H Q I h => ?_⟩
  refine wpAny_Call_method0_late hbase hline (thn (ho.run pins s σ H _ I h) fun v s1 ⟨x, H1, I1, r1, T, r, ⟨pa, id, slot, hty, hm⟩, ty, q1⟩ => ?_)
  obtain ⟨h1, h2⟩ := tyW_is I1 r1 ty
  exact ⟨T, id, pa, slot, hty, h1, h2, Calls.callWith_builtin rfl (PySem.evalArgs_none (hm pins s1 σ H1 x [] v [] Q I1 r1 .nil q1))⟩
theorem pe_bmX {o : Expr} {to : TE} {t : TA} {name : Str} {apos cpos : Pos} (ho : PE X o to) (ha : PA X (e :: es) t) (hbase : attributeBase o name X.env (eval o X.env) = eval o X.env) (h2 : (e :: es).all noStar = true) (hl : (e :: es).length < 30)
    (hline : (apos.endLine == cpos.line) = true) : PE X (.Call (.Attribute o name apos) (e :: es) [] cpos) (tBX X name to t) := by
  have hfew : ((backTo cpos (starEach (e :: es) X.env)).all (fun x => !x.1) && (backToKw cpos (keywordEach [] X.env)).all (fun x => x.1.isSome)
      && decide ((e :: es).length + ([] : List Keyword).length + (if ([] : List Keyword).isEmpty then 0 else 1) < 30)) = true := by
    rw [backTo_few h2]
    simpa [keywordEach, backToKw] using hl
  refine ⟨fun pins s σ H Q I h => ?_⟩
  refine wpAny_Call_method_late hbase hfew hline rfl (thn (ho.run pins s σ H _ I h) fun v s1 ⟨x, H1, I1, r1, T, r, ⟨pa, id, slot, hty, hm⟩, ty, q1⟩ => ?_)
  obtain ⟨k1, k2⟩ := tyW_is I1 r1 ty
  refine ⟨T, id, pa, slot, hty, k1, k2, ?_⟩
  have hA := ha.run cpos pins s1 σ H1 _ I1 q1
  have h3 : noStar e = true ∧ es.all noStar = true := by rw [List.all_cons, Bool.and_eq_true] at h2; exact h2
  rw [starEach_cons h3.1] at hA ⊢
  refine Calls.callWith_builtin (by have := starEach_plain (env := X.env) (pos := cpos) h2; rw [starEach_cons h3.1] at this; exact this) (Calls.evalArgs_plain ?_)
  exact thn hA fun us s2 ⟨vs, H2, I2, r2, q2⟩ => hm pins s2 σ H2 x vs v us Q I2 r1 r2 q2
theorem minfo_list (hK : X.K = c.K) : ∀ m, listM m = true → MInfo X "list" (mName m) (lRl c (rML m))
  | .append, _ => ⟨PySem.F.plainAttrs_list, _, PySem.F.slot_list_append, PySem.F.type_list_append, m_append⟩
  | .pop, _ => ⟨PySem.F.plainAttrs_list, _, PySem.F.slot_list_pop, PySem.F.type_list_pop, m_pop⟩
  | .extend, _ => ⟨PySem.F.plainAttrs_list, _, PySem.F.slot_list_extend, PySem.F.type_list_extend, m_extend hK⟩
  | .insert, _ => ⟨PySem.F.plainAttrs_list, _, PySem.F.slot_list_insert, PySem.F.type_list_insert, m_insert⟩
  | .index, _ => ⟨PySem.F.plainAttrs_list, _, PySem.F.slot_list_index, PySem.F.type_list_index, m_index hK⟩
  | .remove, _ => ⟨PySem.F.plainAttrs_list, _, PySem.F.slot_list_remove, PySem.F.type_list_remove, m_remove⟩
theorem minfo_tup (hK : X.K = c.K) : MInfo X "tuple" (mName .index) (lRt c (rMT .index)) := ⟨PySem.F.plainAttrs_tuple, _, PySem.F.slot_tuple_index, PySem.F.type_tuple_index, m_tindex hK⟩
/-- what the receiver's kind gives -/
theorem meth_kind (hK : X.K = c.K) {m : MT} {A1 : AH} {H1 : Hp} {x : D} {v : V} {k : RK} (ra : RelA c A1 H1) (rx : RelD c.K H1 x v) (e : recv A1 x = some k)
    (hk : okRK k m = true) : ∃ T r, MInfo X T (mName m) r ∧ tyW X.K T v H1 ∧ ∀ H2 A2 xs ds Q Qd, Mono H1 H2 → RelA c A2 H2 → RelDs c.K H2 ds xs → rM k m x ds A2 Qd → Fol c H2 Q Qd → r v xs H2 Q := by
  cases x <;> simp only [recv] at e <;> try (cases e; done)
  · cases e; cases m <;> cases hk
  · cases e
    obtain ⟨a, vs, rfl, h, q⟩ := rx
    have em : m = .index := by
      cases m <;> first | rfl | cases hk
    subst em
    exact ⟨"tuple", _, minfo_tup hK, .inr ⟨rfl, a, vs, rfl, by rw [hK]; exact h⟩, fun H2 A2 xs ds Q Qd m2 ra2 rd r f => ⟨A2, _, ds, Qd, ra2, ⟨a, vs, rfl, m2.tup h, RelDs.mono m2 _ _ q⟩, rd, r, f⟩⟩
  · cases rx
    split at e <;> cases e
    · rename_i e1
      obtain ⟨vs, h, q⟩ := ra _ _ e1
      refine ⟨"list", _, minfo_list hK m hk, .inl (.inl ⟨rfl, vs, SqL.of h⟩), fun H2 A2 xs ds Q Qd m2 ra2 rd r f => ?_⟩
      simp only [rM] at r
      split at r
      · rename_i e2
        exact ⟨A2, _, _, ds, Qd, ra2, rfl, e2, rd, r, f⟩
      · exact r.elim
    · cases m <;> cases hk
    · cases m <;> cases hk
theorem s_mth (hK : X.K = c.K) {m : MT} {o : Expr} {eo : E} {apos cpos : Pos} (ho : PE X o (lE c (ev G eo) W)) (ha : PA X (e :: es) (lA c (evs G ees) W)) (hbase : attributeBase o (mName m) X.env (eval o X.env) = eval o X.env) (h2 : (e :: es).all noStar = true) (hl : (e :: es).length < 30)
    (hline : (apos.endLine == cpos.line) = true) : PE X (.Call (.Attribute o (mName m) apos) (e :: es) [] cpos) (lE c (ev G (.mth m eo ees)) W) := by
  refine PE.imp (pe_bmX ho ha hbase h2 hl hline) fun σ H Q h => ?_
  obtain ⟨σd, A, Xd, Qd, rs, ra, t, f, fw⟩ := h
  refine lE_go rs .refl ra fw t fun x A1 v H1 q1 m1 ra1 rx => ?_
  split at q1
  · rename_i k ek
    obtain ⟨T, r, mi, ty, go⟩ := meth_kind (X := X) hK ra1 rx ek q1.1
    exact ⟨T, r, mi, ty, lA_go rs m1 ra1 fw q1.2 fun ds A2 vs H2 q2 m2 ra2 r2 => go H2 A2 vs ds Q Qd m2 ra2 r2 q2 (f.from (m1.trans m2))⟩
  · exact q1.elim
theorem s_mth0 (hK : X.K = c.K) {m : MT} {o : Expr} {eo : E} {apos cpos : Pos} (ho : PE X o (lE c (ev G eo) W)) (hbase : attributeBase o (mName m) X.env (eval o X.env) = eval o X.env)
    (hline : (apos.endLine == cpos.line) = true) : PE X (.Call (.Attribute o (mName m) apos) [] [] cpos) (lE c (ev G (.mth m eo .nil)) W) := by
  refine PE.imp (pe_bmX0 ho hbase hline) fun σ H Q h => ?_
  obtain ⟨σd, A, Xd, Qd, rs, ra, t, f, fw⟩ := h
  refine lE_go rs .refl ra fw t fun x A1 v H1 q1 m1 ra1 rx => ?_
  split at q1
  · rename_i k ek
    obtain ⟨T, r, mi, ty, go⟩ := meth_kind (X := X) hK ra1 rx ek q1.1
    exact ⟨T, r, mi, ty, go H1 A1 [] [] Q Qd .refl ra1 rfl q1.2 (f.from m1)⟩
  · exact q1.elim

/-! ### what is walked -/
/-- the items that come, the objects that must stand meanwhile -/
def lIx (c : RC) (tup : Bool) (H0 : Hp) (J : It) (ds : List D) (Gd : Gd) : Prop := ∀ (i : Nat) H A, Mono H0 H → RelA c A H → holds Gd A →
  (∀ d, ds[i]? = some d → J.go i H ∧ ∀ x H', J.yld i H x H' → Mono H H' ∧ RelA c A H' ∧ ((tup = false ∧ RelD c.K H' d x) ∨ (tup = true ∧ ∃ es a vs, d = .tup es ∧ x = .ref a ∧ SqT c.K H' a vs ∧ RelDs c.K H' es vs))) ∧
  (ds.length ≤ i → J.stop i H)
def FolI (c : RC) (tup : Bool) (H : Hp) (R : It → Hp → Prop) (Rd : List D → Gd → AH → Prop) : Prop := ∀ ds Gd A' J H', Rd ds Gd A' → Mono H H' → RelA c A' H' → lIx c tup H' J ds Gd → R J H'
def lI (c : RC) (tup : Bool) (t : DSt → AH → Dx → (List D → Gd → AH → Prop) → Prop) (W : WX) : TI := fun σ H R => ∃ σd A Xd Rd, RelS c.K H σd σ ∧ RelA c A H ∧ t σd A Xd Rd ∧ FolI c tup H R Rd ∧ FolW c H (fun cl d H' => W cl d σ H') Xd
/-- a list or a tuple, as it comes -/
theorem pi_seq {tg l : Expr} {tl : TE} (hl : PE X l tl) : PI X tg l (fun σ H R => tl σ H fun x H1 => (∃ a, x = .ref a ∧ (∃ xs, SqL X.K H1 a xs) ∧ R (Itl X.K a) H1) ∨ (∃ a, x = .ref a ∧ (∃ xs, SqT X.K H1 a xs) ∧ R (Itt X.K a) H1)) := by
  refine ⟨fun pins s σ H R I h => ?_⟩
  refine thn (hl.run pins s σ H _ I h) fun v s1 ⟨x, H1, I1, r1, q1⟩ => ?_
  rcases q1 with ⟨a, e, ⟨xs, hq⟩, q⟩ | ⟨a, e, ⟨xs, hq⟩, q⟩
  · subst e
    cases r1
    obtain ⟨its, rv, p, hz⟩ := I1.list hq
    refine wpAny_pyIter_list p.isList ?_
    refine ⟨s1.heap.objs.size, [s1.heap.objs.size], _, _, H1, rfl, I1.kept (t' := s1.toks) fun b o e => Heap.get?_push_of_some _ e, turn_list a _, ⟨_, Heap.get?_push_size _ rfl, rfl, rfl⟩, fun b hb => ?_, q⟩
    have e : b = s1.heap.objs.size := by simpa using hb
    subst e
    exact I1.fpOk (Nat.le_refl _) (I1.hok.fresh (Nat.le_refl _))
  · subst e
    cases r1
    obtain ⟨its, rv, p, hz⟩ := I1.tuple hq
    refine wpAny_pyIter_tuple (show s1.heap.IsTuple a its.toArray from p) ?_
    refine ⟨s1.heap.objs.size, [s1.heap.objs.size], _, _, H1, rfl, I1.kept (t' := s1.toks) fun b o e => Heap.get?_push_of_some _ e, turn_tuple a _, ⟨_, Heap.get?_push_size _ rfl, rfl, rfl⟩, fun b hb => ?_, q⟩
    have e : b = s1.heap.objs.size := by simpa using hb
    subst e
    exact I1.fpOk (Nat.le_refl _) (I1.hok.fresh (Nat.le_refl _))
theorem ix_tup_ok {H : Hp} {a : Addr} {vs : List V} {ds : List D} (h : TupAt c.K H a vs) (r : RelDs c.K H ds vs) : lIx c false H (Itt c.K a) ds [] := fun i H1 A m ra _ => by
  have h1 : SqT c.K H1 a vs := (m.tup h).sqt
  refine ⟨fun d e => ?_, fun hi => ⟨vs, h1, by rw [r.length]; exact hi⟩⟩
  obtain ⟨v, hv, rv⟩ := r.get e
  refine ⟨⟨vs, v, h1, hv⟩, fun x H' ⟨e1, e2⟩ => ?_⟩
  subst e1
  have e3 := e2 vs h1
  rw [hv] at e3
  cases e3
  exact ⟨.refl, ra, .inl ⟨rfl, RelD.mono m _ _ rv⟩⟩
theorem ix_fl_ok {H : Hp} {a : Addr} {vs : List V} {ds : List D} (h : FlAt c.K H a vs) (r : RelDs c.K H ds vs) : lIx c false H (Itl c.K a) ds [] := fun i H1 A m ra _ => by
  have h1 : SqL c.K H1 a vs := (m.fl h).sql
  refine ⟨fun d e => ?_, fun hi => ⟨vs, h1, by rw [r.length]; exact hi⟩⟩
  obtain ⟨v, hv, rv⟩ := r.get e
  refine ⟨⟨vs, v, h1, hv⟩, fun x H' ⟨e1, e2⟩ => ?_⟩
  subst e1
  have e3 := e2 vs h1
  rw [hv] at e3
  cases e3
  exact ⟨.refl, ra, .inl ⟨rfl, RelD.mono m _ _ rv⟩⟩
theorem ix_lst_ok {H : Hp} {a : Addr} {ds : List D} : lIx c false H (Itl c.K a) ds [(a, .lst ds)] := fun i H1 A m ra hg => by
  have e := hg (a, .lst ds) (by simp)
  obtain ⟨vs, h1, r⟩ := ra _ _ e
  have h1 : Rd H1 a (.lst vs) := .inl h1
  refine ⟨fun d e => ?_, fun hi => ⟨vs, .inl h1, by rw [r.length]; exact hi⟩⟩
  obtain ⟨v, hv, rv⟩ := r.get e
  refine ⟨⟨vs, v, .inl h1, hv⟩, fun x H' ⟨e1, e2⟩ => ?_⟩
  subst e1
  have e3 := e2 vs (.inl h1)
  rw [hv] at e3
  cases e3
  exact ⟨.refl, ra, .inl ⟨rfl, rv⟩⟩
theorem i_seq (hK : X.K = c.K) {tg : Expr} (he : PE X e (lE c (ev G ea) W)) : PI X tg e (lI c false (evI G (.seq ea)) W) := by
  refine PI.imp (pi_seq he) fun σ H R h => ?_
  obtain ⟨σd, A, Xd, Rd, rs, ra, t, f, fw⟩ := h
  refine lE_go rs .refl ra fw t fun x A1 v H1 q1 m1 ra1 rx => ?_
  cases x <;> try exact q1.elim
  · obtain ⟨a, vs, rfl, h, q⟩ := rx
    exact .inr ⟨a, rfl, ⟨vs, by rw [hK]; exact h.sqt⟩, by rw [hK]; exact f _ _ _ _ _ q1 m1 ra1 (ix_tup_ok h q)⟩
  · cases rx
    dsimp only at q1
    split at q1
    · rename_i e1
      obtain ⟨vs, h, q⟩ := ra1 _ _ e1
      exact .inl ⟨_, rfl, ⟨vs, SqL.of h⟩, by rw [hK]; exact f _ _ _ _ _ q1 m1 ra1 ix_lst_ok⟩
    · exact q1.elim
  · obtain ⟨a, vs, rfl, h, q⟩ := rx
    exact .inl ⟨a, rfl, ⟨vs, by rw [hK]; exact h.sql⟩, by rw [hK]; exact f _ _ _ _ _ q1 m1 ra1 (ix_fl_ok h q)⟩
theorem rng_get {lo : Int} {n i : Nat} {d : D} (h : (rngD lo n)[i]? = some d) : i < n ∧ d = .int (lo + (i : Nat)) := by
  unfold rngD at h
  rw [List.getElem?_map] at h
  by_cases hi : i < n
  · rw [List.getElem?_range hi] at h
    cases h
    exact ⟨hi, rfl⟩
  · rw [List.getElem?_eq_none (by simpa using hi)] at h
    cases h
theorem ix_rng_ok {H : Hp} {lo : Int} {n : Nat} : lIx c false H (Itr lo n) (rngD lo n) [] := fun i H1 A m ra _ => by
  refine ⟨fun d e => ?_, fun hi => ?_⟩
  · obtain ⟨hi, rfl⟩ := rng_get e
    exact ⟨hi, fun x H' ⟨e1, e2⟩ => by subst e1 e2; exact ⟨.refl, ra, .inl ⟨rfl, rfl⟩⟩⟩
  · have : (rngD lo n).length = n := by simp [rngD]
    rw [this] at hi
    exact hi
theorem i_rng1 {tg : Expr} {p : Pos} (hg : Gl X "range") (hm : X.mg "range" = none) (ha : PE X a (lE c (ev G ea) W)) (hn : noStar a = true) : PI X tg (.Call (.Name "range" p) [a] [] pos) (lI c false (evI G (.rng1 ea)) W) := by
  refine PI.imp (pi_range1 hg hm (pa_cons ha pa_nil (starEach_cons hn)) (starEach_cons hn)) fun σ H R h => ?_
  obtain ⟨σd, A, Xd, Rd, rs, ra, t, f, fw⟩ := h
  refine lE_go rs .refl ra fw t fun x A1 v H1 q1 m1 ra1 rx => ?_
  cases x <;> try exact q1.elim
  cases rx
  exact ⟨_, rfl, q1.1, q1.2.1, f _ _ _ _ _ q1.2.2 m1 ra1 ix_rng_ok⟩
theorem i_rng2 {tg : Expr} {p : Pos} (hg : Gl X "range") (hm : X.mg "range" = none) (ha : PE X a (lE c (ev G ea) W)) (hb : PE X b (lE c (ev G eb) W)) (hn : noStar a = true) (hn2 : noStar b = true) : PI X tg (.Call (.Name "range" p) [a, b] [] pos) (lI c false (evI G (.rng2 ea eb)) W) := by
  refine PI.imp (pi_range2 hg hm (pa_cons ha (pa_cons hb pa_nil (starEach_cons hn2)) (starEach_cons hn)) (by rw [starEach_cons hn, starEach_cons hn2]; rfl) (starEach_cons hn2)) fun σ H R h => ?_
  obtain ⟨σd, A, Xd, Rd, rs, ra, t, f, fw⟩ := h
  refine lE_go rs .refl ra fw t fun x A1 v H1 q1 m1 ra1 rx => ?_
  refine lE_go rs m1 ra1 fw q1 fun y A2 w H2 q2 m2 ra2 ry => ?_
  cases x <;> cases y <;> try exact q2.elim
  cases rx
  cases ry
  exact ⟨_, _, rfl, q2.1, f _ _ _ _ _ q2.2 (m1.trans m2) ra2 ix_rng_ok⟩
end
end Py

namespace Py
open PySem PySem.Spec PyProof.Rows L2
section
variable {c : RC} {X : Cx} {W : WX} {G : GEnv} {a b e : Expr} {ea eb : E} {es : List Expr} {ees : Es} {pos : Pos}
/-! ### targets -/
def gNs : List (Nat × Str) → TGs
  | [] => gNil
  | p :: r => gCons (gName p.1) (gNs r)
def gOf (K : PySem.W.Frag) : Tg → TG
  | .name i _ => gName i
  | .tup xs => gTup K xs.length (gNs xs)
def Tg.ixs : Tg → List Nat
  | .name i _ => [i]
  | .tup xs => xs.map (·.1)
theorem wipe_set {σ : L2.St} {i : Nat} {v : Option V} : ∀ {vs : List Nat}, i ∈ vs → wipe (σ.set i v) vs = wipe σ vs
  | j :: vs, h => by
    show (wipe (σ.set i v) vs).set j none = (wipe σ vs).set j none
    by_cases hi : i ∈ vs
    · rw [wipe_set hi]
    · have e : i = j := by
        rcases List.mem_cons.mp h with e | e
        · exact e
        · exact absurd e hi
      subst e
      have gen : ∀ (ws : List Nat) (τ : L2.St), i ∉ ws → (wipe (τ.set i v) ws).set i none = (wipe τ ws).set i none := fun ws => by
        induction ws with
        | nil => intro τ _; show (τ.set i v).set i none = τ.set i none; rw [List.set_set]
        | cons w ws ih =>
          intro τ hw
          have h1 : i ≠ w := fun e => hw (by simp [e])
          have h2 : i ∉ ws := fun e => hw (by simp [e])
          show ((wipe (τ.set i v) ws).set w none).set i none = ((wipe τ ws).set w none).set i none
          rw [List.set_comm _ _ h1.symm, ih τ h2, List.set_comm _ _ h1]
      exact gen vs σ hi
theorem wipe_wipe {σ : L2.St} : ∀ vs : List Nat, wipe (wipe σ vs) vs = wipe σ vs := fun vs => by
  have gen : ∀ (ws : List Nat), (∀ w ∈ ws, w ∈ vs) → wipe (wipe σ ws) vs = wipe σ vs := fun ws => by
    induction ws with
    | nil => intro _; rfl
    | cons w ws ih =>
      intro h
      show wipe ((wipe σ ws).set w none) vs = wipe σ vs
      rw [wipe_set (h w (by simp)), ih fun u hu => h u (by simp [hu])]
  exact gen vs fun _ h => h
theorem gNs_go {H : Hp} : ∀ {xs : List (Nat × Str)} {ds : List D} {vs : List V} {σd : DSt} {σ : L2.St} {Q : L2.St → Hp → Prop}, ds.length = xs.length → RelDs c.K H ds vs → RelS c.K H σd σ →
    (∀ σ', RelS c.K H ((xs.zip ds).foldl (fun σ p => σ.set p.1.1 (some p.2)) σd) σ' → (∀ ws : List Nat, (∀ p ∈ xs, p.1 ∈ ws) → wipe σ' ws = wipe σ ws) → Q σ' H) → gNs xs vs σ H Q
  | [], [], _, σd, σ, Q, _, r, rs, k => by
    cases r.nil_of
    exact ⟨rfl, k σ rs fun _ _ => rfl⟩
  | p :: xs, d :: ds, _, σd, σ, Q, hl, ⟨v, w, e, h, r⟩, rs, k => by
    subst e
    refine ⟨v, w, rfl, ?_⟩
    refine gNs_go (xs := xs) (ds := ds) (by simpa using hl) r (rs.set h) fun σ' r' hw => k σ' r' fun ws hm => ?_
    rw [hw ws fun q hq => hm q (by simp [hq]), wipe_set (hm p (by simp))]
  | [], _ :: _, _, _, _, _, hl, _, _, _ => by simp at hl
  | _ :: _, [], _, _, _, _, hl, _, _, _ => by simp at hl
/-- a value comes to a target -/
theorem gOf_go {tg : Tg} {d : D} {v : V} {H : Hp} {σd : DSt} {σ : L2.St} {k : DSt → Prop} {Q : L2.St → Hp → Prop} {tup : Bool}
    (rd : (tup = false ∧ RelD c.K H d v) ∨ (tup = true ∧ ∃ es a vs, d = .tup es ∧ v = .ref a ∧ SqT c.K H a vs ∧ RelDs c.K H es vs)) (ht : tup = true → ∃ xs, tg = .tup xs) (rs : RelS c.K H σd σ) (b : bindT tg d σd k)
    (q : ∀ σd' σ', k σd' → RelS c.K H σd' σ' → (∀ ws : List Nat, (∀ i ∈ tg.ixs, i ∈ ws) → wipe σ' ws = wipe σ ws) → Q σ' H) : gOf c.K tg v σ H Q := by
  cases tg with
  | name i x =>
    rcases rd with ⟨_, rd⟩ | ⟨e, _⟩
    · exact q _ _ b (rs.set rd) fun ws hm => wipe_set (hm i (by simp [Tg.ixs]))
    · obtain ⟨xs, z⟩ := ht e
      cases z
  | tup xs =>
    obtain ⟨es, a, vs, rfl, rfl, h, r⟩ : ∃ es a vs, d = .tup es ∧ v = .ref a ∧ SqT c.K H a vs ∧ RelDs c.K H es vs := by
      rcases rd with ⟨_, rd⟩ | ⟨_, h⟩
      · cases d <;> try exact b.elim
        obtain ⟨a, vs, e, h, r⟩ := rd
        exact ⟨_, a, vs, rfl, e, h.sqt, r⟩
      · exact h
    obtain ⟨hl, b⟩ := b
    refine ⟨a, vs, rfl, h, by rw [r.length]; exact hl, ?_⟩
    exact gNs_go hl r rs fun σ' r' hw => q _ _ b r' fun ws hm => hw ws fun p hp => hm p.1 (List.mem_map.mpr ⟨p, hp, rfl⟩)
theorem names_each {env : Env} : ∀ {es : List Expr}, (∀ e ∈ es, ∃ x p, e = .Name x p) → (assignEach es env).length = es.length ∧ (assignEach es env).findIdx? (·.1) = none
  | [], _ => ⟨rfl, rfl⟩
  | e :: es, h => by
    obtain ⟨x, p, rfl⟩ := h e (by simp)
    obtain ⟨h1, h2⟩ := names_each (env := env) (es := es) fun e he => h e (by simp [he])
    have e1 : assignEach (.Name x p :: es) env = (false, assign (.Name x p) env) :: assignEach es env := rfl
    rw [e1]
    refine ⟨by simp [h1], ?_⟩
    rw [List.findIdx?_cons]
    simp [h2]
/-- where names may be stored -/
def StoreOk (X : Cx) (i : Nat) (x : Str) : Prop := X.N[i]? = some x ∧ Loc X.env.scope x ∧ (X.fn x = true ∨ X.env.scope.names.lookup x = some .local)
inductive NamesAre (X : Cx) : List (Nat × Str) → List Expr → Prop where
  | nil : NamesAre X [] []
  | cons {i : Nat} {x : Str} {p : Pos} {xs : List (Nat × Str)} {es : List Expr} (h : StoreOk X i x) (r : NamesAre X xs es) : NamesAre X ((i, x) :: xs) (.Name x p :: es)
theorem NamesAre.pgs (hN : X.N.Nodup) : ∀ {xs : List (Nat × Str)} {es : List Expr}, NamesAre X xs es → PGs X es (gNs xs)
  | _, _, .nil => pgs_nil
  | _, _, .cons h r => pgs_cons (pg_name hN h.1 h.2.1 h.2.2) (NamesAre.pgs hN r) rfl
theorem NamesAre.names : ∀ {xs : List (Nat × Str)} {es : List Expr}, NamesAre X xs es → (∀ e ∈ es, ∃ x p, e = .Name x p) ∧ es.length = xs.length
  | _, _, .nil => ⟨by simp, rfl⟩
  | _, _, .cons h r => by
    obtain ⟨h1, h2⟩ := NamesAre.names r
    exact ⟨fun e he => (List.mem_cons.mp he).elim (fun z => ⟨_, _, z⟩) (h1 e), by simp [h2]⟩
inductive TgIs (X : Cx) : Tg → Expr → Prop where
  | name {i : Nat} {x : Str} {p : Pos} (h : StoreOk X i x) : TgIs X (.name i x) (.Name x p)
  | tup {xs : List (Nat × Str)} {es : List Expr} {k : Nat} {p : Pos} (h : NamesAre X xs es) : TgIs X (.tup xs) (.Tuple es k p)
theorem TgIs.pg (hc : X.calm = true) (hN : X.N.Nodup) {tg : Tg} {e : Expr} (h : TgIs X tg e) : PG X e (gOf X.K tg) := by
  cases h with
  | name h => exact pg_name hN h.1 h.2.1 h.2.2
  | tup h =>
    obtain ⟨h1, h2⟩ := h.names
    obtain ⟨h3, h4⟩ := names_each (env := X.env) h1
    exact pg_tup hc (h.pgs hN) (by rw [h3, h2]) h4

theorem RelA.lst {A : AH} {H : Hp} {a : Addr} {ds : List D} {vs : List V} (r : RelA c A H) (m : Mono H (L2.upd H a (.lst vs))) (h : RelDs c.K (L2.upd H a (.lst vs)) ds vs) : RelA c (Py.put A a (.lst ds)) (L2.upd H a (.lst vs)) := r.put m ⟨vs, upd_same, h⟩
/-! ### list comprehensions -/
def notSet : Expr → Bool
  | .Set .. => false
  | _ => true
theorem noFold {env : Env} (h : notSet e = true) (x : Value) : foldedSetIterable e env x = pure x := by
  cases e <;> first | rfl | cases h
theorem pts_of {X : Cx} {cs : List Expr} {ecs : Es} (h : (cs = [] ∧ ecs = .nil) ∨ ∃ e ec, cs = [e] ∧ ecs = .cons ec .nil ∧ PT X e (lT c (evT G ec) W)) : PTs X cs (lT c (evC G ecs) W) := by
  rcases h with ⟨rfl, rfl⟩ | ⟨e, ec, rfl, rfl, h⟩
  · refine ⟨fun pins s σ H Q I q => pts_nil.run pins s σ H Q I ?_⟩
    obtain ⟨σd, A, Xd, Qd, rs, ra, t, f, fw⟩ := q
    exact f true A H t .refl ra
  · exact ⟨fun pins s σ H Q I q => (pts_one h).run pins s σ H Q I q⟩
def noW : WX := fun _ _ _ _ => False
theorem noW_fol {H : Hp} {σ : L2.St} : FolW c H (fun cl d H' => noW cl d σ H') noX := fun n A' C H' h _ _ _ => h.elim
theorem lc_lift (hK : X.K = c.K) {tg : Tg} {it : I} {elt : E} {cs : Es} {own : List (Str × Nat)} {tup : Bool} (ht : tup = true → ∃ xs, tg = .tup xs) (hown : ∀ i ∈ tg.ixs, i ∈ own.map (·.2)) {σ : L2.St} {H : Hp} {Q : VK} (h : lE c (ev G (.lc elt tg it cs own)) W σ H Q) :
    tLc (lI c tup (evI G it) W) (gOf X.K tg) (lT c (evC G cs) noW) (lE c (ev G elt) noW) (own.map (·.2)) σ H Q := by
  obtain ⟨σd, A, Xd, Qd, rs, ra, t, f, fw⟩ := h
  refine ⟨σd, A, Xd, _, rs, ra, t, fun ds Gd A1 J H1 q1 m1 ra1 ix L hL => ?_, fw⟩
  have q2 := q1 L (RelA_none ra1 hL)
  have mL := Mono.fresh (o := .lst []) hL
  refine ⟨fun i m H2 => m = ds.length - i ∧ i ≤ ds.length ∧ ∃ A2, Mono H1 H2 ∧ RelA c A2 H2 ∧ lcR Gd tg (fun σ' A' R => evC G cs σ' A' noX R) (fun σ' A' R => (ev2 G elt).1 σ' A' noX R) (wipeD σd own) L (fun A2 => Qd (.ref L) A2) (ds.drop i) A2,
    ⟨ds.length, by simp, Nat.zero_le _, _, mL, RelA.lst (ds := []) ra1 mL rfl, q2⟩, ?_⟩
  rintro i m H2 ⟨rfl, hi, A2, m2, ra2, q⟩
  by_cases hlt : i < ds.length
  · obtain ⟨d, ed⟩ : ∃ d, ds[i]? = some d := ⟨_, List.getElem?_eq_getElem hlt⟩
    have e1 : ds.drop i = d :: ds.drop (i + 1) := by
      rw [List.drop_eq_getElem_cons hlt]
      rw [List.getElem?_eq_getElem hlt] at ed
      cases ed
      rfl
    rw [e1, lcR_cons] at q
    obtain ⟨hg, q⟩ := q
    obtain ⟨go, yl⟩ := (ix i H2 A2 m2 ra2 hg).1 d ed
    refine .inr ⟨go, fun H' => ∃ A2, Mono H1 H' ∧ RelA c A2 H' ∧ lcR Gd tg (fun σ' A' R => evC G cs σ' A' noX R) (fun σ' A' R => (ev2 G elt).1 σ' A' noX R) (wipeD σd own) L (fun A2 => Qd (.ref L) A2) (ds.drop (i + 1)) A2,
      fun H' p => ⟨ds.length - (i + 1), by omega, rfl, hlt, p⟩, fun x H3 y => ?_⟩
    obtain ⟨m3, ra3, rd⟩ := yl x H3 y
    have m13 := m1.trans (m2.trans m3)
    rw [hK]
    refine gOf_go rd ht ((rs.mono m13).wipe own) q fun σd' σ' k r' hw => ⟨?_, ?_⟩
    · rw [hw _ hown, wipe_wipe]
    · refine ⟨σd', A2, noX, _, r', ra3, k, fun bb A4 H4 q4 m4 ra4 => ?_, noW_fol⟩
      cases bb with
      | true =>
        rw [if_pos rfl]
        refine ⟨σd', A4, noX, _, r'.mono m4, ra4, q4, fun y A5 w H5 q5 m5 ra5 rw' => ?_, noW_fol⟩
        dsimp only at q5
        split at q5
        · rename_i acc e5
          obtain ⟨ws, h5, r5⟩ := ra5 _ _ e5
          have m6 := Mono.lst (o := .lst (ws ++ [w])) h5
          refine ⟨ws, h5, by rw [r5.length]; exact q5.1, _, ((((m2.trans m3).trans m4).trans m5).trans m6), RelA.lst ra5 m6 ((r5.app (.one rw')).mono m6), q5.2⟩
        · exact q5.elim
      | false =>
        rw [if_neg Bool.false_ne_true]
        exact ⟨A4, (m2.trans m3).trans m4, ra4, q4⟩
  · have e1 : i = ds.length := by omega
    subst e1
    rw [List.drop_length, lcR_nil] at q
    exact .inl ⟨(ix _ H2 A2 m2 ra2 q.1).2 (Nat.le_refl _), f (.ref L) A2 _ H2 q.2 (m1.trans m2) ra2 rfl⟩
theorem s_lc (hK : X.K = c.K) (hc : X.calm = true) (hN : X.N.Nodup) {tg iter elt : Expr} {cs : List Expr} {scope : Scope} {etg : Tg} {eit : I} {eelt : E} {ecs : Es} {own : List (Str × Nat)} {tup : Bool} (ht : tup = true → ∃ xs, etg = .tup xs) (hown : ∀ i ∈ etg.ixs, i ∈ own.map (·.2))
    (hi : PI X tg iter (lI c tup (evI G eit) W)) (ok : BlkOk X.N X.env.scope scope own)
    (hg : ∀ (s : Shared) (H : Hp) (C : Addr) (cl : List (Str × Addr)) (fp : List Addr), TgIs (X.blk s H scope (compEnvC scope cl C X.env) fp) etg tg)
    (hcs : ∀ (s : Shared) (H : Hp) (C : Addr) (cl : List (Str × Addr)) (fp : List Addr), PTs (X.blk s H scope (compEnvC scope cl C X.env) fp) cs (lT c (evC G ecs) noW))
    (he : ∀ (s : Shared) (H : Hp) (C : Addr) (cl : List (Str × Addr)) (fp : List Addr), PE (X.blk s H scope (compEnvC scope cl C X.env) fp) elt (lE c (ev G eelt) noW)) (hs : notSet iter = true) :
    PE X (.ListComp elt [⟨tg, iter, cs, 0⟩] scope pos) (lE c (ev G (.lc eelt etg eit ecs own)) W) :=
  PE.imp (pe_lc hc hN hi ok (fun s H C cl fp => TgIs.pg (X := X.blk s H scope (compEnvC scope cl C X.env) fp) hc hN (hg s H C cl fp)) hcs he (noFold hs)) fun _ _ _ h => lc_lift hK ht hown h
/-- name = [..] on one line -/
theorem s_setLc (hK : X.K = c.K) (hc : X.calm = true) (hN : X.N.Nodup) {i : Nat} {y : Str} {py spos : Pos} (hy : X.N[i]? = some y) (hyl : X.env.scope.names.lookup y = some .local) {tg iter elt : Expr} {cs : List Expr} {scope : Scope} {etg : Tg} {eit : I} {eelt : E} {ecs : Es} {own : List (Str × Nat)} {tup : Bool}
    (hsw : swapsWith (.ListComp elt [⟨tg, iter, cs, 0⟩] scope pos) (some (.Name y py)) spos.line X.env = pure true) (ht : tup = true → ∃ xs, etg = .tup xs) (hown : ∀ i ∈ etg.ixs, i ∈ own.map (·.2))
    (hi : PI X tg iter (lI c tup (evI G eit) W)) (ok : BlkOk X.N X.env.scope scope own)
    (hg : ∀ (s : Shared) (H : Hp) (C : Addr) (cl : List (Str × Addr)) (fp : List Addr), TgIs (X.blk s H scope (compEnvC scope cl C X.env) fp) etg tg)
    (hcs : ∀ (s : Shared) (H : Hp) (C : Addr) (cl : List (Str × Addr)) (fp : List Addr), PTs (X.blk s H scope (compEnvC scope cl C X.env) fp) cs (lT c (evC G ecs) noW))
    (he : ∀ (s : Shared) (H : Hp) (C : Addr) (cl : List (Str × Addr)) (fp : List Addr), PE (X.blk s H scope (compEnvC scope cl C X.env) fp) elt (lE c (ev G eelt) noW)) (hs : notSet iter = true) :
    PS X (.Assign [.Name y py] (.ListComp elt [⟨tg, iter, cs, 0⟩] scope pos) spos) (tAsg (lE c (ev G (.lc eelt etg eit ecs own)) W) (gName i)) :=
  PS.imp (ps_setLc hc hN hy hyl hsw hi ok (fun s H C cl fp => TgIs.pg (X := X.blk s H scope (compEnvC scope cl C X.env) fp) hc hN (hg s H C cl fp)) hcs he (noFold hs)) fun _ _ _ h => lc_lift hK ht hown h

/-! ### list(range ..), tuple(range ..) -/
theorem rg_rel {K : PySem.W.Frag} {H : Hp} {lo : Int} {n : Nat} : RelDs K H (rngD lo n) ((List.range n).map fun i => V.int (lo + (i : Nat))) := by
  refine RelDs.mk (by simp [rngD]) fun i d v e1 e2 => ?_
  obtain ⟨hi, rfl⟩ := rng_get e1
  rw [List.getElem?_map, List.getElem?_range hi] at e2
  cases e2
  rfl
/-! ### statements -/
def FolS (c : RC) (H : Hp) (Q : L2.St → Hp → Prop) (Qd : DSt → AH → Prop) : Prop := ∀ σd A' σ' H', Qd σd A' → Mono H H' → RelA c A' H' → RelS c.K H' σd σ' → Q σ' H'
def FolE (c : RC) (H : Hp) (W : WX) (Xd : DSt → Str → AH → Prop) : Prop := ∀ σd n A' C σ' H', Xd σd n A' → c.cl n = some C → Mono H H' → RelA c A' H' → RelS c.K H' σd σ' → W (.ref C) none σ' H'
def lS (c : RC) (t : DEnds → DSt → AH → Prop) (W : WX) : TS := fun D σ H => ∃ σd A Z, RelS c.K H σd σ ∧ RelA c A H ∧ t Z σd A ∧ FolS c H D.nx Z.nx ∧ Fol c H D.rt Z.rt ∧ FolS c H D.bk Z.bk ∧ FolS c H D.ct Z.ct ∧ FolE c H W Z.ex
theorem FolS.from {H H1 : Hp} {Q : L2.St → Hp → Prop} {Qd : DSt → AH → Prop} (f : FolS c H Q Qd) (m : Mono H H1) : FolS c H1 Q Qd := fun d A v H' q m' ra r => f d A v H' q (m.trans m') ra r
theorem FolE.from {H H1 : Hp} {Xd : DSt → Str → AH → Prop} (f : FolE c H W Xd) (m : Mono H H1) : FolE c H1 W Xd := fun d n A C v H' q cl m' ra r => f d n A C v H' q cl (m.trans m') ra r
theorem FolE.at {H : Hp} {Xd : DSt → Str → AH → Prop} {σd : DSt} {σ : L2.St} (f : FolE c H W Xd) (rs : RelS c.K H σd σ) : FolW c H (fun cl d H' => W cl d σ H') (Xd σd) := fun n A C H' q cl m ra => f σd n A C σ H' q cl m ra (rs.mono m)
theorem st_asg {i : Nat} {x : Str} {p : Pos} (hN : X.N.Nodup) (h : StoreOk X i x) (he : PE X e (lE c (ev G ea) W)) (hs : swapsWith e (some (.Name x p)) pos.line X.env = pure false) : PS X (.Assign [.Name x p] e pos) (lS c (evS G (.asg i x ea)) W) := by
  refine PS.imp (ps_set (i := i) hN h.1 h.2.1 he hs h.2.2) fun D σ H h => ?_
  obtain ⟨σd, A, Z, rs, ra, t, n, r, b, k, fe⟩ := h
  exact lE_go rs .refl ra (fe.at rs) t fun d A1 v H1 q1 m1 ra1 rd => n _ _ _ _ q1 m1 ra1 ((rs.mono m1).set rd)
/-- the same where the list comes by a comprehension -/
theorem st_asgLc {i : Nat} {x : Str} {s : Stmt} (h : PS X s (tAsg (lE c (ev G ea) W) (gName i))) : PS X s (lS c (evS G (.asg i x ea)) W) := by
  refine PS.imp h fun D σ H h => ?_
  obtain ⟨σd, A, Z, rs, ra, t, n, r, b, k, fe⟩ := h
  exact lE_go rs .refl ra (fe.at rs) t fun d A1 v H1 q1 m1 ra1 rd => n _ _ _ _ q1 m1 ra1 ((rs.mono m1).set rd)
theorem st_exp (he : PE X e (lE c (ev G ea) W)) (hs : swapsWith e none pos.line X.env = pure false) : PS X (.Expr e pos) (lS c (evS G (.exp ea)) W) := by
  refine PS.imp (ps_expr he hs) fun D σ H h => ?_
  obtain ⟨σd, A, Z, rs, ra, t, n, r, b, k, fe⟩ := h
  exact lE_go rs .refl ra (fe.at rs) t fun d A1 v H1 q1 m1 ra1 rd => n _ _ _ _ q1 m1 ra1 (rs.mono m1)
theorem st_ret (he : PE X e (lE c (ev G ea) W)) : PS X (.Return (some e) pos) (lS c (evS G (.ret ea)) W) := by
  refine PS.imp (ps_ret he) fun D σ H h => ?_
  obtain ⟨σd, A, Z, rs, ra, t, n, r, b, k, fe⟩ := h
  exact lE_go rs .refl ra (fe.at rs) t r
theorem st_ret0 : PS X (.Return none pos) (lS c (evS G .ret0) W) := by
  refine PS.imp ps_retN fun D σ H h => ?_
  obtain ⟨σd, A, Z, rs, ra, t, n, r, b, k, fe⟩ := h
  exact r.here t ra rfl
theorem st_pass : PS X (.Pass pos) (lS c (evS G .pass) W) := by
  refine PS.imp ps_pass fun D σ H h => ?_
  obtain ⟨σd, A, Z, rs, ra, t, n, r, b, k, fe⟩ := h
  exact n _ _ _ _ t .refl ra rs
theorem st_brk : PS X (.Break pos) (lS c (evS G .brk) W) := by
  refine PS.imp ps_break fun D σ H h => ?_
  obtain ⟨σd, A, Z, rs, ra, t, n, r, b, k, fe⟩ := h
  exact b _ _ _ _ t .refl ra rs
theorem st_cnt : PS X (.Continue pos) (lS c (evS G .cnt) W) := by
  refine PS.imp ps_continue fun D σ H h => ?_
  obtain ⟨σd, A, Z, rs, ra, t, n, r, b, k, fe⟩ := h
  exact k _ _ _ _ t .refl ra rs
theorem lS_go {t : DEnds → DSt → AH → Prop} {D : Ends} {σ : L2.St} {H H1 : Hp} {σd : DSt} {A : AH} {Z : DEnds} (rs : RelS c.K H1 σd σ) (m : Mono H H1) (ra : RelA c A H1) (h : t Z σd A) (n : FolS c H1 D.nx Z.nx) (r : Fol c H1 D.rt Z.rt) (b : FolS c H1 D.bk Z.bk) (k : FolS c H1 D.ct Z.ct) (fe : FolE c H1 W Z.ex) : lS c t W D σ H1 :=
  ⟨σd, A, Z, rs, ra, h, n, r, b, k, fe⟩
theorem ss_nil : PSs X [] (lS c (evSs G .nil) W) := by
  refine PSs.imp pss_nil fun D σ H h => ?_
  obtain ⟨σd, A, Z, rs, ra, t, n, r, b, k, fe⟩ := h
  exact n _ _ _ _ t .refl ra rs
theorem ss_cons {s : Stmt} {ss : List Stmt} {es : S} {ess : Ss} (h1 : PS X s (lS c (evS G es) W)) (h2 : PSs X ss (lS c (evSs G ess) W)) : PSs X (s :: ss) (lS c (evSs G (.cons es ess)) W) := by
  refine PSs.imp (pss_cons h1 h2) fun D σ H h => ?_
  obtain ⟨σd, A, Z, rs, ra, t, n, r, b, k, fe⟩ := h
  refine ⟨σd, A, _, rs, ra, t, fun σd' A' σ' H' q m ra' rs' => ?_, r, b, k, fe⟩
  exact ⟨σd', A', Z, rs', ra', q, n.from m, r.from m, b.from m, k.from m, fe.from m⟩
theorem st_if {d : Expr} {ed : E} {aa bb : List Stmt} {ea eb : Ss} (hd : PT X d (lT c (evT G ed) W)) (ha : PSs X aa (lS c (evSs G ea) W)) (hb : PSs X bb (lS c (evSs G eb) W)) : PS X (.If d aa bb pos) (lS c (evS G (.if_ ed ea eb)) W) := by
  refine PS.imp (ps_if hd ha hb) fun D σ H h => ?_
  obtain ⟨σd, A, Z, rs, ra, t, n, r, b, k, fe⟩ := h
  refine lT_go rs .refl ra (fe.at rs) t fun bt A1 H1 q1 m1 ra1 => ?_
  cases bt with
  | true => exact ⟨σd, A1, Z, rs.mono m1, ra1, q1, n.from m1, r.from m1, b.from m1, k.from m1, fe.from m1⟩
  | false => exact ⟨σd, A1, Z, rs.mono m1, ra1, q1, n.from m1, r.from m1, b.from m1, k.from m1, fe.from m1⟩
theorem st_whl {d : Expr} {ed : E} {bb : List Stmt} {eb : Ss} (hp : PassesOwn (model X.prog X.w) X.A X.env X.xe) (hd : PT X d (lT c (evT G ed) W)) (hb : PSs X bb (lS c (evSs G eb) W)) : PS X (.While d bb [] pos) (lS c (evS G (.whl ed eb)) W) := by
  refine PS.imp (ps_while hp hd hb) fun D σ H h => ?_
  obtain ⟨σd, A, Z, rs, ra, ⟨n0, t⟩, n, r, b, k, fe⟩ := h
  refine ⟨fun m σ1 H1 => ∃ σd1 A1, Mono H H1 ∧ RelS c.K H1 σd1 σ1 ∧ RelA c A1 H1 ∧ whlR (fun σ A X Q => evT G ed σ A X Q) (fun Z σ A => evSs G eb Z σ A) Z m σd1 A1, ⟨n0, σd, A, .refl, rs, ra, t⟩, ?_⟩
  rintro m σ1 H1 ⟨σd1, A1, m1, rs1, ra1, t1⟩
  cases m with
  | zero =>
    rw [whlR_zero] at t1
    exact t1.elim
  | succ m =>
    rw [whlR_succ] at t1
    refine lT_go rs1 .refl ra1 ((fe.from m1).at rs1) t1 fun bt A2 H2 q2 m2 ra2 => ?_
    cases bt with
    | true =>
      rw [if_pos rfl]
      refine ⟨fun σ3 H3 => ∃ σd1 A1, Mono H H3 ∧ RelS c.K H3 σd1 σ3 ∧ RelA c A1 H3 ∧ whlR (fun σ A X Q => evT G ed σ A X Q) (fun Z σ A => evSs G eb Z σ A) Z m σd1 A1, fun σ3 H3 q => ⟨m, Nat.lt_succ_self _, q⟩, ?_⟩
      have m12 := m1.trans m2
      exact ⟨σd1, A2, _, rs1.mono m2, ra2, q2, fun σd3 A3 σ3 H3 q3 m3 ra3 rs3 => ⟨σd3, A3, m12.trans m3, rs3, ra3, q3⟩, r.from m12, n.from m12, fun σd3 A3 σ3 H3 q3 m3 ra3 rs3 => ⟨σd3, A3, m12.trans m3, rs3, ra3, q3⟩, fe.from m12⟩
    | false =>
      rw [if_neg Bool.false_ne_true]
      exact n _ _ _ _ q2 (m1.trans m2) ra2 (rs1.mono m2)
theorem st_for (hK : X.K = c.K) (hc : X.calm = true) (hN : X.N.Nodup) {tg iter : Expr} {bb : List Stmt} {etg : Tg} {eit : I} {eb : Ss} {tup : Bool} (ht : tup = true → ∃ xs, etg = .tup xs) (hp : PassesOwn (model X.prog X.w) X.A X.env X.xe) (hi : PI X tg iter (lI c tup (evI G eit) W)) (hg : TgIs X etg tg) (hb : PSs X bb (lS c (evSs G eb) W)) (hs : notSet iter = true) :
    PS X (.For tg iter bb [] pos) (lS c (evS G (.for_ etg eit eb)) W) := by
  refine PS.imp (ps_for hp hc hi (hg.pg hc hN) hb (noFold hs)) fun D σ H h => ?_
  obtain ⟨σd, A, Z, rs, ra, t, n, r, b, k, fe⟩ := h
  refine ⟨σd, A, _, _, rs, ra, t, fun ds Gd A1 J H1 q1 m1 ra1 ix => ?_, fe.at rs⟩
  refine ⟨fun i m σ2 H2 => m = ds.length - i ∧ i ≤ ds.length ∧ ∃ σd2 A2, Mono H1 H2 ∧ RelS c.K H2 σd2 σ2 ∧ RelA c A2 H2 ∧ forR Gd etg (fun Z σ A => evSs G eb Z σ A) Z (ds.drop i) σd2 A2,
    ⟨ds.length, by simp, Nat.zero_le _, σd, A1, .refl, rs.mono m1, ra1, q1⟩, ?_⟩
  rintro i m σ2 H2 ⟨rfl, hi, σd2, A2, m2, rs2, ra2, q⟩
  by_cases hlt : i < ds.length
  · obtain ⟨d, ed⟩ : ∃ d, ds[i]? = some d := ⟨_, List.getElem?_eq_getElem hlt⟩
    have e1 : ds.drop i = d :: ds.drop (i + 1) := by
      rw [List.drop_eq_getElem_cons hlt]
      rw [List.getElem?_eq_getElem hlt] at ed
      cases ed
      rfl
    rw [e1, forR_cons] at q
    obtain ⟨hg', q⟩ := q
    obtain ⟨go, yl⟩ := (ix i H2 A2 m2 ra2 hg').1 d ed
    refine .inr ⟨go, fun σ3 H3 => ∃ σd2 A2, Mono H1 H3 ∧ RelS c.K H3 σd2 σ3 ∧ RelA c A2 H3 ∧ forR Gd etg (fun Z σ A => evSs G eb Z σ A) Z (ds.drop (i + 1)) σd2 A2,
      fun σ3 H3 p => ⟨ds.length - (i + 1), by omega, rfl, hlt, p⟩, fun x H3 y => ?_⟩
    obtain ⟨m3, ra3, rd⟩ := yl x H3 y
    have m13 := m1.trans (m2.trans m3)
    rw [hK]
    refine gOf_go rd ht (rs2.mono m3) q fun σd' σ' k' r' hw => ?_
    exact ⟨σd', A2, _, r', ra3, k', fun σd4 A4 σ4 H4 q4 m4 ra4 rs4 => ⟨σd4, A4, (m2.trans m3).trans m4, rs4, ra4, q4⟩, r.from m13, n.from m13, fun σd4 A4 σ4 H4 q4 m4 ra4 rs4 => ⟨σd4, A4, (m2.trans m3).trans m4, rs4, ra4, q4⟩, fe.from m13⟩
  · have e1 : i = ds.length := by omega
    subst e1
    rw [List.drop_length, forR_nil] at q
    exact .inl ⟨(ix _ H2 A2 m2 ra2 q.1).2 (Nat.le_refl _), n _ _ _ _ q.2 (m1.trans m2) ra2 rs2⟩
theorem st_raise (hc : X.calm = true) (tk : Takes X W) {x m : Str} {j : Nat} {p p2 pos' : Pos} {C : Addr} {bmB : List Value} {B newId initId : String} (F : ExcBaseFacts B newId initId bmB) (q : PySem.W.excIn X.K C bmB newId = true) (gC : X.mg x = some (.ref C)) (kC : PySem.W.keepIn X.K (.ref C) = true) (r : Raises X (.ref C)) (hg : Gl X x)
    (hdb : (x == ("__debug__" : Str)) = false) (hcl : c.cl x = some C) : PS X (.Raise (some (.Call (.Name x p) [.Constant (.str m) j p2] [] pos')) none pos) (lS c (evS G (.raise x)) W) := by
  refine PS.imp (ps_raise hc tk (pmk_own F q gC kC r hg hdb)) fun D σ H h => ?_
  obtain ⟨σd, A, Z, rs, ra, t, n, r, b, k, fe⟩ := h
  exact fe _ _ _ _ _ _ t hcl .refl ra rs
end
end Py

namespace Py
open PySem PySem.Spec PyProof.Rows L2
theorem noI_tuple_add : typeLookup (.type "tuple") (dunderI "add") = pure none := by rw [typeLookup_type, builtinLookup_eq_fast]; kernel_rfl
section
variable {c : RC} {X : Cx} {W : WX} {G : GEnv} {a b e : Expr} {ea eb : E} {es : List Expr} {ees : Es} {pos : Pos}
open HT in
theorem iop_catN : OpR X (inplaceOp .Add) (rCatN X.K) := by
  intro pins s σ H x y v u Q I rx ry h
  obtain ⟨a, b, xs, ys, rfl, rfl, ha, hb, hz, q0, q1, q2⟩ := h
  cases rx
  cases ry
  obtain ⟨its, r1, p1, _⟩ := I.tuple ha
  obtain ⟨its2, r2, p2, _⟩ := I.tuple hb
  have hl1 := r1.length
  have hl2 := r2.length
  obtain ⟨⟨cls, dd, data, sl⟩, ho, hc, n, hd⟩ := id p1
  obtain ⟨⟨cls2, dd2, data2, sl2⟩, ho2, hc2, n2, hd2⟩ := id p2
  simp only at hc hd hc2 hd2
  subst hc hd hc2 hd2
  refine wpAny_inplaceOp_concat ⟨_, ho, rfl⟩ ⟨_, ho2, rfl⟩ noI_tuple_add noFill_tuple_add seq_tuple_add ?_
  by_cases hx : its = []
  · subst hx
    have hx' : xs = [] := by cases r1; rfl
    exact call_meets PySem.F.slot_tuple_add ⟨_, ho, rfl⟩ PySem.F.entry_tuple_add (PySem.F.args_tuple_add_2 _ _)
      (tuple_addW0 a b ([] : List Value).toArray its2.toArray n n2 dd dd2 sl sl2 (by simp)) ⟨ho, ho2, .ref b, H, I, rfl, q0 hx'⟩
  · have hx' : xs ≠ [] := fun z => hx (r1.nil_iff.mpr z)
    have e : its.toArray ++ its2.toArray = (its ++ its2).toArray := by simp
    by_cases hw : its2 = []
    · exact call_meets PySem.F.slot_tuple_add ⟨_, ho, rfl⟩ PySem.F.entry_tuple_add (PySem.F.args_tuple_add_2 _ _)
        (tuple_addW1 a b its.toArray its2.toArray n n2 dd dd2 sl sl2 (by simpa using hx) (by simp [hw])) ⟨ho, ho2, .ref a, H, I, rfl, q1 hx' (r2.nil_iff.mp hw)⟩
    · refine call_meets PySem.F.slot_tuple_add ⟨_, ho, rfl⟩ PySem.F.entry_tuple_add (PySem.F.args_tuple_add_2 _ _)
        (tuple_addW2 a b its.toArray its2.toArray n n2 dd dd2 sl sl2 (by simpa using hx) (by simpa using hw) (by rw [List.size_toArray, List.size_toArray]; omega)) ⟨ho, ho2, ?_⟩
      rw [e]
      exact laidT (h := s.heap) (t := s.toks) I (r1.append r2) (by rw [List.length_append]; exact hz) (q2 hx' fun z => hw (r2.nil_iff.mpr z))
/-- what += and its like may be on: no lists -/
def augOk (o : BOp) : Bool := match o with | .pow => false | _ => true
theorem i_add (hK : X.K = c.K) : OpR X (inplaceOp .Add) (lR2 c (rAug .add)) := by
  refine OpR.imp (iop_add.or (iop_add_str.or iop_catN)) fun x y H Q h => ?_
  obtain ⟨A, dx, dy, Qd, ra, rx, ry, r, f⟩ := h
  cases dx <;> cases dy <;> try exact r.elim
  · exact .inl ⟨_, _, rx, ry, f.here r ra rfl⟩
  · exact .inr (.inl ⟨_, _, rx, ry, r.1, f.here r.2 ra rfl⟩)
  · rename_i xs ys
    obtain ⟨a, vs, rfl, h1, r1⟩ := rx
    obtain ⟨b, ws, rfl, h2, r2⟩ := ry
    refine .inr (.inr ⟨a, b, vs, ws, rfl, rfl, by rw [hK]; exact h1.sqt, by rw [hK]; exact h2.sqt, by rw [r1.length, r2.length]; exact r.1, fun e => ?_, fun e1 e2 => ?_, fun e1 e2 => ?_⟩)
    · subst e
      have e1 : xs = [] := by have := r1.length; exact List.length_eq_zero_iff.mp (by simpa using this.symm)
      subst e1
      exact f.here (d := .tup ([] ++ ys)) r.2 ra ⟨b, ws, rfl, h2, r2⟩
    · subst e2
      have e3 : ys = [] := by have := r2.length; exact List.length_eq_zero_iff.mp (by simpa using this.symm)
      subst e3
      exact f.here (d := .tup (xs ++ [])) r.2 ra ⟨a, vs, rfl, h1, by rw [List.append_nil]; exact r1⟩
    · exact f.tup r.2 ra (r1.app r2)
theorem iop_mulW : OpR X (inplaceOp .Mult) (rI CMulW fun i j => .int (i * j)) := opI fun _ _ _ _ _ _ _ hc q => imul_int q hc.ok
theorem iop_fdivW : OpR X (inplaceOp .FloorDiv) (rI CDivW fun i j => .int (i / j)) := opI fun i j _ _ _ _ _ hc q => by
  have h1 : (0 : Int) < j := hc.1
  exact ifloordiv_int (by omega) (by rw [Int.fdiv_eq_ediv_of_nonneg i (by omega)]; exact q) (.inl (PyProof.noPylong_of_log2 hc.2))
theorem i_sub : OpR X (inplaceOp .Sub) (lR2 c (rAug .sub)) := by
  refine OpR.imp iop_sub fun x y H Q h => ?_
  obtain ⟨A, dx, dy, Qd, ra, rx, ry, r, f⟩ := h
  cases dx <;> cases dy <;> try exact r.elim
  exact ⟨_, _, rx, ry, f.here r ra rfl⟩
theorem i_mul : OpR X (inplaceOp .Mult) (lR2 c (rAug .mul)) := by
  refine OpR.imp iop_mulW fun x y H Q h => ?_
  obtain ⟨A, dx, dy, Qd, ra, rx, ry, r, f⟩ := h
  cases dx <;> cases dy <;> try exact r.elim
  exact ⟨_, _, rx, ry, r.1, f.here r.2 ra rfl⟩
theorem i_fdiv : OpR X (inplaceOp .FloorDiv) (lR2 c (rAug .fdiv)) := by
  refine OpR.imp iop_fdivW fun x y H Q h => ?_
  obtain ⟨A, dx, dy, Qd, ra, rx, ry, r, f⟩ := h
  cases dx <;> cases dy <;> try exact r.elim
  exact ⟨_, _, rx, ry, r.1, f.here r.2 ra rfl⟩
theorem i_mod : OpR X (inplaceOp .Mod) (lR2 c (rAug .mod)) := by
  refine OpR.imp iop_mod fun x y H Q h => ?_
  obtain ⟨A, dx, dy, Qd, ra, rx, ry, r, f⟩ := h
  cases dx <;> cases dy <;> try exact r.elim
  exact ⟨_, _, rx, ry, r.1, f.here r.2 ra rfl⟩
theorem i_op (hK : X.K = c.K) : ∀ o : BOp, augOk o = true → OpR X (inplaceOp (bopOp o)) (lR2 c (rAug o))
  | .add, _ => i_add hK | .sub, _ => i_sub | .mul, _ => i_mul | .fdiv, _ => i_fdiv | .mod, _ => i_mod
theorem st_aug (hK : X.K = c.K) {o : BOp} {i : Nat} {x : Str} {p : Pos} (hN : X.N.Nodup) (h : StoreOk X i x) (ho : augOk o = true) (he : PE X e (lE c (ev G ea) W)) : PS X (.AugAssign (.Name x p) (bopOp o) e pos) (lS c (evS G (.aug i x o ea)) W) := by
  refine PS.imp (ps_aug (i := i) hN h.1 h.2.1 he (ti := lR2 c (rAug o)) (i_op hK o ho) h.2.2) fun D σ H h => ?_
  obtain ⟨σd, A, Z, rs, ra, t, n, r, b, k, fe⟩ := h
  simp only [evS] at t
  split at t
  · rename_i d e1
    obtain ⟨v, ev, rv⟩ := rs.2 i d e1
    refine ⟨v, ev, ?_⟩
    refine lE_go rs .refl ra (fe.at rs) t fun y A1 w H1 q1 m1 ra1 ry => ?_
    refine ⟨A1, d, y, _, ra1, RelD.mono m1 _ _ rv, ry, ?_, fun z A2 u H2 q2 m2 ra2 rz => n _ _ _ _ q2 (m1.trans m2) ra2 ((rs.mono (m1.trans m2)).set rz)⟩
    exact q1
  · exact t.elim
/-- o[k] = e: a list's place -/
def rSto (x k d : D) (A : AH) (Q : AH → Prop) : Prop := match x, k with
  | .ref a, .int k => match A a with
    | some (.lst ds) => match ixD ds.length k with
      | some j => Q (put A a (.lst (ds.set j d)))
      | none => False
    | _ => False
  | _, _ => False
theorem subAssign {o i : Expr} {env : Env} {v : Value} (h : notSlice i = true) : assign (.Subscript o i pos) env v = (do
      let ov ← holding [v] (eval o env)
      let iv ← holding [v, ov] (eval i env)
      standAt pos
      holding [v, ov, iv] (setItem ov iv v)
      release [v, ov, iv] []) := by
  cases i <;> first | rfl | cases h
theorem st_sto {o i : Expr} {eo ei : E} {p : Pos} (ho : PE X o (lE c (ev G eo) W)) (hi : PE X i (lE c (ev G ei) W)) (he : PE X e (lE c (ev G ea) W)) (hn : notSlice i = true) (hs : swapsWithSole [.Subscript o i p] e pos.line X.env = pure false) (hw : swappedStores [.Subscript o i p] e X.env = pure none) :
    PS X (.Assign [.Subscript o i p] e pos) (lS c (evS G (.sto eo ei ea)) W) := by
  refine PS.imp (ps_asg he (pg_sub ho hi set_list fun v => subAssign hn) hs hw rfl) fun D σ H h => ?_
  obtain ⟨σd, A, Z, rs, ra, t, n, r, b, k, fe⟩ := h
  refine lE_go rs .refl ra (fe.at rs) t fun d A1 v H1 q1 m1 ra1 rd => ?_
  refine lE_go rs m1 ra1 (fe.at rs) q1 fun x A2 w H2 q2 m2 ra2 rx => ?_
  refine lE_go rs (m1.trans m2) ra2 (fe.at rs) q2 fun kk A3 u H3 q3 m3 ra3 rk => ?_
  cases x <;> cases kk <;> try exact q3.elim
  cases rx
  cases rk
  dsimp only at q3
  split at q3
  · rename_i ds e1
    split at q3
    · rename_i j e2
      obtain ⟨vs, h, q⟩ := ra3 _ _ e1
      have m123 := (m1.trans m2).trans m3
      have m4 := Mono.lst (o := .lst (vs.set j v)) h
      refine ⟨_, vs, _, j, rfl, rfl, h, by rw [q.length]; exact e2, ?_⟩
      exact n _ _ _ _ q3 (m123.trans m4) (RelA.lst ra3 m4 ((q.set (RelD.mono (m2.trans m3) _ _ rd) j).mono m4)) (rs.mono (m123.trans m4))
    · exact q3.elim
  · exact q3.elim
/-- a, b = e: a tuple that comes -/
theorem st_unp (hc : X.calm = true) (hK : X.K = c.K) {xs : List (Nat × Str)} {k : Nat} {p : Pos} (hN : X.N.Nodup) (h : NamesAre X xs es) (he : PE X e (lE c (ev G ea) W)) (hs : swapsWithSole [.Tuple es k p] e pos.line X.env = pure false) (hw : swappedStores [.Tuple es k p] e X.env = pure none) :
    PS X (.Assign [.Tuple es k p] e pos) (lS c (evS G (.unp xs ea)) W) := by
  obtain ⟨h1, h2⟩ := h.names
  obtain ⟨h3, h4⟩ := names_each (env := X.env) h1
  refine PS.imp (ps_asg he (pg_tup hc (NamesAre.pgs hN h) (n := xs.length) (by rw [h3, h2]) h4) hs hw rfl) fun D σ H h => ?_
  obtain ⟨σd, A, Z, rs, ra, t, n, r, b, k, fe⟩ := h
  refine lE_go rs .refl ra (fe.at rs) t fun d A1 v H1 q1 m1 ra1 rd => ?_
  cases d <;> try exact q1.elim
  obtain ⟨a, vs, rfl, h, q⟩ := rd
  refine ⟨a, vs, rfl, by rw [hK]; exact h.sqt, by rw [q.length]; exact q1.1, ?_⟩
  exact gNs_go (c := c) q1.1 q (rs.mono m1) fun σ' rs' _ => n _ _ _ _ q1.2 m1 ra1 rs'
/-- a, b = e1, e2 -/
theorem st_par2 (hc : X.calm = true) {i j : Nat} {x y : Str} {px py pt : Pos} {kt k2 pt2} {ees : Es} (hN : X.N.Nodup) (hi : X.N[i]? = some x) (hj : X.N[j]? = some y) (hij : i ≠ j)
    (hx : X.env.scope.names.lookup x = some .local) (hy : X.env.scope.names.lookup y = some .local) (ha : PA X [a, b] (lA c (evs G ees) W))
    (hw : swappedStores [.Tuple [.Name x px, .Name y py] kt pt] (.Tuple [a, b] k2 pt2) X.env = pure (some [x, y])) :
    PS X (.Assign [.Tuple [.Name x px, .Name y py] kt pt] (.Tuple [a, b] k2 pt2) pos) (lS c (evS G (.par [(i, x), (j, y)] ees)) W) := by
  refine PS.imp (ps_par hc hN hi hj hij hx hy ha hw) fun D σ H h => ?_
  obtain ⟨σd, A, Z, rs, ra, t, n, r, b, k, fe⟩ := h
  refine lA_go rs .refl ra (fe.at rs) t fun ds A1 vs H1 q1 m1 ra1 rd => ?_
  obtain ⟨hl, q⟩ := q1
  rcases ds with _ | ⟨d, _ | ⟨d2, _ | _⟩⟩ <;> try (simp at hl; done)
  obtain ⟨v, w, rfl, r1, r2⟩ := rd.two_of
  exact ⟨v, w, rfl, n _ _ _ _ q m1 ra1 (((rs.mono m1).set r1).set r2)⟩
theorem st_par3 (hc : X.calm = true) {i j l : Nat} {x y z : Str} {a b d : Expr} {px py pz pt : Pos} {kt k2 pt2} {ees : Es} (hN : X.N.Nodup) (hi : X.N[i]? = some x) (hj : X.N[j]? = some y) (hl : X.N[l]? = some z) (hij : i ≠ j) (hil : i ≠ l) (hjl : j ≠ l)
    (hx : X.env.scope.names.lookup x = some .local) (hy : X.env.scope.names.lookup y = some .local) (hz : X.env.scope.names.lookup z = some .local) (ha : PA X [a, b, d] (lA c (evs G ees) W))
    (hw : swappedStores [.Tuple [.Name x px, .Name y py, .Name z pz] kt pt] (.Tuple [a, b, d] k2 pt2) X.env = pure (some [x, y, z])) :
    PS X (.Assign [.Tuple [.Name x px, .Name y py, .Name z pz] kt pt] (.Tuple [a, b, d] k2 pt2) pos) (lS c (evS G (.par [(i, x), (j, y), (l, z)] ees)) W) := by
  refine PS.imp (ps_par3 hc hN hi hj hl hij hil hjl hx hy hz ha hw) fun D σ H h => ?_
  obtain ⟨σd, A, Z, rs, ra, t, n, r, b, k, fe⟩ := h
  refine lA_go rs .refl ra (fe.at rs) t fun ds A1 vs H1 q1 m1 ra1 rd => ?_
  obtain ⟨hl', q⟩ := q1
  rcases ds with _ | ⟨d1, _ | ⟨d2, _ | ⟨d3, _ | _⟩⟩⟩ <;> try (simp at hl'; done)
  obtain ⟨v, w, e, r1, rr⟩ := rd
  obtain ⟨v2, v3, e2, r2, r3⟩ := rr.two_of
  subst e e2
  exact ⟨v, v2, v3, rfl, n _ _ _ _ q m1 ra1 ((((rs.mono m1).set r1).set r2).set r3)⟩
end
end Py

namespace Py
open PySem PySem.Spec PyProof.Rows L2
/-! ### does the tree say what the text says? -/
structure Names where
  defs : List Str
  cons : List Str
  excs : List Str
def glB (sc : Scope) (x : Str) : Bool := decide (sc.names.lookup x = some .globalImplicit) && !(x == ("__debug__" : Str))
def visB (sc : Scope) (x : Str) : Bool := decide (sc.names.lookup x = some .local) || (decide (sc.names.lookup x = some .cell) || decide (sc.names.lookup x = some .free))
def locB (sc : Scope) (x : Str) : Bool := decide (sc.names.lookup x = some .local) || decide (sc.names.lookup x = some .cell)
/-- a built-in's name; is it a type; its id -/
def bfOf : BF → Option (Str × Bool × String)
  | .len => some ("len", false, "len") | .int => some ("int", true, "int") | .str => some ("str", true, "str") | .repr => some ("repr", false, "repr")
  | .min => some ("min", false, "min") | .max => some ("max", false, "max") | .all => some ("all", false, "all") | .any => some ("any", false, "any") | .sum => some ("sum", false, "sum")
  | .tuple => some ("tuple", true, "tuple") | .list => some ("list", true, "list")
  | _ => none
def bltAll : List Str := ["len", "int", "str", "repr", "sorted", "min", "max", "all", "any", "sum", "tuple", "list", "dict", "set", "range", "isinstance", "bool", "enumerate", "zip"]
def clName : Cl → Str | .int => "int" | .bool => "bool" | .str => "str" | .tuple => "tuple" | .list => "list" | .dict => "dict" | .own x => x
def baseOk : Expr → Bool
  | .Call _ (_ :: _) _ _ => true
  | .Call _ [] _ _ => false
  | _ => true
theorem baseOk_eq {o : Expr} {m : Str} {env : Env} (h : baseOk o = true) (w : Sem Value) : attributeBase o m env w = w := by
  cases o with
  | Call f args kws pos =>
    cases args with
    | nil => cases h
    | cons a as => cases f <;> rfl
  | _ => rfl
def noComp : Expr → Bool
  | .ListComp .. => false
  | .SetComp .. => false
  | .DictComp .. => false
  | _ => true
theorem noComp_eq {e : Expr} {t : Option Expr} {l : Nat} {env : Env} (h : noComp e = true) : swapsWith e t l env = pure false := by
  cases e <;> first | rfl | cases h
def chNames (N : List Str) (sc : Scope) : List (Nat × Str) → List Expr → Bool
  | [], [] => true
  | (i, x) :: xs, .Name y _ :: es => x == y && decide (N[i]? = some x) && locB sc x && chNames N sc xs es
  | _, _ => false
def chTg (N : List Str) (sc : Scope) : Tg → Expr → Bool
  | .name i x, .Name y _ => x == y && decide (N[i]? = some x) && locB sc x
  | .tup xs, .Tuple es _ _ => chNames N sc xs es
  | _, _ => false
variable (n : Names) (N : List Str)
mutual
def chE : Scope → E → Expr → Bool
  | sc, .var i x, .Name y _ => x == y && decide (N[i]? = some x) && visB sc x && !(x == ("__debug__" : Str)) && !(x == ("__classdict__" : Str))
  | sc, .gv x, .Name y _ => x == y && glB sc x && n.cons.contains x
  | _, .cst d, .Constant k _ _ => cstIs k d
  | sc, .bin o a b, .BinOp x op y _ => decide (bopOp o = op) && chE sc a x && chE sc b y
  | sc, .neg a, .UnaryOp .USub x _ => chE sc a x
  | sc, .cmp o a b, .Compare x [op] [y] _ => decide (copOp o = op) && chE sc a x && chE sc b y && !(behindInMarks op y)
  | sc, .chain o o' a b c, .Compare x [op, op'] [y, z] _ => decide (copOp o = op) && decide (copOp o' = op') && chE sc a x && chE sc b y && chE sc c z && !(lastMarks [op, op'] [y, z])
  | sc, .bop k es, .BoolOp op (x :: xs) _ => (match k, op with | true, .And => true | false, .Or => true | _, _ => false) && chEs sc es (x :: xs)
  | sc, .not a, .UnaryOp .Not x _ => chE sc a x
  | sc, .ite c a b, .IfExp z x y _ => chE sc c z && chE sc a x && chE sc b y
  | sc, .tup es, .Tuple xs _ _ => chEs sc es xs
  | sc, .lst es, .List xs _ => chEs sc es xs
  | sc, .idx a i, .Subscript x y _ => chE sc a x && chE sc i y && notSlice y
  | sc, .slc a lo hi, .Subscript x (.Slice l h none _) _ => chE sc a x && chO sc lo l && chO sc hi h
  | sc, .call f es, .Call (.Name y _) xs [] _ => f == y && glB sc f && n.defs.contains f && chEs sc es xs
  | sc, .bif f es, .Call (.Name y _) (x :: xs) [] _ => (match bfOf f with | some (m, _, _) => m == y && glB sc m | none => false) && chEs sc es (x :: xs)
  | sc, .mth m o es, .Call (.Attribute z y apos) xs [] cpos => mName m == y && chE sc o z && chEs sc es xs && baseOk z && (apos.endLine == cpos.line) && decide (xs.length < 30)
  | sc, .isi a cl, .Call (.Name f _) [x, .Name y _] [] _ => f == ("isinstance" : Str) && glB sc "isinstance" && (clT cl).isSome && clName cl == y && glB sc y && chE sc a x && noStar x
  | sc, .lc elt tg it cs own, .ListComp x gens scope _ => (match gens with
      | [⟨t, iter, ifs, 0⟩] => chI sc it iter && blkC N sc scope own && chTg N scope tg t && tg.ixs.all (fun i => decide (i ∈ own.map (·.2))) && chC (relS scope sc) cs ifs && chE (relS scope sc) elt x && notSet iter
      | _ => false)
  | _, _, _ => false
def chEs : Scope → Es → List Expr → Bool
  | _, .nil, [] => true
  | sc, .cons e es, x :: xs => chE sc e x && noStar x && chEs sc es xs
  | _, _, _ => false
def chC : Scope → Es → List Expr → Bool
  | _, .nil, [] => true
  | sc, .cons e .nil, [x] => chE sc e x
  | _, _, _ => false
def chO : Scope → Oe → Option Expr → Bool
  | _, .no, none => true
  | sc, .yes e, some x => chE sc e x
  | _, _, _ => false
def chI : Scope → I → Expr → Bool
  | sc, .seq e, x => chE sc e x
  | sc, .rng1 a, .Call (.Name f _) [x] [] _ => f == ("range" : Str) && glB sc "range" && chE sc a x && noStar x
  | sc, .rng2 a b, .Call (.Name f _) [x, y] [] _ => f == ("range" : Str) && glB sc "range" && chE sc a x && chE sc b y && noStar x && noStar y
  | _, _, _ => false
end
end Py

set_option maxHeartbeats 8000000
namespace Py
open PySem PySem.Spec PyProof.Rows L2
/-- an exception's class of the text -/
def ExcOk (c : RC) (K : PySem.W.Frag) (mg : Str → Option Value) (x : Str) : Prop := ∃ C, c.cl x = some C ∧ mg x = some (.ref C) ∧
  PySem.W.excIn K C [.type "ValueError", .type "Exception", .type "BaseException", .type "object"] "ValueError.__new__" = true ∧ PySem.W.keepIn K (.ref C) = true ∧
  PySem.W.subIn K (.ref C) (.type "BaseException") = some true ∧ PySem.W.typeIn K (.ref C) = some (.type "type")
structure XOk (c : RC) (G : GEnv) (n : Names) (k : Nat) (N : List Str) (sc : Scope) (X : Cx) : Prop where
  hK : X.K = c.K
  calm : X.calm = true
  hN : X.N = N
  nd : X.N.Nodup
  hsc : X.env.scope = sc
  room : Room k X.A
  blt : ∀ x ∈ bltAll, X.mg x = none
  defs : ∀ f ∈ n.defs, DefOk c X.prog X.w X.K X.mg X.base k G.cal f
  con : ∀ x d, G.con x = some d → x ∈ n.cons → ∃ u v, X.mg x = some u ∧ RelV v u ∧ ∀ H, RelD c.K H d v
  exc : ∀ x ∈ n.excs, ExcOk c X.K X.mg x
section
variable {c : RC} {G : GEnv} {n : Names} {k : Nat} {N : List Str}
theorem glB_gl {sc : Scope} {X : Cx} {x : Str} (hsc : X.env.scope = sc) (h : glB sc x = true) : Gl X x ∧ (x == ("__debug__" : Str)) = false := by
  unfold glB at h
  simp only [Bool.and_eq_true, decide_eq_true_eq, Bool.not_eq_true'] at h
  refine ⟨?_, h.2⟩
  show X.env.scope.names.lookup x = _
  rw [hsc]
  exact h.1
theorem visB_vis {sc : Scope} {X : Cx} {x : Str} (hsc : X.env.scope = sc) (h : visB sc x = true) : Vis X.env.scope x := by
  unfold visB at h
  simp only [Bool.or_eq_true, decide_eq_true_eq] at h
  unfold Vis
  rw [hsc]
  exact h
theorem XOk.blk {sc : Scope} {X : Cx} (O : XOk c G n k N sc X) (s : Shared) (H : Hp) (scope : Scope) (C : Addr) (cl : List (Str × Addr)) (fp : List Addr) : XOk c G n k N (relS scope sc) (X.blk s H scope (compEnvC scope cl C X.env) fp) where
  hK := O.hK
  calm := O.calm
  hN := O.hN
  nd := O.nd
  hsc := by
    show relabel scope X.env = relS scope sc
    rw [← O.hsc]
    rfl
  room := O.room
  blt := O.blt
  defs := O.defs
  con := O.con
  exc := O.exc
theorem blk_store {sc scope : Scope} {X : Cx} {x : Str} {i : Nat} (O : XOk c G n k N sc X) (h : locB scope x = true) (hi : N[i]? = some x) (s : Shared) (H : Hp) (C : Addr) (cl : List (Str × Addr)) (fp : List Addr) : StoreOk (X.blk s H scope (compEnvC scope cl C X.env) fp) i x := by
  have e : (X.blk s H scope (compEnvC scope cl C X.env) fp).env.scope = relS scope sc := (O.blk s H scope C cl fp).hsc
  unfold locB at h
  simp only [Bool.or_eq_true, decide_eq_true_eq] at h
  refine ⟨by rw [← O.hN] at hi; exact hi, ?_, ?_⟩
  · unfold L2.Loc
    rw [e]
    rcases h with h | h
    · exact .inl (lookup_relS_keep (by decide) h)
    · exact .inr (lookup_relS_keep (by decide) h)
  · rcases h with h | h
    · right
      rw [e]
      exact lookup_relS_keep (by decide) h
    · left
      show (scope.names.lookup x == some .cell) = true
      rw [h]
      rfl
theorem blk_names {sc scope : Scope} {X : Cx} (O : XOk c G n k N sc X) (s : Shared) (H : Hp) (C : Addr) (cl : List (Str × Addr)) (fp : List Addr) : ∀ {xs : List (Nat × Str)} {es : List Expr}, chNames N scope xs es = true → NamesAre (X.blk s H scope (compEnvC scope cl C X.env) fp) xs es
  | [], [], _ => .nil
  | (i, x) :: xs, e :: es, h => by
    cases e <;> simp only [chNames] at h <;> try (cases h; done)
    simp only [Bool.and_eq_true, beq_iff_eq, decide_eq_true_eq] at h
    obtain ⟨⟨⟨rfl, h1⟩, h2⟩, h3⟩ := h
    exact .cons (blk_store O h2 h1 s H C cl fp) (blk_names O s H C cl fp h3)
  | [], _ :: _, h => by simp [chNames] at h
  | (_, _) :: _, [], h => by simp [chNames] at h
theorem blk_tg {sc scope : Scope} {X : Cx} (O : XOk c G n k N sc X) {tg : Tg} {e : Expr} (h : chTg N scope tg e = true) (s : Shared) (H : Hp) (C : Addr) (cl : List (Str × Addr)) (fp : List Addr) : TgIs (X.blk s H scope (compEnvC scope cl C X.env) fp) tg e := by
  cases tg <;> cases e <;> simp only [chTg] at h <;> try (cases h; done)
  · simp only [Bool.and_eq_true, beq_iff_eq, decide_eq_true_eq] at h
    obtain ⟨⟨rfl, h1⟩, h2⟩ := h
    exact .name (blk_store O h2 h1 s H C cl fp)
  · exact .tup (blk_names O s H C cl fp h)
/-- what a list comprehension is made of -/
structure LcOk (c : RC) (G : GEnv) (X : Cx) (W : WX) (elt : Expr) (gens : List Comprehension) (scope : Scope) (eelt : E) (etg : Tg) (eit : I) (ecs : Es) (own : List (Str × Nat)) : Prop where
  ex : ∃ tg iter cs, gens = [⟨tg, iter, cs, 0⟩] ∧ (∀ i ∈ etg.ixs, i ∈ own.map (·.2)) ∧ (∃ tup, (tup = true → ∃ xs, etg = .tup xs) ∧ PI X tg iter (lI c tup (evI G eit) W)) ∧ BlkOk X.N X.env.scope scope own ∧
    (∀ (s : Shared) (H : Hp) (C : Addr) (cl : List (Str × Addr)) (fp : List Addr), TgIs (X.blk s H scope (compEnvC scope cl C X.env) fp) etg tg) ∧
    (∀ (s : Shared) (H : Hp) (C : Addr) (cl : List (Str × Addr)) (fp : List Addr), PTs (X.blk s H scope (compEnvC scope cl C X.env) fp) cs (lT c (evC G ecs) noW)) ∧
    (∀ (s : Shared) (H : Hp) (C : Addr) (cl : List (Str × Addr)) (fp : List Addr), PE (X.blk s H scope (compEnvC scope cl C X.env) fp) elt (lE c (ev G eelt) noW)) ∧ notSet iter = true
theorem takes_no {X : Cx} : Takes X noW := fun u s' h => by
  obtain ⟨_, _, _, _, _, _, _, _, _, _, _, _, _, _, _, _, w⟩ := h
  exact w.elim
def bfRule {X : Cx} (hc : X.calm = true) (hK : X.K = c.K) : ∀ {f : BF} {m : Str} {id : String}, bfOf f = some (m, false, id) → CallR X (.builtin id) (lRs c (rB f)) ∧ bootBuiltins m = some (.builtin id) ∧ m ≠ "__name__" ∧ m ∈ bltAll := by
  intro f m id h
  cases f <;> simp only [bfOf] at h <;> try (cases h; done)
  · cases h; exact ⟨b_len hK, by decide +kernel, by decide, by decide⟩
  · cases h; exact ⟨b_repr, by decide +kernel, by decide, by decide⟩
  · cases h; exact ⟨b_min hc, by decide +kernel, by decide, by decide⟩
  · cases h; exact ⟨b_max hc, by decide +kernel, by decide, by decide⟩
  · cases h; exact ⟨b_all hc hK, by decide +kernel, by decide, by decide⟩
  · cases h; exact ⟨b_any hc hK, by decide +kernel, by decide, by decide⟩
  · cases h; exact ⟨b_sum hc hK, by decide +kernel, by decide, by decide⟩
def bfRuleT {X : Cx} (hK : X.K = c.K) : ∀ {f : BF} {m : Str} {id : String}, bfOf f = some (m, true, id) → CallR X (.type id) (lRs c (rB f)) ∧ bootBuiltins m = some (.type id) ∧ m ≠ "__name__" ∧ m ∈ bltAll := by
  intro f m id h
  cases f <;> simp only [bfOf] at h <;> try (cases h; done)
  · cases h; exact ⟨b_int, by decide +kernel, by decide, by decide⟩
  · cases h; exact ⟨b_str, by decide +kernel, by decide, by decide⟩
  · cases h; exact ⟨b_tuple hK, by decide +kernel, by decide, by decide⟩
  · cases h; exact ⟨b_list hK, by decide +kernel, by decide, by decide⟩
theorem cl_boot {cl : Cl} {T : String} (h : clT cl = some T) : bootBuiltins (clName cl) = some (.type T) ∧ clName cl ≠ "__name__" ∧ clName cl ∈ bltAll := by
  cases cl <;> cases h <;> exact ⟨by decide +kernel, by decide, by decide⟩
theorem es_ne {ees : Es} {x : Expr} {xs : List Expr} {sc : Scope} (h : chEs n N sc ees (x :: xs) = true) : noStar x = true ∧ xs.all noStar = true := by
  have gen : ∀ (ees : Es) (xs : List Expr), chEs n N sc ees xs = true → xs.all noStar = true := fun ees => by
    intro xs
    induction xs generalizing ees with
    | nil => intro _; rfl
    | cons y ys ih =>
      intro h
      cases ees with
      | nil => simp [chEs] at h
      | cons e es =>
        simp only [chEs, Bool.and_eq_true] at h
        rw [List.all_cons, h.1.2, ih es h.2]
        rfl
  have := gen ees (x :: xs) h
  rw [List.all_cons, Bool.and_eq_true] at this
  exact this
theorem lcOk_mk {elt : E} {tg : Tg} {it : I} {cs : Es} {own : List (Str × Nat)} {sc : Scope} {x : Expr} {gens : List Comprehension} {scope : Scope} {pos : Pos} {X : Cx} {W : WX} (h : chE n N sc (.lc elt tg it cs own) (.ListComp x gens scope pos) = true) (O : XOk c G n k N sc X)
    (hI : ∀ (e t : Expr), chI n N sc it e = true → PI X t e (lI c false (evI G it) W)) (hC : ∀ (sc : Scope) (es : List Expr) (X : Cx), chC n N sc cs es = true → XOk c G n k N sc X → PTs X es (lT c (evC G cs) noW))
    (hE : ∀ (sc : Scope) (e : Expr) (X : Cx), chE n N sc elt e = true → XOk c G n k N sc X → PE X e (lE c (ev G elt) noW)) : LcOk c G X W x gens scope elt tg it cs own := by
  rcases gens with _ | ⟨⟨t, iter, ifs, as⟩, _ | ⟨_, _⟩⟩ <;> try (simp [chE] at h; done)
  by_cases ha : as = 0
  · subst ha
    simp only [chE, Bool.and_eq_true, List.all_eq_true, decide_eq_true_eq] at h
    obtain ⟨⟨⟨⟨⟨⟨h1, h2⟩, h3⟩, h4⟩, h5⟩, h6⟩, h7⟩ := h
    exact ⟨t, iter, ifs, rfl, h4, ⟨false, ⟨fun z => absurd z (by decide), hI _ t h1⟩⟩, by rw [O.hN, O.hsc]; exact blkOk_by h2, blk_tg O h3, fun s H C cl fp => hC _ _ _ h5 (O.blk s H scope C cl fp), fun s H C cl fp => hE _ _ _ h6 (O.blk s H scope C cl fp), h7⟩
  · unfold chE at h
    split at h <;> simp_all
mutual
theorem okE : ∀ (ir : E) (sc : Scope) (e : Expr) (X : Cx) (W : WX), chE n N sc ir e = true → XOk c G n k N sc X → Takes X W → PE X e (lE c (ev G ir) W) ∧ PT X e (lT c (evT G ir) W)
  | .var i x, sc, e, X, W, h, O, tk => by
    cases e <;> simp only [chE] at h <;> try (cases h; done)
    simp only [Bool.and_eq_true, beq_iff_eq, decide_eq_true_eq, Bool.not_eq_true'] at h
    obtain ⟨⟨⟨⟨rfl, h1⟩, h2⟩, h3⟩, h4⟩ := h
    have p := s_var (c := c) (W := W) (pos := by assumption) (by rw [O.hN]; exact h1) (visB_vis O.hsc h2) h3 h4 G
    exact ⟨p, t_val O.hK p fun _ => rfl⟩
  | .gv x, sc, e, X, W, h, O, tk => by
    cases e <;> simp only [chE] at h <;> try (cases h; done)
    simp only [Bool.and_eq_true, beq_iff_eq] at h
    obtain ⟨⟨rfl, h1⟩, h2⟩ := h
    obtain ⟨g1, g2⟩ := glB_gl O.hsc h1
    have p := s_gv (c := c) (W := W) (pos := by assumption) g1 g2 fun d e => O.con _ d e (by simpa using h2)
    exact ⟨p, t_val O.hK p fun _ => rfl⟩
  | .cst d, sc, e, X, W, h, O, tk => by
    cases e <;> simp only [chE] at h <;> try (cases h; done)
    have p := s_cst (c := c) (X := X) (W := W) (G := G) (pos := by assumption) (j := by assumption) h
    exact ⟨p, t_val O.hK p fun _ => rfl⟩
  | .bin o a b, sc, e, X, W, h, O, tk => by
    cases e <;> simp only [chE] at h <;> try (cases h; done)
    simp only [Bool.and_eq_true, decide_eq_true_eq] at h
    obtain ⟨⟨rfl, h1⟩, h2⟩ := h
    have p := s_bin (pos := by assumption) O.hK (o := o) (okE a sc _ X W h1 O tk).1 (okE b sc _ X W h2 O tk).1
    exact ⟨p, t_val O.hK p fun _ => rfl⟩
  | .neg a, sc, e, X, W, h, O, tk => by
    cases e with
    | UnaryOp op x pos =>
      cases op <;> simp only [chE] at h <;> try (cases h; done)
      have p := s_neg (pos := pos) (okE a sc _ X W h O tk).1
      exact ⟨p, t_val O.hK p fun _ => rfl⟩
    | _ => simp [chE] at h
  | .cmp o a b, sc, e, X, W, h, O, tk => by
    cases e with
    | Compare x ops ys pos =>
      rcases ops with _ | ⟨op, _ | ⟨_, _⟩⟩ <;> rcases ys with _ | ⟨y, _ | ⟨_, _⟩⟩ <;> try (simp [chE] at h; done)
      simp only [chE, Bool.and_eq_true, decide_eq_true_eq, Bool.not_eq_true'] at h
      obtain ⟨⟨⟨rfl, h1⟩, h2⟩, h3⟩ := h
      have pa := (okE a sc _ X W h1 O tk).1
      have pb := (okE b sc _ X W h2 O tk).1
      exact ⟨s_cmp O.hK O.room.units pa pb h3, t_cmp O.hK O.room.units pa pb h3⟩
    | _ => simp [chE] at h
  | .chain o o' a b d, sc, e, X, W, h, O, tk => by
    cases e with
    | Compare x ops ys pos =>
      rcases ops with _ | ⟨op, _ | ⟨op2, _ | ⟨_, _⟩⟩⟩ <;> rcases ys with _ | ⟨y, _ | ⟨z, _ | ⟨_, _⟩⟩⟩ <;> try (simp [chE] at h; done)
      simp only [chE, Bool.and_eq_true, decide_eq_true_eq, Bool.not_eq_true'] at h
      obtain ⟨⟨⟨⟨⟨rfl, rfl⟩, h1⟩, h2⟩, h3⟩, h4⟩ := h
      have pa := (okE a sc _ X W h1 O tk).1
      have pb := (okE b sc _ X W h2 O tk).1
      have pd := (okE d sc _ X W h3 O tk).1
      exact ⟨s_chain O.hK O.room.units pa pb pd h4, t_chain O.hK O.room.units pa pb pd h4⟩
    | _ => simp [chE] at h
  | .bop kk es, sc, e, X, W, h, O, tk => by
    cases e with
    | BoolOp op xs pos =>
      rcases xs with _ | ⟨x, xs⟩ <;> try (simp [chE] at h; done)
      simp only [chE, Bool.and_eq_true] at h
      cases kk <;> cases op <;> try (simp at h; done)
      · have p := okBo es sc x xs pos X W h.2 O tk
        exact ⟨p.1, p.2.pt⟩
      · have p := okBa es sc x xs pos X W h.2 O tk
        exact ⟨p.1, p.2.pt⟩
    | _ => simp [chE] at h
  | .not a, sc, e, X, W, h, O, tk => by
    cases e with
    | UnaryOp op x pos =>
      cases op <;> simp only [chE] at h <;> try (cases h; done)
      have p := okE a sc _ X W h O tk
      exact ⟨s_not O.hK p.1, t_not p.2⟩
    | _ => simp [chE] at h
  | .ite d a b, sc, e, X, W, h, O, tk => by
    cases e <;> simp only [chE] at h <;> try (cases h; done)
    simp only [Bool.and_eq_true] at h
    have pd := okE d sc _ X W h.1.1 O tk
    have pa := okE a sc _ X W h.1.2 O tk
    have pb := okE b sc _ X W h.2 O tk
    exact ⟨s_ite pd.2 pa.1 pb.1, t_ite pd.2 pa.2 pb.2⟩
  | .tup es, sc, e, X, W, h, O, tk => by
    cases e <;> simp only [chE] at h <;> try (cases h; done)
    have p := s_tup (pos := by assumption) (k := by assumption) (okEs es sc _ X W h O tk)
    exact ⟨p, t_val O.hK p fun _ => rfl⟩
  | .lst es, sc, e, X, W, h, O, tk => by
    cases e <;> simp only [chE] at h <;> try (cases h; done)
    have p := s_lst (pos := by assumption) (okEs es sc _ X W h O tk)
    exact ⟨p, t_val O.hK p fun _ => rfl⟩
  | .idx a i, sc, e, X, W, h, O, tk => by
    cases e <;> simp only [chE] at h <;> try (cases h; done)
    simp only [Bool.and_eq_true] at h
    have p := s_idx (pos := by assumption) O.hK (okE a sc _ X W h.1.1 O tk).1 (okE i sc _ X W h.1.2 O tk).1 h.2
    exact ⟨p, t_val O.hK p fun _ => rfl⟩
  | .slc a lo hi, sc, e, X, W, h, O, tk => by
    cases e with
    | Subscript x y pos =>
      cases y with
      | Slice l hh st p2 =>
        cases st <;> simp only [chE] at h <;> try (cases h; done)
        simp only [Bool.and_eq_true] at h
        have p := s_slc (pos := pos) (p2 := p2) O.hK (okE a sc _ X W h.1.1 O tk).1 (okO lo sc _ X W h.1.2 O tk) (okO hi sc _ X W h.2 O tk)
        exact ⟨p, t_val O.hK p fun _ => rfl⟩
      | _ => simp [chE] at h
    | _ => simp [chE] at h
  | .rev _, _, e, _, _, h, _, _ => by cases e <;> simp [chE] at h
  | .call f es, sc, e, X, W, h, O, tk => by
    cases e with
    | Call g xs kws pos =>
      cases g with
      | Name y p =>
        cases kws <;> simp only [chE] at h <;> try (cases h; done)
        simp only [Bool.and_eq_true, beq_iff_eq] at h
        obtain ⟨⟨⟨rfl, h1⟩, h2⟩, h3⟩ := h
        obtain ⟨g1, g2⟩ := glB_gl O.hsc h1
        have D := O.defs f (by simpa using h2)
        cases xs with
        | nil =>
          cases es with
          | nil =>
            have p := s_call0 (pos := pos) (p := p) tk D O.room g1 g2
            exact ⟨p, t_val O.hK p fun _ => rfl⟩
          | cons _ _ => simp [chEs] at h3
        | cons x xs =>
          obtain ⟨n1, n2⟩ := es_ne h3
          have p := s_call (pos := pos) (p := p) tk D O.room g1 g2 (okEs es sc _ X W h3 O tk) n1 n2
          exact ⟨p, t_val O.hK p fun _ => rfl⟩
      | _ => simp [chE] at h
    | _ => simp [chE] at h
  | .bif f es, sc, e, X, W, h, O, tk => by
    cases e with
    | Call g xs kws pos =>
      cases g with
      | Name y p =>
        rcases xs with _ | ⟨x, xs⟩ <;> cases kws <;> simp only [chE] at h <;> try (cases h; done)
        simp only [Bool.and_eq_true] at h
        obtain ⟨h1, h3⟩ := h
        obtain ⟨n1, n2⟩ := es_ne h3
        cases eb : bfOf f with
        | none => rw [eb] at h1; cases h1
        | some q =>
          obtain ⟨m, ty, id⟩ := q
          rw [eb] at h1
          simp only [Bool.and_eq_true, beq_iff_eq] at h1
          obtain ⟨rfl, h1⟩ := h1
          obtain ⟨g1, g2⟩ := glB_gl O.hsc h1
          cases ty with
          | false =>
            obtain ⟨r1, r2, r3, r4⟩ := bfRule (c := c) O.calm O.hK eb
            have p := s_bifB (pos := pos) (p := p) f r1 g1 (O.blt _ r4) r2 r3 g2 (okEs es sc _ X W h3 O tk) n1 n2
            exact ⟨p, t_val O.hK p fun _ => rfl⟩
          | true =>
            obtain ⟨r1, r2, r3, r4⟩ := bfRuleT (c := c) (X := X) O.hK eb
            have p := s_bifT (pos := pos) (p := p) f r1 g1 (O.blt _ r4) r2 r3 g2 (okEs es sc _ X W h3 O tk) n1 n2
            exact ⟨p, t_val O.hK p fun _ => rfl⟩
      | _ => cases xs <;> simp [chE] at h
    | _ => simp [chE] at h
  | .mth m o es, sc, e, X, W, h, O, tk => by
    cases e with
    | Call g xs kws cpos =>
      cases g with
      | Attribute z y apos =>
        cases kws <;> simp only [chE] at h <;> try (cases h; done)
        simp only [Bool.and_eq_true, beq_iff_eq, decide_eq_true_eq] at h
        obtain ⟨⟨⟨⟨⟨rfl, h1⟩, h2⟩, h3⟩, h4⟩, h5⟩ := h
        have po := (okE o sc _ X W h1 O tk).1
        have hline : (apos.endLine == cpos.line) = true := by simpa using h4
        cases xs with
        | nil =>
          cases es with
          | nil =>
            have p := s_mth0 (m := m) (apos := apos) (cpos := cpos) O.hK po (baseOk_eq h3 _) hline
            exact ⟨p, t_val O.hK p fun _ => rfl⟩
          | cons _ _ => simp [chEs] at h2
        | cons x xs =>
          obtain ⟨n1, n2⟩ := es_ne h2
          have p := s_mth (m := m) (apos := apos) (cpos := cpos) O.hK po (okEs es sc _ X W h2 O tk) (baseOk_eq h3 _) (by rw [List.all_cons, n1, n2]; rfl) h5 hline
          exact ⟨p, t_val O.hK p fun _ => rfl⟩
      | _ => simp [chE] at h
    | _ => simp [chE] at h
  | .isi a cl, sc, e, X, W, h, O, tk => by
    cases e with
    | Call g xs kws pos =>
      cases g with
      | Name f p =>
        rcases xs with _ | ⟨x, _ | ⟨y, _ | ⟨_, _⟩⟩⟩ <;> try (simp [chE] at h; done)
        cases y <;> try (simp [chE] at h; done)
        rename_i y py
        cases kws <;> simp only [chE] at h <;> try (cases h; done)
        simp only [Bool.and_eq_true, beq_iff_eq] at h
        obtain ⟨⟨⟨⟨⟨⟨rfl, h1⟩, h2⟩, rfl⟩, h4⟩, h5⟩, h6⟩ := h
        obtain ⟨g1, g2⟩ := glB_gl O.hsc h1
        obtain ⟨g3, g4⟩ := glB_gl O.hsc h4
        cases eT : clT cl with
        | none => rw [eT] at h2; cases h2
        | some T =>
          obtain ⟨b1, b2, b3⟩ := cl_boot eT
          have p := s_isi (pos := pos) (px := py) (p := p) O.hK eT (okE a sc _ X W h5 O tk).1 h6 g1 (O.blt _ (by decide)) g3 (O.blt _ b3) b1 b2 g4
          exact ⟨p, t_val O.hK p fun _ => rfl⟩
      | _ => simp [chE] at h
    | _ => simp [chE] at h
  | .lc elt tg it cs own, sc, e, X, W, h, O, tk => by
    cases e with
    | ListComp x gens scope pos =>
      obtain ⟨t, iter, ifs, rfl, h1, ⟨tup, h2, h3⟩, h4, h5, h6, h7, h8⟩ := (lcOk_mk h O (W := W) (fun e t h' => okI it sc e t X W h' O tk) (fun sc' es' X' h' O' => okC cs sc' es' X' noW h' O' takes_no) (fun sc' e' X' h' O' => (okE elt sc' e' X' noW h' O' takes_no).1)).ex
      have p := s_lc (pos := pos) O.hK O.calm O.nd h2 h1 h3 h4 h5 h6 h7 h8
      exact ⟨p, t_val O.hK p fun _ => rfl⟩
    | _ => simp [chE] at h
  | .lrg _, _, e, _, _, h, _, _ => by cases e <;> simp [chE] at h
  | .trg _, _, e, _, _, h, _, _ => by cases e <;> simp [chE] at h
  | .lset _, _, e, _, _, h, _, _ => by cases e <;> simp [chE] at h
  | .sset _, _, e, _, _, h, _, _ => by cases e <;> simp [chE] at h
theorem okC : ∀ (ees : Es) (sc : Scope) (es : List Expr) (X : Cx) (W : WX), chC n N sc ees es = true → XOk c G n k N sc X → Takes X W → PTs X es (lT c (evC G ees) W)
  | .nil, sc, es, X, W, h, O, tk => by
    cases es with
    | nil => exact pts_of (.inl ⟨rfl, rfl⟩)
    | cons _ _ => simp [chC] at h
  | .cons e .nil, sc, es, X, W, h, O, tk => by
    rcases es with _ | ⟨x, _ | ⟨_, _⟩⟩ <;> try (simp [chC] at h; done)
    simp only [chC] at h
    exact pts_of (.inr ⟨x, e, rfl, rfl, (okE e sc _ X W h O tk).2⟩)
  | .cons e (.cons _ _), sc, es, X, W, h, O, tk => by simp [chC] at h
theorem okEs : ∀ (ees : Es) (sc : Scope) (es : List Expr) (X : Cx) (W : WX), chEs n N sc ees es = true → XOk c G n k N sc X → Takes X W → PA X es (lA c (evs G ees) W)
  | .nil, sc, es, X, W, h, O, tk => by
    cases es with
    | nil => exact a_nil
    | cons _ _ => simp [chEs] at h
  | .cons e es, sc, xs, X, W, h, O, tk => by
    cases xs with
    | nil => simp [chEs] at h
    | cons x xs =>
      simp only [chEs, Bool.and_eq_true] at h
      exact a_cons (okE e sc _ X W h.1.1 O tk).1 (okEs es sc _ X W h.2 O tk) h.1.2
theorem okBa : ∀ (ees : Es) (sc : Scope) (x : Expr) (xs : List Expr) (pos : Pos) (X : Cx) (W : WX), chEs n N sc ees (x :: xs) = true → XOk c G n k N sc X → Takes X W →
    PE X (.BoolOp .And (x :: xs) pos) (lE c (evB2 G true ees).1 W) ∧ PW X (.BoolOp .And (x :: xs) pos) (lT c (evB2 G true ees).2 W)
  | .nil, _, _, _, _, _, _, h, _, _ => by simp [chEs] at h
  | .cons e .nil, sc, x, xs, pos, X, W, h, O, tk => by
    simp only [chEs, Bool.and_eq_true] at h
    cases xs with
    | nil =>
      have p := okE e sc _ X W h.1.1 O tk
      exact ⟨s_bop1 p.1, t_and1 p.2⟩
    | cons _ _ => simp [chEs] at h
  | .cons e (.cons e2 es), sc, x, xs, pos, X, W, h, O, tk => by
    rw [chEs, Bool.and_eq_true, Bool.and_eq_true] at h
    cases xs with
    | nil => simp [chEs] at h
    | cons y ys =>
      have p := okE e sc _ X W h.1.1 O tk
      have q := okBa (.cons e2 es) sc y ys pos X W h.2 O tk
      exact ⟨s_and p.1 q.1, t_and p.2 q.2⟩
theorem okBo : ∀ (ees : Es) (sc : Scope) (x : Expr) (xs : List Expr) (pos : Pos) (X : Cx) (W : WX), chEs n N sc ees (x :: xs) = true → XOk c G n k N sc X → Takes X W →
    PE X (.BoolOp .Or (x :: xs) pos) (lE c (evB2 G false ees).1 W) ∧ PW X (.BoolOp .Or (x :: xs) pos) (lT c (evB2 G false ees).2 W)
  | .nil, _, _, _, _, _, _, h, _, _ => by simp [chEs] at h
  | .cons e .nil, sc, x, xs, pos, X, W, h, O, tk => by
    simp only [chEs, Bool.and_eq_true] at h
    cases xs with
    | nil =>
      have p := okE e sc _ X W h.1.1 O tk
      exact ⟨s_bop1 p.1, t_or1 p.2⟩
    | cons _ _ => simp [chEs] at h
  | .cons e (.cons e2 es), sc, x, xs, pos, X, W, h, O, tk => by
    rw [chEs, Bool.and_eq_true, Bool.and_eq_true] at h
    cases xs with
    | nil => simp [chEs] at h
    | cons y ys =>
      have p := okE e sc _ X W h.1.1 O tk
      have q := okBo (.cons e2 es) sc y ys pos X W h.2 O tk
      exact ⟨s_or p.1 q.1, t_or p.2 q.2⟩
theorem okO : ∀ (eo : Oe) (sc : Scope) (e : Option Expr) (X : Cx) (W : WX), chO n N sc eo e = true → XOk c G n k N sc X → Takes X W → PO X e (lO c (evo G eo) W)
  | .no, sc, e, X, W, h, O, tk => by
    cases e with
    | none => exact o_no
    | some _ => simp [chO] at h
  | .yes a, sc, e, X, W, h, O, tk => by
    cases e with
    | none => simp [chO] at h
    | some x =>
      simp only [chO] at h
      exact o_yes (okE a sc _ X W h O tk).1
theorem okI : ∀ (it : I) (sc : Scope) (e : Expr) (tg : Expr) (X : Cx) (W : WX), chI n N sc it e = true → XOk c G n k N sc X → Takes X W → PI X tg e (lI c false (evI G it) W)
  | .seq a, sc, e, tg, X, W, h, O, tk => by
    simp only [chI] at h
    exact i_seq O.hK (okE a sc _ X W h O tk).1
  | .rng1 a, sc, e, tg, X, W, h, O, tk => by
    cases e with
    | Call g xs kws pos =>
      cases g with
      | Name f p =>
        rcases xs with _ | ⟨x, _ | ⟨_, _⟩⟩ <;> cases kws <;> try (simp [chI] at h; done)
        simp only [chI, Bool.and_eq_true, beq_iff_eq] at h
        obtain ⟨⟨⟨rfl, h1⟩, h2⟩, h3⟩ := h
        exact i_rng1 (glB_gl O.hsc h1).1 (O.blt _ (by decide)) (okE a sc _ X W h2 O tk).1 h3
      | _ => simp [chI] at h
    | _ => simp [chI] at h
  | .rng2 a b, sc, e, tg, X, W, h, O, tk => by
    cases e with
    | Call g xs kws pos =>
      cases g with
      | Name f p =>
        rcases xs with _ | ⟨x, _ | ⟨y, _ | ⟨_, _⟩⟩⟩ <;> cases kws <;> try (simp [chI] at h; done)
        simp only [chI, Bool.and_eq_true, beq_iff_eq] at h
        obtain ⟨⟨⟨⟨⟨rfl, h1⟩, h2⟩, h3⟩, h4⟩, h5⟩ := h
        exact i_rng2 (glB_gl O.hsc h1).1 (O.blt _ (by decide)) (okE a sc _ X W h2 O tk).1 (okE b sc _ X W h3 O tk).1 h4 h5
      | _ => simp [chI] at h
    | _ => simp [chI] at h
end
theorem okLc {elt : E} {tg : Tg} {it : I} {cs : Es} {own : List (Str × Nat)} {sc : Scope} {x : Expr} {gens : List Comprehension} {scope : Scope} {pos : Pos} {X : Cx} {W : WX} (h : chE n N sc (.lc elt tg it cs own) (.ListComp x gens scope pos) = true) (O : XOk c G n k N sc X) (tk : Takes X W) : LcOk c G X W x gens scope elt tg it cs own :=
  lcOk_mk h O (fun e t h' => okI it sc e t X W h' O tk) (fun sc' es' X' h' O' => okC cs sc' es' X' noW h' O' takes_no) (fun sc' e' X' h' O' => (okE elt sc' e' X' noW h' O' takes_no).1)
end
end Py

set_option maxHeartbeats 8000000
namespace Py
open PySem PySem.Spec PyProof.Rows L2
/-! ### stores that the compiler turns about -/
def swS (sc : Scope) (ts vs : List Expr) : Option (Option (List Str)) :=
  if (!(ts.length == 2 || ts.length == 3) || vs.length != ts.length) = true then some none
  else if (vs.any fun | .Starred .. => true | _ => false) = true then some none
  else
    let line := (ts.head?.map (·.pos.line)).getD 0
    let names := ts.filterMap fun
      | .Name id pos => if (sc.names.lookup id == some .local && pos.line == line) = true then some id else none
      | _ => none
    if (names.length != ts.length || names.eraseDups.length != names.length) = true then some none
    else if vs.all (foldedForSure 8) = true then some none
    else if vs.all (constantsAlone 8) = true then none
    else some (some names)
theorem swS_eq {env : Env} {sc : Scope} (hsc : env.scope = sc) (hk : sc.kind = .function) {ts vs : List Expr} {k k2 : Nat} {p p2 : Pos} {r : Option (List Str)} (h : swS sc ts vs = some r) : swappedStores [.Tuple ts k p] (.Tuple vs k2 p2) env = pure r := by
  have hb : (env.blockKind != .function) = false := by unfold Env.blockKind; rw [hsc, hk]; rfl
  have hkd : ∀ id, env.kindOf id = sc.names.lookup id := fun id => by unfold Env.kindOf; rw [hsc]
  unfold swS at h
  unfold swappedStores
  simp only [hb, hkd, Bool.or_false]
  split at h
  · rename_i h1
    cases h
    exact (if_pos h1).trans rfl
  · rename_i h1
    refine (if_neg h1).trans ?_
    split at h
    · rename_i h2
      cases h
      exact (if_pos h2).trans rfl
    · rename_i h2
      refine (if_neg h2).trans ?_
      dsimp only at h
      split at h
      · rename_i h3
        cases h
        exact (if_pos h3).trans rfl
      · rename_i h3
        refine (if_neg h3).trans ?_
        split at h
        · rename_i h4
          cases h
          exact (if_pos h4).trans rfl
        · rename_i h4
          refine (if_neg h4).trans ?_
          split at h
          · cases h
          · rename_i h5
            cases h
            refine (if_neg h5).trans ?_
            rfl
def notTup : Expr → Bool
  | .Tuple .. => false
  | _ => true
theorem noSwap {t e : Expr} {env : Env} (h : notTup e = true) : swappedStores [t] e env = pure none := by
  cases e <;> first | (cases h; done) | (cases t <;> rfl)
theorem noSwapSub {o i e : Expr} {p : Pos} {env : Env} : swappedStores [.Subscript o i p] e env = pure none := by
  cases e <;> rfl
/-- name = [..]: are the list's block and the store turned about -/
def swB (sc scope : Scope) (y : Str) (py lpos : Pos) : Bool := sc.names.lookup y == some .local && py.line == lpos.line && !(scope.names.any fun (n, k) => n == y && (k == .local || k == .cell))
theorem swB_eq {env : Env} {sc : Scope} (hsc : env.scope = sc) (hk : sc.kind = .function) {elt : Expr} {gens : List Comprehension} {scope : Scope} {lpos py : Pos} {y : Str} {l : Nat} : swapsWith (.ListComp elt gens scope lpos) (some (.Name y py)) l env = pure (swB sc scope y py lpos) := by
  have hb : (env.blockKind == .function) = true := by unfold Env.blockKind; rw [hsc, hk]; rfl
  have hkd : env.kindOf y = sc.names.lookup y := by unfold Env.kindOf; rw [hsc]
  unfold swapsWith swB
  simp only [hb, hkd, Expr.pos, Bool.true_and]
theorem soleNo {t e : Expr} {l : Nat} {env : Env} (h : noComp e = true) : swapsWithSole [t] e l env = pure false := by
  cases e <;> first | (cases h; done) | rfl
variable (n : Names) (N : List Str)
def chPar (sc : Scope) : List (Nat × Str) → Bool
  | [(i, x), (j, y)] => decide (i ≠ j) && decide (sc.names.lookup x = some .local) && decide (sc.names.lookup y = some .local)
  | [(i, x), (j, y), (l, z)] => decide (i ≠ j) && decide (i ≠ l) && decide (j ≠ l) && decide (sc.names.lookup x = some .local) && decide (sc.names.lookup y = some .local) && decide (sc.names.lookup z = some .local)
  | _ => false
def chRaise (sc : Scope) (x : Str) : Expr → Bool
  | .Call (.Name y _) [.Constant (.str _) _ _] [] _ => x == y && glB sc x && n.excs.contains x
  | _ => false
mutual
def chS (sc : Scope) : S → Stmt → Bool
  | .asg i x e, .Assign [.Name y p] v pos => x == y && decide (N[i]? = some x) && locB sc x && chE n N sc e v && (noComp v || (match v with | .ListComp .. => true | _ => false))
  | .unp xs e, .Assign [.Tuple ts _ _] v _ => chNames N sc xs ts && chE n N sc e v && noComp v && (notTup v || (match v with | .Tuple vs _ _ => decide (swS sc ts vs = some none) | _ => false))
  | .par xs es, .Assign [.Tuple ts _ _] (.Tuple vs _ _) _ => chNames N sc xs ts && chPar sc xs && decide (vs.length = xs.length) && chEs n N sc es vs && decide (swS sc ts vs = some (some (xs.map (·.2))))
  | .sto o i e, .Assign [.Subscript x k _] v _ => chE n N sc o x && chE n N sc i k && chE n N sc e v && notSlice k && noComp v
  | .aug i x o e, .AugAssign (.Name y _) op v _ => x == y && decide (N[i]? = some x) && locB sc x && decide (bopOp o = op) && augOk o && chE n N sc e v
  | .exp e, .Expr v _ => chE n N sc e v && noComp v
  | .ret e, .Return (some v) _ => chE n N sc e v
  | .ret0, .Return none _ => true
  | .if_ c a b, .If t x y _ => chE n N sc c t && chSs sc a x && chSs sc b y
  | .whl c b, .While t x [] _ => chE n N sc c t && chSs sc b x
  | .for_ tg it b, .For t iter x [] _ => chTg N sc tg t && chI n N sc it iter && chSs sc b x && notSet iter
  | .raise x, .Raise (some e) none _ => chRaise n sc x e
  | .pass, .Pass _ => true
  | .brk, .Break _ => true
  | .cnt, .Continue _ => true
  | _, _ => false
def chSs (sc : Scope) : Ss → List Stmt → Bool
  | .nil, [] => true
  | .cons s ss, x :: xs => chS sc s x && chSs sc ss xs
  | _, _ => false
end

/-- where statements stand: a def's body -/
structure StOk (X : Cx) : Prop where
  fn : ∀ x, X.fn x = true
  pass : PassesOwn (model X.prog X.w) X.A X.env X.xe
section
variable {c : RC} {G : GEnv} {n : Names} {k : Nat} {N : List Str}
theorem st_store {sc : Scope} {X : Cx} {x : Str} {i : Nat} (O : XOk c G n k N sc X) (F : StOk X) (h : locB sc x = true) (hi : N[i]? = some x) : StoreOk X i x := by
  unfold locB at h
  simp only [Bool.or_eq_true, decide_eq_true_eq] at h
  refine ⟨by rw [O.hN]; exact hi, ?_, .inl (F.fn x)⟩
  unfold L2.Loc
  rw [O.hsc]
  exact h
theorem st_names {sc : Scope} {X : Cx} (O : XOk c G n k N sc X) (F : StOk X) : ∀ {xs : List (Nat × Str)} {es : List Expr}, chNames N sc xs es = true → NamesAre X xs es
  | [], [], _ => .nil
  | (i, x) :: xs, e :: es, h => by
    cases e <;> simp only [chNames] at h <;> try (cases h; done)
    simp only [Bool.and_eq_true, beq_iff_eq, decide_eq_true_eq] at h
    obtain ⟨⟨⟨rfl, h1⟩, h2⟩, h3⟩ := h
    exact .cons (st_store O F h2 h1) (st_names O F h3)
  | [], _ :: _, h => by simp [chNames] at h
  | (_, _) :: _, [], h => by simp [chNames] at h
theorem st_tg {sc : Scope} {X : Cx} (O : XOk c G n k N sc X) (F : StOk X) {tg : Tg} {e : Expr} (h : chTg N sc tg e = true) : TgIs X tg e := by
  cases tg <;> cases e <;> simp only [chTg] at h <;> try (cases h; done)
  · simp only [Bool.and_eq_true, beq_iff_eq, decide_eq_true_eq] at h
    obtain ⟨⟨rfl, h1⟩, h2⟩ := h
    exact .name (st_store O F h2 h1)
  · exact .tup (st_names O F h)
theorem ok_asg {sc : Scope} (hk : sc.kind = .function) {i : Nat} {x y : Str} {e : E} {p pos : Pos} {v : Expr} {X : Cx} {W : WX} (h : chS n N sc (.asg i x e) (.Assign [.Name y p] v pos) = true) (O : XOk c G n k N sc X) (tk : Takes X W) (F : StOk X) : PS X (.Assign [.Name y p] v pos) (lS c (evS G (.asg i x e)) W) := by
  simp only [chS, Bool.and_eq_true, beq_iff_eq, decide_eq_true_eq] at h
  obtain ⟨⟨⟨⟨rfl, h1⟩, h2⟩, h3⟩, h4⟩ := h
  have S := st_store O F h2 h1
  have pe := (okE e sc _ X W h3 O tk).1
  by_cases hv : noComp v = true
  · exact st_asg O.nd S pe (noComp_eq hv)
  · rw [Bool.or_eq_true] at h4
    have h4 := h4.resolve_left hv
    cases v <;> simp only at h4 <;> try (cases h4; done)
    rename_i elt gens scope lpos _
    cases hb : swB sc scope x p lpos with
    | false => exact st_asg O.nd S pe (by rw [swB_eq O.hsc hk, hb])
    | true =>
      cases e <;> try (simp [chE] at h3; done)
      rename_i eelt tg it cs own
      obtain ⟨t, iter, ifs, rfl, k1, ⟨tup, k2, k3⟩, k4, k5, k6, k7, k8⟩ := (okLc h3 O tk).ex
      have hl : X.env.scope.names.lookup x = some .local := by
        rw [O.hsc]
        unfold swB at hb
        simp only [Bool.and_eq_true, beq_iff_eq] at hb
        exact hb.1.1
      exact st_asgLc (s_setLc O.hK O.calm O.nd S.1 hl (by rw [swB_eq O.hsc hk, hb]) k2 k1 k3 k4 k5 k6 k7 k8)
theorem ok_par {sc : Scope} (hk : sc.kind = .function) {xs : List (Nat × Str)} {es : Es} {us vs : List Expr} {kk k2 : Nat} {p p2 pos : Pos} {X : Cx} {W : WX} (h1 : chNames N sc xs us = true) (h2 : chPar sc xs = true) (h3 : vs.length = xs.length) (h4 : chEs n N sc es vs = true) (h5 : swS sc us vs = some (some (xs.map (·.2)))) (O : XOk c G n k N sc X) (tk : Takes X W) (F : StOk X) :
    PS X (.Assign [.Tuple us kk p] (.Tuple vs k2 p2) pos) (lS c (evS G (.par xs es)) W) := by
  have lk : ∀ {x}, sc.names.lookup x = some .local → X.env.scope.names.lookup x = some .local := fun {x} q => by rw [O.hsc]; exact q
  have A := st_names O F h1
  have pa := okEs es sc _ X W h4 O tk
  have sw := swS_eq (k := kk) (k2 := k2) (p := p) (p2 := p2) O.hsc hk h5
  unfold chPar at h2
  split at h2
  · simp only [Bool.and_eq_true, decide_eq_true_eq] at h2
    obtain ⟨⟨g1, g2⟩, g3⟩ := h2
    cases A with
    | cons a1 A =>
      cases A with
      | cons a2 A =>
        cases A
        rcases vs with _ | ⟨a, _ | ⟨b, _ | _⟩⟩ <;> try (simp at h3; done)
        exact st_par2 O.calm O.nd a1.1 a2.1 g1 (lk g2) (lk g3) pa sw
  · simp only [Bool.and_eq_true, decide_eq_true_eq] at h2
    obtain ⟨⟨⟨⟨⟨g1, g2⟩, g3⟩, g4⟩, g5⟩, g6⟩ := h2
    cases A with
    | cons a1 A =>
      cases A with
      | cons a2 A =>
        cases A with
        | cons a3 A =>
          cases A
          rcases vs with _ | ⟨a, _ | ⟨b, _ | ⟨d, _ | _⟩⟩⟩ <;> try (simp at h3; done)
          exact st_par3 O.calm O.nd a1.1 a2.1 a3.1 g1 g2 g3 (lk g4) (lk g5) (lk g6) pa sw
  · cases h2
theorem ok_raise {sc : Scope} {x : Str} {e : Expr} {pos : Pos} {X : Cx} {W : WX} (h : chRaise n sc x e = true) (O : XOk c G n k N sc X) (tk : Takes X W) : PS X (.Raise (some e) none pos) (lS c (evS G (.raise x)) W) := by
  unfold chRaise at h
  split at h
  · simp only [Bool.and_eq_true, beq_iff_eq] at h
    obtain ⟨⟨rfl, h1⟩, h2⟩ := h
    obtain ⟨g1, g2⟩ := glB_gl O.hsc h1
    obtain ⟨C, e1, e2, e3, e4, e5, e6⟩ := O.exc x (by simpa using h2)
    exact st_raise O.calm tk PySem.F.excBase_ValueError e3 e2 e4 (raises_own e5 e6) g1 g2 e1
  · cases h
mutual
theorem okS (sc : Scope) (hk : sc.kind = .function) : ∀ (s : S) (st : Stmt) (X : Cx) (W : WX), chS n N sc s st = true → XOk c G n k N sc X → Takes X W → StOk X → PS X st (lS c (evS G s) W)
  | .asg i x e, st, X, W, h, O, tk, F => by
    cases st with
    | Assign ts v pos =>
      rcases ts with _ | ⟨t, _ | ⟨_, _⟩⟩ <;> try exact Bool.noConfusion (show false = true from h)
      rotate_left
      · cases t <;> exact Bool.noConfusion (show false = true from h)
      · cases t <;> try exact Bool.noConfusion (show false = true from h)
        exact ok_asg hk h O tk F
    | _ => exact Bool.noConfusion (show false = true from h)
  | .unp xs e, st, X, W, h, O, tk, F => by
    cases st with
    | Assign ts v pos =>
      rcases ts with _ | ⟨t, _ | ⟨_, _⟩⟩ <;> try exact Bool.noConfusion (show false = true from h)
      rotate_left
      · cases t <;> exact Bool.noConfusion (show false = true from h)
      · cases t <;> try exact Bool.noConfusion (show false = true from h)
        simp only [chS, Bool.and_eq_true] at h
        obtain ⟨⟨⟨h1, h2⟩, h3⟩, h4⟩ := h
        refine st_unp O.calm O.hK O.nd (st_names O F h1) (okE e sc _ X W h2 O tk).1 (soleNo h3) ?_
        by_cases hv : notTup v = true
        · exact noSwap hv
        · rw [Bool.or_eq_true] at h4
          have h4 := h4.resolve_left hv
          cases v <;> simp only at h4 <;> try (cases h4; done)
          exact swS_eq O.hsc hk (by simpa using h4)
    | _ => exact Bool.noConfusion (show false = true from h)
  | .par xs es, st, X, W, h, O, tk, F => by
    cases st with
    | Assign ts v pos =>
      rcases ts with _ | ⟨t, _ | ⟨_, _⟩⟩ <;> try exact Bool.noConfusion (show false = true from h)
      rotate_left
      · cases t <;> exact Bool.noConfusion (show false = true from h)
      · cases t <;> try exact Bool.noConfusion (show false = true from h)
        cases v <;> try exact Bool.noConfusion (show false = true from h)
        simp only [chS, Bool.and_eq_true, decide_eq_true_eq] at h
        obtain ⟨⟨⟨⟨h1, h2⟩, h3⟩, h4⟩, h5⟩ := h
        exact ok_par hk h1 h2 h3 h4 h5 O tk F
    | _ => exact Bool.noConfusion (show false = true from h)
  | .sto o i e, st, X, W, h, O, tk, F => by
    cases st with
    | Assign ts v pos =>
      rcases ts with _ | ⟨t, _ | ⟨_, _⟩⟩ <;> try exact Bool.noConfusion (show false = true from h)
      rotate_left
      · cases t <;> exact Bool.noConfusion (show false = true from h)
      · cases t <;> try exact Bool.noConfusion (show false = true from h)
        simp only [chS, Bool.and_eq_true] at h
        obtain ⟨⟨⟨⟨h1, h2⟩, h3⟩, h4⟩, h5⟩ := h
        exact st_sto (okE o sc _ X W h1 O tk).1 (okE i sc _ X W h2 O tk).1 (okE e sc _ X W h3 O tk).1 h4 (soleNo h5) noSwapSub
    | _ => exact Bool.noConfusion (show false = true from h)
  | .aug i x o e, st, X, W, h, O, tk, F => by
    cases st with
    | AugAssign t op v pos =>
      cases t <;> try exact Bool.noConfusion (show false = true from h)
      simp only [chS, Bool.and_eq_true, beq_iff_eq, decide_eq_true_eq] at h
      obtain ⟨⟨⟨⟨⟨rfl, h1⟩, h2⟩, rfl⟩, h4⟩, h5⟩ := h
      exact st_aug O.hK O.nd (st_store O F h2 h1) h4 (okE e sc _ X W h5 O tk).1
    | _ => exact Bool.noConfusion (show false = true from h)
  | .exp e, st, X, W, h, O, tk, F => by
    cases st with
    | Expr v pos =>
      simp only [chS, Bool.and_eq_true] at h
      exact st_exp (okE e sc _ X W h.1 O tk).1 (noComp_eq h.2)
    | _ => exact Bool.noConfusion (show false = true from h)
  | .ret e, st, X, W, h, O, tk, F => by
    cases st with
    | Return v pos =>
      cases v with
      | none => exact Bool.noConfusion (show false = true from h)
      | some v =>
        simp only [chS] at h
        exact st_ret (okE e sc _ X W h O tk).1
    | _ => exact Bool.noConfusion (show false = true from h)
  | .ret0, st, X, W, h, O, tk, F => by
    cases st with
    | Return v pos =>
      cases v with
      | none => exact st_ret0
      | some v => exact Bool.noConfusion (show false = true from h)
    | _ => exact Bool.noConfusion (show false = true from h)
  | .if_ d a b, st, X, W, h, O, tk, F => by
    cases st with
    | If t x y pos =>
      simp only [chS, Bool.and_eq_true] at h
      exact st_if (okE d sc _ X W h.1.1 O tk).2 (okSs sc hk a x X W h.1.2 O tk F) (okSs sc hk b y X W h.2 O tk F)
    | _ => exact Bool.noConfusion (show false = true from h)
  | .whl d b, st, X, W, h, O, tk, F => by
    cases st with
    | While t x y pos =>
      cases y with
      | nil =>
        simp only [chS, Bool.and_eq_true] at h
        exact st_whl F.pass (okE d sc _ X W h.1 O tk).2 (okSs sc hk b x X W h.2 O tk F)
      | cons _ _ => exact Bool.noConfusion (show false = true from h)
    | _ => exact Bool.noConfusion (show false = true from h)
  | .for_ tg it b, st, X, W, h, O, tk, F => by
    cases st with
    | For t iter x y pos =>
      cases y with
      | nil =>
        simp only [chS, Bool.and_eq_true] at h
        obtain ⟨⟨⟨h1, h2⟩, h3⟩, h4⟩ := h
        exact st_for O.hK O.calm O.nd (tup := false) (fun z => absurd z (by decide)) F.pass (okI it sc _ t X W h2 O tk) (st_tg O F h1) (okSs sc hk b x X W h3 O tk F) h4
      | cons _ _ => exact Bool.noConfusion (show false = true from h)
    | _ => exact Bool.noConfusion (show false = true from h)
  | .raise x, st, X, W, h, O, tk, F => by
    cases st with
    | Raise e cc pos =>
      cases e <;> cases cc <;> try exact Bool.noConfusion (show false = true from h)
      simp only [chS] at h
      exact ok_raise h O tk
    | _ => exact Bool.noConfusion (show false = true from h)
  | .pass, st, X, W, h, O, tk, F => by
    cases st with
    | Pass pos => exact st_pass
    | _ => exact Bool.noConfusion (show false = true from h)
  | .brk, st, X, W, h, O, tk, F => by
    cases st with
    | Break pos => exact st_brk
    | _ => exact Bool.noConfusion (show false = true from h)
  | .cnt, st, X, W, h, O, tk, F => by
    cases st with
    | Continue pos => exact st_cnt
    | _ => exact Bool.noConfusion (show false = true from h)
theorem okSs (sc : Scope) (hk : sc.kind = .function) : ∀ (s : Ss) (st : List Stmt) (X : Cx) (W : WX), chSs n N sc s st = true → XOk c G n k N sc X → Takes X W → StOk X → PSs X st (lS c (evSs G s) W)
  | .nil, st, X, W, h, O, tk, F => by
    cases st with
    | nil => exact ss_nil
    | cons _ _ => exact Bool.noConfusion (show false = true from h)
  | .cons s ss, st, X, W, h, O, tk, F => by
    cases st with
    | nil => exact Bool.noConfusion (show false = true from h)
    | cons x xs =>
      simp only [chSs, Bool.and_eq_true] at h
      exact ss_cons (okS sc hk s x X W h.1 O tk F) (okSs sc hk ss xs X W h.2 O tk F)
end
end
end Py

namespace Py
open PySem PySem.Spec PyProof.Rows L2
/-! ### a table of defs; calls by levels -/
structure Fd where
  ar : Nat
  n : Nat
  body : Ss
def calN0 (T : Str → Option Fd) (con : Str → Option D) (sub : Str → Str → Bool) : Nat → Cal
  | 0, _, _, _, _, _ => False
  | k + 1, f, ds, A, X, Q => match T f with
    | some d => ds.length = d.ar ∧ runD ⟨calN0 T con sub k, con, sub⟩ d.n d.body ds A X Q
    | none => False
@[irreducible] def calN : (Str → Option Fd) → (Str → Option D) → (Str → Str → Bool) → Nat → Cal := calN0
theorem calN_eq0 : calN = calN0 := by unfold calN; rfl
section
variable {T : Str → Option Fd} {con : Str → Option D} {sub : Str → Str → Bool} {k : Nat} {f : Str} {ds : List D} {A : AH} {X : Dx} {Q : Dk}
theorem calN_zero : calN T con sub 0 f ds A X Q = False := by rw [calN_eq0]; rfl
theorem calN_succ : calN T con sub (k + 1) f ds A X Q = (match T f with
    | some d => ds.length = d.ar ∧ runD ⟨calN T con sub k, con, sub⟩ d.n d.body ds A X Q
    | none => False) := by rw [calN_eq0]; rfl
end
/-- the base of the defs: what holds of every world that stands behind the top -/
structure Base (c : RC) (n : Names) (con : Str → Option D) (P : Program) (w : World) (K : PySem.W.Frag) (mg : Str → Option Value) : Prop where
  hK : K = c.K
  blt : ∀ x ∈ bltAll, mg x = none
  con : ∀ x ∈ n.cons, ∃ d u v, con x = some d ∧ mg x = some u ∧ RelV v u ∧ ∀ H, RelD c.K H d v
  exc : ∀ x ∈ n.excs, ExcOk c K mg x
/-- a def of the table stands in the written part -/
structure StandsAt (n : Names) (d : Fd) (K : PySem.W.Frag) (mg : Str → Option Value) (x : Str) (f : Addr) (fd : FuncData) (ps : List Str) : Prop where
  hm : mg x = some (.ref f)
  bd : Binds K fd ps []
  ex : ∃ (qual : Str) (st : Stmt) (N : List Str), Fun K x qual st f fd ∧ FnScope N ps (defScope st) ∧
    d.ar = ps.length ∧ d.n = N.length ∧ chSs n N (defScope st) d.body (defBody st) = true
def Stands (n : Names) (d : Fd) (K : PySem.W.Frag) (mg : Str → Option Value) (x : Str) : Prop := ∃ (f : Addr) (fd : FuncData) (ps : List Str), StandsAt n d K mg x f fd ps
section
variable {c : RC} {P : Program} {w : World} {K : PySem.W.Frag} {mg : Str → Option Value} {base : Heap} {n : Names} {T : Str → Option Fd} {con : Str → Option D} {sub : Str → Str → Bool}
theorem fn_ok (B : Base c n con P w K mg) (hT : ∀ x ∈ n.defs, ∃ d, T x = some d ∧ Stands n d K mg x) : ∀ (k : Nat) (x : Str) (d : Fd) (f : Addr) (fd : FuncData) (ps : List Str), T x = some d → StandsAt n d K mg x f fd ps →
    FnOk P w K mg base (L2.CX P w) k f fd ps (lSp c (calN T con sub k x))
  | 0, x, d, f, fd, ps, hd, hx => by
    refine ⟨fun vs H Q E h => ?_, fun A outer s H args us vs Q E _ _ _ _ h => ?_⟩
    · obtain ⟨_, _, _, _, _, _, z, _⟩ := h
      exact (cast calN_zero z).elim
    · obtain ⟨_, _, _, _, _, _, z, _⟩ := h
      exact (cast calN_zero z).elim
  | k + 1, x, d, f, fd, ps, hd, ⟨_, _, qual, st, N, F, S, e1, e2, ch⟩ => by
    refine F.okX S (fun vs H Q E h => ?_) fun cdv A outer s H vs Q E hr h => ?_
    · obtain ⟨A, ds, Xd, Qd, ra, rd, z, _⟩ := h
      have z : calN T con sub (k + 1) x ds A Xd Qd := z
      rw [calN_succ] at z
      rw [hd] at z
      rw [rd.length, z.1, e1]
    · obtain ⟨A0, ds, Xd, Qd, ra, rd, z, fq, fw⟩ := h
      have z : calN T con sub (k + 1) x ds A0 Xd Qd := z
      rw [calN_succ] at z
      rw [hd] at z
      obtain ⟨z1, z2⟩ := z
      have O : XOk c ⟨calN T con sub k, con, sub⟩ n k N (defScope st) (cxOf (L2.CX P w) P w K mg base N qual (defScope st) f cdv A outer s H E) :=
        { hK := B.hK, calm := rfl, hN := rfl, nd := S.nd, hsc := rfl, room := hr, blt := B.blt, defs := fun y hy => let ⟨d1, hd1, f1, fd1, ps1, S1⟩ := hT y hy; let ⟨_, _, _, F1, _⟩ := S1.ex; ⟨f1, fd1, ps1, S1.hm, F1.kp, S1.bd, fn_ok B hT k y d1 f1 fd1 ps1 hd1 S1⟩, con := fun x d e hx => (by obtain ⟨d', u, v, e', r⟩ := B.con x hx; cases (show con x = some d from e).symm.trans e'; exact ⟨u, v, r⟩), exc := B.exc }
      refine ⟨_, okSs (defScope st) S.kind d.body (defBody st) _ _ ch O (takes_of rfl rfl rfl rfl) ⟨fun _ => rfl, passes_of rfl⟩, ?_⟩
      refine ⟨ds.map some ++ List.replicate (d.n - ds.length) none, A0, _, ?_, ra, z2, ?_⟩
      · have rl := rd.length
        refine ⟨by simp [L2.start, rl, e2], fun i dd q => ?_⟩
        unfold L2.start
        by_cases hi : i < ds.length
        · rw [List.getElem?_append_left (by simpa using hi), List.getElem?_map] at q
          cases q1 : ds[i]? with
          | none => rw [q1] at q; cases q
          | some y =>
            rw [q1] at q
            cases q
            obtain ⟨v, e3, e4⟩ := (by rw [← B.hK] at rd; exact rd : RelDs K H ds vs).get q1
            refine ⟨v, ?_, by rw [← B.hK]; exact e4⟩
            rw [List.getElem?_append_left (by simpa [rl] using hi), List.getElem?_map, e3]
            rfl
        · rw [List.getElem?_append_right (by simpa using hi)] at q
          rw [List.getElem?_replicate] at q
          split at q <;> cases q
      · refine ⟨fun σd A' σ H' q m' ra' rs' => ?_, fun dd A' v H' q m' ra' rv => ?_, fun σd A' σ H' q => q.elim, fun σd A' σ H' q => q.elim, fun σd y A' C σ H' q cl m' ra' rs' => ?_⟩
        · obtain ⟨A2, sb, q⟩ := q
          exact fq .non A2 .non H' q m' (sb.rel ra') rfl
        · obtain ⟨A2, sb, q⟩ := q
          exact fq dd A2 v H' q m' (sb.rel ra') rv
        · obtain ⟨A2, sb, q⟩ := q
          exact fw y A2 C H' q cl m' (sb.rel ra')
end
end Py

namespace Py
open PySem PySem.Spec PyProof.Rows L2
/-- nothing that the script holds is great -/
def Small (ns : List Int) : Prop := ns.length ≤ 63 ∧ ∀ z ∈ ns, Builtin.Int.intBits z ≤ 1048576
abbrev A0 : AH := fun _ => none
/-- what a law says, plain: at every script its def answers True -/
def LawIs (cal : Cal) (law : Str) : Prop := ∀ ns : List Int, Small ns → cal law [.fl (ns.map .int)] A0 noX (fun d _ => d = .bl true)
/-- behind the top: the base, the table's defs, the law's own object -/
def Behind (l : PySem.W.OpenLaw) (n : Names) (con : Str → Option D) (T : Str → Option Fd) (law : Str) (w : World) (K : PySem.W.Frag) (mg : Str → Option Value) (fa : Addr) : Prop :=
  ∃ cl : Str → Option Addr, Base ⟨K, cl⟩ n con l.prog w K mg ∧ (∀ x ∈ n.defs, ∃ d, T x = some d ∧ Stands n d K mg x) ∧
    ∃ (d : Fd) (fd : FuncData), T law = some d ∧ StandsAt n d K mg law fa fd ["script"] ∧ ∀ (s : Shared) (u : Value), BindsTo s fd ⟨[u], []⟩ [("script", u)]
theorem walk_py {l : PySem.W.OpenLaw} {q : Program} {loose : List Str} {XP : (Str → Option Value) → Heap → Prop} {YP : World → Heap → Prop} {d : DefRec} {K : Params → PySem.W.Frag}
    {n : Names} {con : Str → Option D} {sub : Str → Str → Bool} {T : Str → Option Fd} {law : Str} (k : Nat) (hk : k ≤ 200) (hn : l.most = some 63) (hdf : d.params.defaults = [])
    (hY : ∀ (w : World) (h : Heap), YP w h → (K w.params).In h)
    (F : ∀ (w : World) (mg : Str → Option Value) (fa : Addr) (h : Heap), (K w.params).In h → h.Ns mainGlobals mg → mg d.name = some (.ref fa) → Behind l n con T law w (K w.params) mg fa)
    (spec : LawIs (calN T con sub k) law) :
    PySem.W.WalkO q loose XP YP l.row.toRowW d [] (fun f vs => PySem.call f vs) := by
  refine L2.walk_ofB (n := 63) (k := k) (x := "script") (K := K) (CX := fun w => L2.CX l.prog w) (sp := fun w => fun vs H Q E => ∀ cl, lSp ⟨K w.params, cl⟩ (calN T con sub k law) vs H Q E) hn (by decide) hdf ?_ hY ?_ ?_ ?_
  · exact ⟨rfl, Nat.lt_of_le_of_lt (Nat.add_le_add_right (Nat.add_le_add_left (Nat.mul_le_mul_left 3 hk) _) 5) (by decide), Nat.lt_of_le_of_lt (Nat.add_le_add_right (Nat.add_le_add_left (Nat.mul_le_mul_left 16 hk) _) 200) (by decide)⟩
  · intro w mg fa h KX G hmg
    obtain ⟨cl, B, hT, d, fd, hd, S, hb⟩ := F w mg fa h KX G hmg
    exact ⟨fd, hb, fun base _ _ => (fn_ok B hT k law d fa fd ["script"] hd S).imp fun vs H Q E z => z cl⟩
  · intro w H a ns hl hb hO hS cl
    refine ⟨A0, [.fl (ns.map .int)], noX, fun d _ => d = .bl true, (fun b o z => by cases z), ⟨.ref a, [], rfl, ⟨a, ns.map V.int, rfl, ?_, ?_⟩, rfl⟩, spec ns ⟨hl, hb⟩, fun d A' v H' q _ _ r => ?_, fun y A' C H' q => q.elim⟩
    · rcases hS with (h | h) | h
      · rcases hO a with z | ⟨o, xs, z⟩
        · rw [h] at z; cases z
        · rw [h] at z; cases z
      · exact .inl h
      · exact .inr h
    · refine RelDs.mk (by simp) fun i d v e1 e2 => ?_
      rw [List.getElem?_map] at e1 e2
      cases e : ns[i]? with
      | none => rw [e] at e1; cases e1
      | some z => rw [e] at e1 e2; cases e1; cases e2; rfl
    · subst q
      exact r
  · intro w H s e s' h
    obtain ⟨_, _, _, _, _, _, _, _, _, _, _, _, z⟩ := h
    exact z.elim

/-! ### words for what the written part says -/
theorem al_nil {α : Type} {p : α → Prop} : ∀ x ∈ ([] : List α), p x := fun _ h => nomatch h
theorem al_cons {α : Type} {p : α → Prop} {a : α} {l : List α} (h : p a) (t : ∀ x ∈ l, p x) : ∀ x ∈ a :: l, p x := fun x hx => by
  rcases List.mem_cons.mp hx with rfl | hx
  · exact h
  · exact t x hx
section
variable {K : PySem.W.Frag} {h : Heap} {mg : Str → Option Value} {n : Names} {d : Fd} {x : Str} {f : Addr} {st : Stmt} {N ps : List Str}
theorem stands_mk {oc kV dc pm cd ct : Value} {od an : Option Addr} {sl : Array (Option Value)} (X : K.In h) (G : h.Ns mainGlobals mg) (S : FnScope N ps (defScope st))
    (b : ∀ (kV doc pm : Value) (an : Option Addr) (cdv ct : Value) (us : List Value), us.length = ps.length → bindArgs (PySem.W.fnOf x x (defArgs st) (defBody st) (defScope st) .none kV doc pm an cdv ct) ⟨us, []⟩ = pure (ps.zip us))
    (e1 : d.ar = ps.length) (e2 : d.n = N.length) (ch : chSs n N (defScope st) d.body (defBody st) = true)
    (a : PySem.W.nsIn K mainGlobals x = some (some (.ref f))) (l : K.lookup f = some ⟨oc, od, .func (PySem.W.fnOf x x (defArgs st) (defBody st) (defScope st) .none kV dc pm an cd ct), sl⟩)
    (c : PySem.W.codeIn K cd x = true) (k : PySem.W.keepIn K (.ref f) = true) :
    ∃ fd : FuncData, StandsAt n d K mg x f fd ps ∧ ∀ (s : Shared) (us : List Value), us.length = ps.length → BindsTo s fd ⟨us, []⟩ (ps.zip us) := by
  have F := fun_mk (st := st) l c k
  exact ⟨_, ⟨PySem.W.mg_of X G a, F.binds b, x, st, N, F, S, e1, e2, ch⟩, fun s us hu => .of_eq (b _ _ _ _ _ _ us hu)⟩
def clOf (mg : Str → Option Value) (x : Str) : Option Addr := match mg x with
  | some (.ref C) => some C
  | _ => none
theorem exc_mk (X : K.In h) (G : h.Ns mainGlobals mg) (a : PySem.W.nsIn K mainGlobals x = some (some (.ref f))) (q : PySem.W.excIn K f [.type "ValueError", .type "Exception", .type "BaseException", .type "object"] "ValueError.__new__" = true)
    (k : PySem.W.keepIn K (.ref f) = true) (s : PySem.W.subIn K (.ref f) (.type "BaseException") = some true) (t : PySem.W.typeIn K (.ref f) = some (.type "type")) : ExcOk ⟨K, clOf mg⟩ K mg x :=
  ⟨f, by show clOf mg x = _; unfold clOf; rw [PySem.W.mg_of X G a], PySem.W.mg_of X G a, q, k, s, t⟩
theorem con_int {i : Int} {t : Nat} {con : Str → Option D} (X : K.In h) (G : h.Ns mainGlobals mg) (e : con x = some (.int i)) (a : PySem.W.nsIn K mainGlobals x = some (some (.int i t))) : ∃ d u v, con x = some d ∧ mg x = some u ∧ RelV v u ∧ ∀ H, RelD K H d v :=
  ⟨_, _, .int i, e, PySem.W.mg_of X G a, ⟨t, rfl⟩, fun _ => rfl⟩
end
end Py

namespace Py
open PySem PySem.Spec PyProof.Rows L2
theorem put_same {A : AH} {a : Addr} {o : AO} : put A a o a = some o := by unfold put; simp
theorem put_ne {A : AH} {a b : Addr} {o : AO} (h : b ≠ a) : put A a o b = A b := by unfold put; simp [h]
theorem put_old {A : AH} {p a : Addr} {o o' : AO} (hp : A p = none) (ha : A a = some o) : put A p o' a = some o := by
  rw [put_ne (fun e => by rw [e, hp] at ha; cases ha)]
  exact ha
theorem put_ne1 {A : AH} {p a : Addr} {o' : AO} {v : Option AO} (hn : a ≠ p) (ha : A a = v) : put A p o' a = v := by rw [put_ne hn]; exact ha
theorem put_ne2 {A : AH} {p a : Addr} {o' : AO} {v : Option AO} (hn : p ≠ a) (ha : A a = v) : put A p o' a = v := by rw [put_ne (Ne.symm hn)]; exact ha
/-! ### what the head waits for -/
theorem seqD_lst {A : AH} {a : Addr} {ds : List D} (h : A a = some (.lst ds)) : seqD A (.ref a) = some ds := by simp only [seqD, getL, h]
theorem rd_of {A : AH} {a : Addr} {o : AO} (h : A a = some o) : rd A a = some o := h
theorem getL_lst {A : AH} {a : Addr} {ds : List D} (h : A a = some (.lst ds)) : getL A a = some ds := by simp only [getL, h]
theorem recv_lst {A : AH} {a : Addr} {ds : List D} (h : A a = some (.lst ds)) : recv A (.ref a) = some .list := by simp only [recv, h]
theorem truD_lst {A : AH} {a : Addr} {ds : List D} (h : A a = some (.lst ds)) : truD A (.ref a) = some (!ds.isEmpty) := by simp only [truD, h]
theorem calN_eq {T : Str → Option Fd} {con : Str → Option D} {sub : Str → Str → Bool} {k : Nat} {f : Str} {d : Fd} {ds : List D} {A : AH} {X : Dx} {Q : Dk} (h : T f = some d) (hl : ds.length = d.ar)
    (hr : runD ⟨calN T con sub k, con, sub⟩ d.n d.body ds A X Q) : calN T con sub (k + 1) f ds A X Q := by
  rw [calN_succ, h]
  exact ⟨hl, hr⟩
theorem Sub.refl {A : AH} : Sub A A := fun _ _ h => h
theorem Sub.trans {A B C : AH} (h : Sub A B) (k : Sub B C) : Sub A C := fun a o e => k a o (h a o e)
theorem Sub.fresh {A : AH} {p : Addr} {o : AO} (h : A p = none) : Sub A (put A p o) := fun a o' e => put_old h e
theorem log2_of {n k : Nat} (h : n < 2 ^ k) (hk : 0 < k) : n.log2 < k := by
  by_cases h0 : n = 0
  · subst h0
    simpa using hk
  · exact (Nat.log2_lt h0).mpr h
theorem cmulw {i j : Int} (a b : Nat) (h1 : i.natAbs < 2 ^ a) (h2 : j.natAbs < 2 ^ b) (ha : 0 < a) (hb : 0 < b) (h : a + b ≤ 1000000) : CMulW i j := by
  have e1 := log2_of h1 ha
  have e2 := log2_of h2 hb
  show i.natAbs.log2 + j.natAbs.log2 < 1000000
  omega
theorem cpoww {i j : Int} (a : Nat) (h1 : i.natAbs < 2 ^ a) (ha : 0 < a) (h : a ≤ 10000) (h2 : 0 ≤ j) (h3 : j ≤ 1000) : CPowW i j := ⟨h2, h3, Nat.lt_of_lt_of_le (log2_of h1 ha) h⟩
theorem cdivw {i j : Int} (a : Nat) (h0 : 0 < j) (h1 : j.natAbs < 2 ^ a) (ha : 0 < a) (h : a ≤ 9000) : CDivW i j := ⟨h0, Nat.lt_of_lt_of_le (log2_of h1 ha) h⟩
/-! ### loops -/
theorem for_inv {G : Gd} {tg : Tg} {tb : DEnds → DSt → AH → Prop} {Z : DEnds} (I : Nat → DSt → AH → Prop) : ∀ {ds : List D} {σ : DSt} {A : AH}, I 0 σ A → (∀ j σ A, j ≤ ds.length → I j σ A → holds G A) →
    (∀ j d σ A nx, ds[j]? = some d → I j σ A → (∀ σ' A', I (j + 1) σ' A' → nx σ' A') → bindT tg d σ fun σ' => tb (Z.loop nx) σ' A) → (∀ σ A, I ds.length σ A → Z.nx σ A) → forR G tg tb Z ds σ A
  | [], σ, A, h0, hG, _, hE => by rw [forR_nil]; exact ⟨hG 0 σ A (Nat.zero_le _) h0, hE σ A h0⟩
  | d :: ds, σ, A, h0, hG, hS, hE => by rw [forR_cons]; exact ⟨hG 0 σ A (Nat.zero_le _) h0, hS 0 d σ A _ rfl h0 fun σ' A' h1 =>
      for_inv (fun j => I (j + 1)) h1 (fun j σ A hj => hG (j + 1) σ A (by simpa using hj)) (fun j d σ A nx e h k => hS (j + 1) d σ A nx (by simpa using e) h k) hE⟩
theorem holds_nil {A : AH} : holds [] A := fun _ h => nomatch h
theorem holds_one {A : AH} {a : Addr} {o : AO} (h : A a = some o) : holds [(a, o)] A := fun p hp => by
  cases List.mem_singleton.mp hp
  exact h
theorem rngD_len {lo : Int} {n : Nat} : (rngD lo n).length = n := by simp [rngD]
/-- over a range -/
theorem for_rng {tg : Tg} {tb : DEnds → DSt → AH → Prop} {Z : DEnds} {lo : Int} {n : Nat} {σ : DSt} {A : AH} (I : Nat → DSt → AH → Prop) (h0 : I 0 σ A)
    (step : ∀ j σ A nx, j < n → I j σ A → (∀ σ' A', I (j + 1) σ' A' → nx σ' A') → bindT tg (.int (lo + (j : Nat))) σ fun σ' => tb (Z.loop nx) σ' A) (hE : ∀ σ A, I n σ A → Z.nx σ A) : forR [] tg tb Z (rngD lo n) σ A :=
  for_inv I h0 (fun _ _ _ _ _ => holds_nil) (fun j d σ A nx e h k => by
    obtain ⟨hj, rfl⟩ := rng_get e
    exact step j σ A nx hj h k) (by rw [rngD_len]; exact hE)
/-- list(..) by a comprehension whose parts leave the heap -/
theorem put_put {A : AH} {a : Addr} {o o' : AO} : put (put A a o) a o' = put A a o' := by
  funext b
  unfold put
  by_cases h : b = a
  · simp [h]
  · simp [h]
theorem lc_pure {G : Gd} {tg : Tg} {tt : DSt → AH → (Bool → AH → Prop) → Prop} {te : DSt → AH → Dk → Prop} {σ : DSt} {L : Addr} {Q : AH → Prop} {A : AH} (p : D → Bool) (g : D → D) : ∀ (ds : List D) (acc : List D), acc.length + ds.length ≤ sizeLine →
    (∀ acc, holds G (put A L (.lst acc))) →
    (∀ d ∈ ds, ∃ σ', (∀ k : DSt → Prop, k σ' → bindT tg d σ k) ∧ (∀ acc R, R (p d) (put A L (.lst acc)) → tt σ' (put A L (.lst acc)) R) ∧ (p d = true → ∀ acc R, R (g d) (put A L (.lst acc)) → te σ' (put A L (.lst acc)) R)) →
    Q (put A L (.lst (acc ++ (ds.filter p).map g))) → lcR G tg tt te σ L Q ds (put A L (.lst acc))
  | [], acc, _, hG, _, hQ => by rw [lcR_nil]; exact ⟨hG acc, by simpa using hQ⟩
  | d :: ds, acc, hz, hG, hS, hQ => by
    obtain ⟨σ', h1, h2, h3⟩ := hS d List.mem_cons_self
    rw [lcR_cons]
    refine ⟨hG acc, h1 _ (h2 _ _ ?_)⟩
    have hz' : acc.length + (ds.length + 1) ≤ sizeLine := by simpa using hz
    cases e : p d with
    | true =>
      refine h3 e _ _ ?_
      rw [rd_of put_same]
      refine ⟨by omega, ?_⟩
      rw [put_put]
      refine lc_pure p g ds _ (by simp; omega) hG (fun d hd => hS d (List.mem_cons_of_mem _ hd)) ?_
      simpa [e] using hQ
    | false =>
      refine lc_pure p g ds _ (by omega) hG (fun d hd => hS d (List.mem_cons_of_mem _ hd)) ?_
      simpa [e] using hQ
end Py

namespace Py
open PySem PySem.Spec PyProof.Rows L2
/-! ### == on plain data -/
mutual
/-- no bools, no dicts -/
def nb : PyData → Bool
  | .none => true
  | .int _ => true
  | .str x => PyData.strOk x
  | .list xs => nbs xs
  | .tuple xs => nbs xs
  | .bool _ => false
  | .dict _ => false
def nbs : List PyData → Bool
  | [] => true
  | x :: xs => nb x && nbs xs
end
mutual
theorem canLay_nb : ∀ p : PyData, nb p = true → p.canLay0 = true
  | .none, _ => by simp only [PyData.canLay0]
  | .int _, _ => by simp only [PyData.canLay0]
  | .str x, h => by simpa only [PyData.canLay0, nb] using h
  | .list xs, h => by
    simp only [PyData.canLay0]
    exact canLays_nb xs (by simpa only [nb] using h)
  | .tuple xs, h => by
    simp only [PyData.canLay0]
    exact canLays_nb xs (by simpa only [nb] using h)
  | .bool _, h => by simp [nb] at h
  | .dict _, h => by simp [nb] at h
theorem canLays_nb : ∀ p : List PyData, nbs p = true → PyData.canLayAll0 p = true
  | [], _ => by simp only [PyData.canLayAll0]
  | x :: xs, h => by
    simp only [nbs, Bool.and_eq_true] at h
    simp only [PyData.canLayAll0, Bool.and_eq_true]
    exact ⟨canLay_nb x h.1, canLays_nb xs h.2⟩
end
mutual
theorem eqv_nb : ∀ p q : PyData, nb p = true → nb q = true → (PyData.eqv p q = true ↔ p = q)
  | .none, q, _, hq => by cases q <;> simp [PyData.eqv]
  | .int i, q, _, hq => by cases q <;> simp [PyData.eqv, nb] at hq ⊢
  | .str x, q, _, hq => by cases q <;> simp [PyData.eqv, nb] at hq ⊢
  | .list xs, q, hp, hq => by
    cases q with
    | list ys =>
      simp only [nb] at hp hq
      have := eqvs_nb xs ys hp hq
      simp [PyData.eqv, this]
    | _ => simp [PyData.eqv, nb] at hq ⊢
  | .tuple xs, q, hp, hq => by
    cases q with
    | tuple ys =>
      simp only [nb] at hp hq
      have := eqvs_nb xs ys hp hq
      simp [PyData.eqv, this]
    | _ => simp [PyData.eqv, nb] at hq ⊢
  | .bool _, _, h, _ => by simp [nb] at h
  | .dict _, _, h, _ => by simp [nb] at h
theorem eqvs_nb : ∀ p q : List PyData, nbs p = true → nbs q = true → (PyData.eqvAll p q = true ↔ p = q)
  | [], [], _, _ => by simp [PyData.eqvAll]
  | [], _ :: _, _, _ => by simp [PyData.eqvAll]
  | _ :: _, [], _, _ => by simp [PyData.eqvAll]
  | x :: xs, y :: ys, hp, hq => by
    simp only [nbs, Bool.and_eq_true] at hp hq
    have h1 := eqv_nb x y hp.1 hq.1
    have h2 := eqvs_nb xs ys hp.2 hq.2
    simp [PyData.eqvAll, h1, h2]
end
theorem shaped_nb {p : PyData} (h : nb p = true) (hd : p.depth ≤ 64) : SeqAt.shaped p = true := by
  unfold SeqAt.shaped
  rw [canLay_nb p h, decide_eq_true hd]
  rfl
theorem eqD_of {A : AH} {x y : D} {p q : PyData} (hs : isScal x = false ∨ isScal y = false) (hx : snap A 60 x = some p) (hy : snap A 60 y = some q) (np : nb p = true) (nq : nb q = true) (dp : p.depth ≤ 64) (dq : q.depth ≤ 64) [Decidable (p = q)] :
    eqD A x y = some (decide (p = q)) := by
  have e : eqD A x y = (match snap A 60 x, snap A 60 y with
    | some p, some q => if SeqAt.shaped p && SeqAt.shaped q then some (PyData.eqv p q) else none
    | _, _ => none) := by
    cases x <;> cases y <;> first | rfl | (rcases hs with h | h <;> cases h)
  rw [e, hx, hy]
  simp only [shaped_nb np dp, shaped_nb nq dq, Bool.and_self, if_true]
  congr 1
  have := eqv_nb p q np nq
  by_cases h : p = q
  · rw [decide_eq_true h]
    exact this.mpr h
  · rw [decide_eq_false h]
    cases e2 : PyData.eqv p q with
    | false => rfl
    | true => exact absurd (this.mp e2) h
/-! ### lists of ints -/
theorem allSome_map {α β : Type} {f : α → Option β} {g : α → β} : ∀ {l : List α}, (∀ x ∈ l, f x = some (g x)) → allSome (l.map f) = some (l.map g)
  | [], _ => rfl
  | x :: l, h => by
    have ih := allSome_map (l := l) fun y hy => h y (List.mem_cons_of_mem _ hy)
    simp only [List.map_cons, h x List.mem_cons_self, allSome, ih, Option.map_some]
theorem nbs_all : ∀ {l : List PyData}, (∀ x ∈ l, nb x = true) → nbs l = true
  | [], _ => by simp [nbs]
  | x :: l, h => by simp only [nbs, h x List.mem_cons_self, nbs_all (l := l) fun y hy => h y (List.mem_cons_of_mem _ hy), Bool.and_self]
theorem depths_le {n : Nat} : ∀ {l : List PyData}, (∀ x ∈ l, x.depth ≤ n) → PyData.depthAll l ≤ n
  | [], _ => by simp [PyData.depthAll]
  | x :: l, h => by
    have h1 := h x List.mem_cons_self
    have h2 := depths_le (l := l) fun y hy => h y (List.mem_cons_of_mem _ hy)
    simp only [PyData.depthAll]
    omega
theorem map_int_inj {ns ms : List Int} : ns.map PyData.int = ms.map PyData.int ↔ ns = ms := by
  constructor
  · intro h
    induction ns generalizing ms with
    | nil => cases ms with | nil => rfl | cons _ _ => simp at h
    | cons a l ih => cases ms with | nil => simp at h | cons b m => simp only [List.map_cons, List.cons.injEq, PyData.int.injEq] at h; rw [h.1, ih h.2]
  · rintro rfl; rfl
/-- lists of ints -/
theorem eqD_ints {A : AH} {a b : Addr} {ns ms : List Int} (ha : A a = some (.lst (ns.map .int))) (hb : A b = some (.lst (ms.map .int))) : eqD A (.ref a) (.ref b) = some (decide (ns = ms)) := by
  have sn : ∀ (c : Addr) (l : List Int), A c = some (.lst (l.map .int)) → snap A 60 (.ref c) = some (.list (l.map .int)) := fun c l h => by
    show (match getL A c with | some ds => _ | none => _) = _
    unfold getL
    rw [h]
    show (allSome ((l.map D.int).map (snap A 59))).map PyData.list = _
    rw [List.map_map]
    have q := allSome_map (f := snap A 59 ∘ D.int) (g := PyData.int) (l := l) fun x _ => rfl
    rw [q]
    rfl
  have nn : ∀ l : List Int, nb (.list (l.map .int)) = true := fun l => by
    simp only [nb]
    exact nbs_all fun x hx => by obtain ⟨i, _, rfl⟩ := List.mem_map.mp hx; simp [nb]
  have dd : ∀ l : List Int, (PyData.list (l.map .int)).depth ≤ 64 := fun l => by
    have := depths_le (n := 1) (l := l.map PyData.int) fun x hx => by obtain ⟨i, _, rfl⟩ := List.mem_map.mp hx; simp [PyData.depth]
    simp only [PyData.depth]
    omega
  haveI : Decidable (PyData.list (ns.map .int) = PyData.list (ms.map .int)) := decidable_of_iff (ns = ms) (by simp [map_int_inj])
  rw [eqD_of (.inl rfl) (sn a ns ha) (sn b ms hb) (nn _) (nn _) (dd _) (dd _)]
  congr 1
  simp [map_int_inj]

end Py

namespace K35
open PySem PySem.Spec PyProof.Rows L2 Py
def top (i : Nat) : Stmt := PySem.Challenge.pw_moveafter_k35_effects_counted.main.body.getD i (.Pass ⟨0, 0, 0, 0⟩)
def nm : Names := ⟨["is_int", "in_range", "count_effects", "_law_jug", "_law_drop", "_law_due", "law"], ["ITEMS"], ["NoSize"]⟩
def b_is_int : Ss := (.cons (.ret (.bop true (.cons (.isi (.var 0 "value") .int) (.cons (.not (.isi (.var 0 "value") .bool)) .nil)))) .nil)
def d_is_int : Fd := ⟨1, 1, b_is_int⟩
def b_in_range : Ss := (.cons (.ret (.bop true (.cons (.call "is_int" (.cons (.var 0 "value") .nil)) (.cons (.chain .le .le (.var 1 "low") (.var 0 "value") (.var 2 "high")) .nil)))) .nil)
def d_in_range : Fd := ⟨3, 3, b_in_range⟩
def b_count_effects : Ss := (.cons (.if_ (.not (.call "in_range" (.cons (.var 0 "size") (.cons (.cst (.int 1)) (.cons (.gv "ITEMS") .nil))))) (.cons (.raise "NoSize") .nil) .nil) (.cons (.unp [(1, "arrangements"), (2, "permutations")] (.tup (.cons (.cst (.int 1)) (.cons (.cst (.int 1)) .nil)))) (.cons (.for_ (.name 3 "factor") (.rng2 (.var 0 "size") (.bin .mul (.cst (.int 2)) (.var 0 "size"))) (.cons (.aug 1 "arrangements" .mul (.var 3 "factor")) .nil)) (.cons (.for_ (.name 3 "factor") (.rng2 (.cst (.int 2)) (.bin .add (.var 0 "size") (.cst (.int 1)))) (.cons (.aug 2 "permutations" .mul (.var 3 "factor")) .nil)) (.cons (.ret (.bin .add (.bin .sub (.var 1 "arrangements") (.var 2 "permutations")) (.cst (.int 1)))) .nil)))))
def d_count_effects : Fd := ⟨1, 4, b_count_effects⟩
def b__law_jug : Ss := (.cons (.asg 2 "cell" (.ite (.cmp .lt (.var 1 "k") (.bif .len (.cons (.var 0 "script") .nil))) (.idx (.var 0 "script") (.var 1 "k")) (.cst (.int 0)))) (.cons (.ret (.lst (.cons (.bif .max (.cons (.cst (.int 0)) (.cons (.bin .sub (.var 2 "cell") (.bin .pow (.cst (.int 10)) (.cst (.int 18)))) .nil))) (.cons (.bin .add (.bin .mul (.bin .mod (.var 2 "cell") (.bin .add (.bin .pow (.cst (.int 10)) (.cst (.int 42))) (.cst (.int 63)))) (.cst (.int 64))) (.var 1 "k")) (.cons (.cst (.int 0)) .nil))))) .nil))
def d__law_jug : Fd := ⟨2, 3, b__law_jug⟩
def b__law_drop : Ss := (.cons (.if_ (.cmp .gt (.idx (.var 0 "jug") (.cst (.int 0))) (.cst (.int 0))) (.cons (.asg 2 "found" (.bin .mod (.idx (.var 0 "jug") (.cst (.int 0))) (.var 1 "many"))) (.cons (.sto (.var 0 "jug") (.cst (.int 0)) (.bin .fdiv (.idx (.var 0 "jug") (.cst (.int 0))) (.var 1 "many"))) (.cons (.ret (.var 2 "found")) .nil))) .nil) (.cons (.sto (.var 0 "jug") (.cst (.int 2)) (.bin .add (.idx (.var 0 "jug") (.cst (.int 2))) (.cst (.int 1)))) (.cons (.asg 3 "mixed" (.bin .mod (.bin .pow (.bin .add (.idx (.var 0 "jug") (.cst (.int 1))) (.bin .mul (.cst (.int 122949823)) (.idx (.var 0 "jug") (.cst (.int 2))))) (.cst (.int 3))) (.bin .add (.bin .pow (.cst (.int 10)) (.cst (.int 45))) (.cst (.int 9))))) (.cons (.asg 3 "mixed" (.bin .mod (.bin .pow (.bin .add (.var 3 "mixed") (.bin .mul (.cst (.int 49979687)) (.idx (.var 0 "jug") (.cst (.int 2))))) (.cst (.int 3))) (.bin .add (.bin .pow (.cst (.int 10)) (.cst (.int 43))) (.cst (.int 57))))) (.cons (.ret (.bin .mod (.bin .fdiv (.var 3 "mixed") (.cst (.int 327689))) (.var 1 "many"))) .nil)))))
def d__law_drop : Fd := ⟨2, 4, b__law_drop⟩
def b__law_due : Ss := (.cons (.unp [(1, "rows"), (2, "orders")] (.tup (.cons (.cst (.int 1)) (.cons (.cst (.int 1)) .nil)))) (.cons (.for_ (.name 3 "many") (.rng1 (.var 0 "size_here")) (.cons (.asg 1 "rows" (.bin .mul (.var 1 "rows") (.bin .add (.var 0 "size_here") (.var 3 "many")))) (.cons (.asg 2 "orders" (.bin .mul (.var 2 "orders") (.bin .add (.var 3 "many") (.cst (.int 1))))) .nil))) (.cons (.ret (.bin .add (.bin .sub (.var 1 "rows") (.var 2 "orders")) (.cst (.int 1)))) .nil)))
def d__law_due : Fd := ⟨1, 4, b__law_due⟩
def b_law : Ss := (.cons (.for_ (.name 1 "size_here") (.rng2 (.cst (.int 1)) (.cst (.int 61))) (.cons (.if_ (.cmp .ne (.bif .repr (.cons (.call "count_effects" (.cons (.var 1 "size_here") .nil)) .nil)) (.bif .repr (.cons (.call "_law_due" (.cons (.var 1 "size_here") .nil)) .nil))) (.cons (.ret (.cst (.bl false))) .nil) .nil) .nil)) (.cons (.for_ (.name 2 "k") (.rng1 (.bif .max (.cons (.cst (.int 1)) (.cons (.bif .min (.cons (.cst (.int 4)) (.cons (.bif .len (.cons (.var 0 "script") .nil)) .nil))) .nil)))) (.cons (.asg 1 "size_here" (.bin .add (.cst (.int 1)) (.call "_law_drop" (.cons (.call "_law_jug" (.cons (.var 0 "script") (.cons (.var 2 "k") .nil))) (.cons (.cst (.int 60)) .nil))))) (.cons (.if_ (.cmp .ne (.lc (.call "count_effects" (.cons (.var 1 "size_here") .nil)) (.name 3 "again") (.rng1 (.cst (.int 3))) .nil [("again", 3)]) (.bin .mul (.lst (.cons (.call "_law_due" (.cons (.var 1 "size_here") .nil)) .nil)) (.cst (.int 3)))) (.cons (.ret (.cst (.bl false))) .nil) .nil) .nil))) (.cons (.ret (.cmp .eq (.lc (.call "count_effects" (.cons (.var 1 "size_here") .nil)) (.name 1 "size_here") (.seq (.lst (.cons (.cst (.int 1)) (.cons (.cst (.int 2)) (.cons (.cst (.int 3)) (.cons (.cst (.int 4)) .nil)))))) .nil [("size_here", 1)]) (.lst (.cons (.cst (.int 1)) (.cons (.cst (.int 5)) (.cons (.cst (.int 55)) (.cons (.cst (.int 817)) .nil))))))) .nil)))
def d_law : Fd := ⟨1, 4, b_law⟩
def tab : Str → Option Fd := fun x => ([("is_int", d_is_int), ("in_range", d_in_range), ("count_effects", d_count_effects), ("_law_jug", d__law_jug), ("_law_drop", d__law_drop), ("_law_due", d__law_due), ("law", d_law)] : List (Str × Fd)).lookup x
def con : Str → Option D := fun x => ([("ITEMS", .int 60)] : List (Str × D)).lookup x
def sub : Str → Str → Bool := fun _ _ => false
abbrev cal (k : Nat) : Cal := calN tab con sub k
theorem sc_is_int : FnScope ["value"] ["value"] (defScope (top 5)) := ⟨rfl, rfl, rfl, by decide +kernel, rfl, by decide +kernel, by decide +kernel⟩
theorem ch_is_int : chSs nm ["value"] (defScope (top 5)) b_is_int (defBody (top 5)) = true := by decide +kernel
theorem t_is_int : tab "is_int" = some d_is_int := by rfl
theorem sc_in_range : FnScope ["value", "low", "high"] ["value", "low", "high"] (defScope (top 6)) := ⟨rfl, rfl, rfl, by decide +kernel, rfl, by decide +kernel, by decide +kernel⟩
theorem ch_in_range : chSs nm ["value", "low", "high"] (defScope (top 6)) b_in_range (defBody (top 6)) = true := by decide +kernel
theorem t_in_range : tab "in_range" = some d_in_range := by rfl
theorem sc_count_effects : FnScope ["size", "arrangements", "permutations", "factor"] ["size"] (defScope (top 8)) := ⟨rfl, rfl, rfl, by decide +kernel, rfl, by decide +kernel, by decide +kernel⟩
theorem ch_count_effects : chSs nm ["size", "arrangements", "permutations", "factor"] (defScope (top 8)) b_count_effects (defBody (top 8)) = true := by decide +kernel
theorem t_count_effects : tab "count_effects" = some d_count_effects := by rfl
theorem sc__law_jug : FnScope ["script", "k", "cell"] ["script", "k"] (defScope (top 10)) := ⟨rfl, rfl, rfl, by decide +kernel, rfl, by decide +kernel, by decide +kernel⟩
theorem ch__law_jug : chSs nm ["script", "k", "cell"] (defScope (top 10)) b__law_jug (defBody (top 10)) = true := by decide +kernel
theorem t__law_jug : tab "_law_jug" = some d__law_jug := by rfl
theorem sc__law_drop : FnScope ["jug", "many", "found", "mixed"] ["jug", "many"] (defScope (top 11)) := ⟨rfl, rfl, rfl, by decide +kernel, rfl, by decide +kernel, by decide +kernel⟩
theorem ch__law_drop : chSs nm ["jug", "many", "found", "mixed"] (defScope (top 11)) b__law_drop (defBody (top 11)) = true := by decide +kernel
theorem t__law_drop : tab "_law_drop" = some d__law_drop := by rfl
theorem sc__law_due : FnScope ["size_here", "rows", "orders", "many"] ["size_here"] (defScope (top 12)) := ⟨rfl, rfl, rfl, by decide +kernel, rfl, by decide +kernel, by decide +kernel⟩
theorem ch__law_due : chSs nm ["size_here", "rows", "orders", "many"] (defScope (top 12)) b__law_due (defBody (top 12)) = true := by decide +kernel
theorem t__law_due : tab "_law_due" = some d__law_due := by rfl
theorem sc_law : FnScope ["script", "size_here", "k", "again"] ["script"] (defScope (top 13)) := ⟨rfl, rfl, rfl, by decide +kernel, rfl, by decide +kernel, by decide +kernel⟩
theorem ch_law : chSs nm ["script", "size_here", "k", "again"] (defScope (top 13)) b_law (defBody (top 13)) = true := by decide +kernel
theorem t_law : tab "law" = some d_law := by rfl
end K35

set_option exponentiation.threshold 2000
/-! short words for what is done again and again (they stand for this text alone) -/
local macro_rules | `(tactic| walk_at "look") => `(tactic| first | assumption | exact Py.put_same | exact Py.put_old (by assumption) (by walk_at "look") | exact Py.put_ne1 (by assumption) (by walk_at "look") | exact Py.put_ne2 (by assumption) (by walk_at "look"))
local macro_rules | `(tactic| walk_at "lit") => `(tactic| first | exact ⟨by decide, by decide, by decide +kernel⟩ | exact ⟨by decide, by decide +kernel⟩ | rfl | assumption | exact Nat.le_of_ble_eq_true rfl | decide +kernel | omega)
local macro_rules | `(tactic| walk_at "wait") => `(tactic| first
  | rw [Py.rd_of (by walk_at "look")]
  | rw [Py.seqD_lst (by walk_at "look")]
  | rw [Py.getL_lst (by walk_at "look")]
  | rw [Py.recv_lst (by walk_at "look")]
  | rw [Py.truD_lst (by walk_at "look")]
  | rw [decide_eq_true (by assumption)]
  | rw [decide_eq_false (by assumption)]
  | rw [decide_eq_true (rfl : _ = _)]
  | rw [‹L2.atI _ _ = some _›]
  | rw [Py.put_same]
  | rw [Py.put_old (by assumption) (by walk_at "look")])
local macro_rules | `(tactic| walk_at "hd") => `(tactic| ((conv => whnf); repeat (walk_at "wait"; conv => whnf)))
local macro_rules | `(tactic| walk_at "run") => `(tactic| ((conv => whnf); repeat (first | (refine And.intro (by walk_at "lit") ?_; conv => whnf) | (walk_at "wait"; conv => whnf))))
namespace K35
open PySem PySem.Spec PyProof.Rows L2 Py
/-! ### the numbers -/
def pr (lo : Int) : Nat → Int
  | 0 => 1
  | n + 1 => pr lo n * (lo + (n : Nat))
theorem pr_shift : ∀ m : Nat, pr 1 (m + 1) = pr 2 m
  | 0 => rfl
  | m + 1 => by
    show pr 1 (m + 1) * (1 + ((m + 1 : Nat) : Int)) = pr 2 m * (2 + (m : Nat))
    rw [pr_shift m]
    congr 1
    push_cast
    omega
theorem pr_small (lo : Nat) : ∀ n : Nat, lo + n ≤ 128 → (pr lo n).natAbs < 2 ^ (7 * n + 1)
  | 0, _ => by show 1 < 2 ^ 1; decide
  | n + 1, h => by
    show (pr lo n * ((lo : Int) + (n : Nat))).natAbs < _
    have ih := pr_small lo n (by omega)
    rw [Int.natAbs_mul]
    have e : ((lo : Int) + (n : Nat)).natAbs < 2 ^ 7 := by show _ < 128; omega
    have : 2 ^ (7 * (n + 1) + 1) = 2 ^ (7 * n + 1) * 2 ^ 7 := by
      rw [← Nat.pow_add]
      congr 1
    rw [this]
    exact Nat.mul_lt_mul'' ih e
def cnt (n : Nat) : Int := pr n n - pr 1 n + 1
theorem mul_pr {lo n : Nat} (h : lo + n ≤ 127) {i : Int} (hi : i.natAbs < 2 ^ 7) : CMulW (pr lo n) i := cmulw (7 * n + 1) 7 (pr_small lo n (by omega)) hi (by omega) (by omega) (by omega)
/-! ### the defs -/
theorem sp_is_int {k : Nat} {i : Int} {A : AH} {X : Dx} {Q : Dk} (h : Q (.bl true) A) : cal (k + 1) "is_int" [.int i] A X Q := by
  refine calN_eq t_is_int rfl ?_
  walk_at "hd"
  exact ⟨A, .refl, h⟩
theorem sp_in_range {k : Nat} {i lo hi : Int} {A : AH} {X : Dx} {Q : Dk} (h : Q (.bl (decide (lo ≤ i) && decide (i ≤ hi))) A) : cal (k + 2) "in_range" [.int i, .int lo, .int hi] A X Q := by
  refine calN_eq t_in_range rfl ?_
  walk_at "hd"
  refine sp_is_int ?_
  walk_at "hd"
  by_cases e : lo ≤ i
  · walk_at "hd"
    exact ⟨A, .refl, by simpa [e] using h⟩
  · walk_at "hd"
    exact ⟨A, .refl, by simpa [e] using h⟩
theorem sp_count {k : Nat} {n : Nat} {A : AH} {X : Dx} {Q : Dk} (h1 : 1 ≤ n) (h2 : n ≤ 60) (h : Q (.int (cnt n)) A) : cal (k + 3) "count_effects" [.int n] A X Q := by
  refine calN_eq t_count_effects rfl ?_
  walk_at "hd"
  refine sp_in_range ?_
  rw [decide_eq_true (by omega : (1 : Int) ≤ n), decide_eq_true (by omega : (n : Int) ≤ 60)]
  walk_at "hd"
  refine ⟨by decide, ?_⟩
  walk_at "hd"
  refine ⟨rfl, ?_⟩
  walk_at "hd"
  refine ⟨cmulw 2 6 (by decide) (by show _ < 64; omega) (by decide) (by decide) (by decide), ?_⟩
  walk_at "hd"
  refine ⟨by omega, ?_⟩
  walk_at "hd"
  have e1 : (2 * (n : Int) - n).toNat = n := by omega
  rw [e1]
  refine for_rng (fun j σ A' => A' = A ∧ ∃ v, σ = [some (.int n), some (.int (pr n j)), some (.int 1), v]) ⟨rfl, none, rfl⟩ ?_ ?_
  · rintro j σ A' nx hj ⟨rfl, v, rfl⟩ k
    walk_at "hd"
    refine ⟨mul_pr (by omega) (by show _ < 128; omega), ?_⟩
    walk_at "hd"
    exact k _ _ ⟨rfl, _, rfl⟩
  rintro σ A' ⟨rfl, v, rfl⟩
  walk_at "hd"
  refine ⟨by omega, ?_⟩
  walk_at "hd"
  have e2 : ((n : Int) + 1 - 2).toNat = n - 1 := by omega
  rw [e2]
  refine for_rng (fun j σ A => A = A' ∧ ∃ v, σ = [some (.int n), some (.int (pr n n)), some (.int (pr 2 j)), v]) ⟨rfl, _, rfl⟩ ?_ ?_
  · rintro j σ A' nx hj ⟨rfl, v, rfl⟩ k
    walk_at "hd"
    refine ⟨mul_pr (lo := 2) (by omega) (by show _ < 128; omega), ?_⟩
    walk_at "hd"
    exact k _ _ ⟨rfl, _, rfl⟩
  rintro σ A ⟨rfl, v, rfl⟩
  walk_at "hd"
  refine ⟨A, .refl, ?_⟩
  have e3 : pr 1 n = pr 2 (n - 1) := by
    obtain ⟨m, rfl⟩ : ∃ m, n = m + 1 := ⟨n - 1, by omega⟩
    exact pr_shift m
  rw [← e3]
  exact h
theorem sp_due {k : Nat} {n : Nat} {A : AH} {X : Dx} {Q : Dk} (h2 : n ≤ 60) (h : Q (.int (cnt n)) A) : cal (k + 1) "_law_due" [.int n] A X Q := by
  refine calN_eq t__law_due rfl ?_
  walk_at "hd"
  refine ⟨by decide, ?_⟩
  walk_at "hd"
  refine ⟨rfl, ?_⟩
  walk_at "hd"
  refine ⟨by omega, by omega, ?_⟩
  have e1 : (n : Int).toNat = n := by omega
  walk_at "hd"
  rw [e1]
  refine for_rng (fun j σ A' => A' = A ∧ ∃ v, σ = [some (.int n), some (.int (pr n j)), some (.int (pr 1 j)), v]) ⟨rfl, none, rfl⟩ ?_ ?_
  · rintro j σ A' nx hj ⟨rfl, v, rfl⟩ k
    walk_at "hd"
    refine ⟨mul_pr (by omega) (by show _ < 128; omega), ?_⟩
    walk_at "hd"
    refine ⟨mul_pr (lo := 1) (by omega) (by show _ < 128; omega), ?_⟩
    walk_at "hd"
    refine k _ _ ⟨rfl, some (.int (0 + (j : Int))), ?_⟩
    show [_, some (D.int (pr n j * (n + (0 + (j : Int))))), some (D.int (pr 1 j * (0 + (j : Int) + 1))), _] = [_, some (D.int (pr n j * (n + (j : Int)))), some (D.int (pr 1 j * (1 + (j : Int)))), _]
    rw [Int.zero_add, Int.add_comm (j : Int) 1]
  rintro σ A' ⟨rfl, v, rfl⟩
  walk_at "hd"
  exact ⟨_, .refl, h⟩

def J (A : AH) (a : Addr) (m : Nat) : Prop := ∃ a0 a1 a2 : Int, A a = some (.lst [.int a0, .int a1, .int a2]) ∧ 0 ≤ a1 ∧ a1 < 2 ^ 200 ∧ 0 ≤ a2 ∧ a2 ≤ m
theorem sp_drop {k m : Nat} {a : Addr} {many : Int} {A : AH} {X : Dx} {Q : Dk} (hJ : J A a m) (hm : m < 2 ^ 60) (h0 : 0 < many) (h1 : many < 2 ^ 60)
    (h : ∀ r A', 0 ≤ r → r < many → (∃ b, A' = put A a b) → J A' a (m + 1) → Q (.int r) A') : cal (k + 1) "_law_drop" [.ref a, .int many] A X Q := by
  obtain ⟨a0, a1, a2, hA, b1, b2, b3, b4⟩ := hJ
  refine calN_eq t__law_drop rfl ?_
  walk_at "hd"
  by_cases c : 0 < a0
  · walk_at "hd"
    refine ⟨h0, ?_⟩
    walk_at "hd"
    refine ⟨cdivw 60 h0 (by omega) (by decide) (by decide), ?_⟩
    walk_at "hd"
    refine ⟨_, .refl, h _ _ (Int.emod_nonneg _ (by omega)) (Int.emod_lt_of_pos _ h0) ⟨_, rfl⟩ ⟨_, _, _, put_same, b1, b2, b3, by omega⟩⟩
  · walk_at "hd"
    refine ⟨cmulw 30 61 (by decide) (by omega) (by decide) (by decide) (by decide), ?_⟩
    walk_at "hd"
    refine ⟨cpoww 300 (by omega) (by decide) (by decide) (by decide) (by decide), ?_⟩
    walk_at "hd"
    refine ⟨⟨by decide, by decide, by decide +kernel⟩, ?_⟩
    walk_at "hd"
    refine ⟨by decide +kernel, ?_⟩
    walk_at "hd"
    generalize hx : (a1 + 122949823 * (a2 + 1)) ^ Int.toNat 3 % (10 ^ Int.toNat 45 + 9) = x
    have x1 : 0 ≤ x := by rw [← hx]; exact Int.emod_nonneg _ (by decide +kernel)
    have x2 : x < 10 ^ Int.toNat 45 + 9 := by rw [← hx]; exact Int.emod_lt_of_pos _ (by decide +kernel)
    have x3 : x < 2 ^ 200 := Int.lt_trans x2 (by decide +kernel)
    refine ⟨cmulw 30 61 (by decide) (by omega) (by decide) (by decide) (by decide), ?_⟩
    walk_at "hd"
    refine ⟨cpoww 300 (by omega) (by decide) (by decide) (by decide) (by decide), ?_⟩
    walk_at "hd"
    refine ⟨⟨by decide, by decide, by decide +kernel⟩, ?_⟩
    walk_at "hd"
    refine ⟨by decide +kernel, ?_⟩
    walk_at "hd"
    refine ⟨⟨by decide, by decide +kernel⟩, ?_⟩
    walk_at "hd"
    refine ⟨h0, ?_⟩
    walk_at "hd"
    exact ⟨_, .refl, h _ _ (Int.emod_nonneg _ (by omega)) (Int.emod_lt_of_pos _ h0) ⟨_, rfl⟩ ⟨_, _, _, put_same, b1, b2, by omega, by omega⟩⟩
theorem sp_jug {k : Nat} {ns : List Int} {j : Nat} {A : AH} {X : Dx} {Q : Dk} (hj : j < 2 ^ 60) (h : ∀ p A', A p = none → Py.Sub A A' → J A' p 0 → Q (.ref p) A') : cal (k + 1) "_law_jug" [.fl (ns.map .int), .int j] A X Q := by
  refine calN_eq t__law_jug rfl ?_
  have core : ∀ c : Int, ∀ p, A p = none → ∃ A2, Py.Sub A2 (put A p (.lst [.int (if c - 10 ^ Int.toNat 18 > 0 then c - 10 ^ Int.toNat 18 else 0), .int (c % (10 ^ Int.toNat 42 + 63) * 64 + j), .int 0])) ∧ Q (.ref p) A2 := fun c p hp => by
    refine ⟨_, .refl, h p _ hp (Sub.fresh hp) ⟨_, _, _, put_same, ?_, ?_, by omega, by omega⟩⟩
    all_goals
      have x1 : 0 ≤ c % (10 ^ Int.toNat 42 + 63) := Int.emod_nonneg _ (by decide +kernel)
      have x2 : c % (10 ^ Int.toNat 42 + 63) < 2 ^ 150 := Int.lt_trans (Int.emod_lt_of_pos _ (by decide +kernel)) (by decide +kernel)
      generalize c % (10 ^ Int.toNat 42 + 63) = y at *
      omega
  walk_at "hd"
  by_cases c : (j : Int) < (List.map D.int ns).length
  · have e : atI (List.map D.int ns) (j : Int) = some (.int ns[j]!) := atI_nat (by
      have : j < ns.length := by simpa using c
      simp [this])
    walk_at "run"
    have x1 : 0 ≤ ns[j]! % (10 ^ Int.toNat 42 + 63) := Int.emod_nonneg _ (by decide +kernel)
    have x2 : ns[j]! % (10 ^ Int.toNat 42 + 63) < 2 ^ 150 := Int.lt_trans (Int.emod_lt_of_pos _ (by decide +kernel)) (by decide +kernel)
    refine ⟨cmulw 151 10 (by omega) (by decide) (by decide) (by decide) (by decide), ?_⟩
    walk_at "run"
    exact fun p hp => core _ p hp
  · walk_at "run"
    exact fun p hp => core _ p hp
theorem cnt_small {n : Nat} (h : n ≤ 60) : (cnt n).natAbs < 2 ^ 500 := by
  have h1 := pr_small n n (by omega)
  have h2 := pr_small 1 n (by omega)
  have e : 2 ^ (7 * n + 1) ≤ 2 ^ 421 := Nat.pow_le_pow_right (by decide) (by omega)
  unfold cnt
  have h3 : (pr n n).natAbs < 2 ^ 421 := Nat.lt_of_lt_of_le h1 e
  have h4 : (pr 1 n).natAbs < 2 ^ 421 := Nat.lt_of_lt_of_le h2 e
  omega
theorem sp_law {k : Nat} {ns : List Int} (hs : Small ns) {Q : Dk} (hQ : ∀ A, Q (.bl true) A) : cal (k + 5) "law" [.fl (ns.map .int)] A0 noX Q := by
  refine calN_eq t_law rfl ?_
  walk_at "run"
  refine for_rng (fun j σ A => A = A0 ∧ ∃ v, σ = [some (.fl (ns.map .int)), v, none, none]) ⟨rfl, none, rfl⟩ ?_ ?_
  · rintro j σ A nx hj ⟨rfl, v, rfl⟩ k
    have hj : j < 60 := hj
    have e : (1 : Int) + (j : Nat) = ((j + 1 : Nat) : Int) := by omega
    rw [e]
    walk_at "run"
    refine sp_count (n := j + 1) (by omega) (by omega) ?_
    walk_at "run"
    have hc : (cnt (j + 1)).natAbs.log2 < 1920 := log2_of (Nat.lt_trans (cnt_small (by omega)) (by decide +kernel)) (by decide)
    walk_at "run"
    refine sp_due (n := j + 1) (by omega) ?_
    walk_at "run"
    exact k _ _ ⟨rfl, _, rfl⟩
  rintro σ A ⟨rfl, v, rfl⟩
  walk_at "run"
  refine for_rng (fun j σ A => ∃ v1 v2 v3, σ = [some (.fl (ns.map .int)), v1, v2, v3]) ⟨_, _, _, rfl⟩ ?_ ?_
  · rintro j σ A nx hj ⟨v1, v2, v3, rfl⟩ k
    have hj : j < 5 := by omega
    rw [Int.zero_add]
    walk_at "run"
    refine sp_jug (j := j) (by omega) ?_
    intro p A1 hp sA hJ
    walk_at "run"
    refine sp_drop hJ (by decide) (by decide) (by decide) ?_
    intro r A2 r0 r1 _ _
    obtain ⟨z, hz⟩ : ∃ z : Nat, 1 + r = (z : Int) := ⟨(1 + r).toNat, by omega⟩
    walk_at "run"
    rw [hz]
    intro L hL
    refine lc_pure (p := fun _ => true) (g := fun _ => .int (cnt z)) _ [] (by decide) (fun _ => holds_nil) ?_ ?_
    · intro d hd
      refine ⟨_, fun k h => h, fun acc R h => h, fun _ acc R h => ?_⟩
      walk_at "run"
      exact sp_count (by omega) (by omega) h
    · walk_at "run"
      refine sp_due (by omega) ?_
      walk_at "run"
      intro p2 hp2
      walk_at "run"
      intro p3 hp3
      walk_at "run"
      rw [Py.eqD_ints (ns := [cnt z, cnt z, cnt z]) (ms := [cnt z, cnt z, cnt z]) (by walk_at "look") (by walk_at "look")]
      walk_at "run"
      exact k _ _ ⟨_, _, _, rfl⟩
  rintro σ A ⟨v1, v2, v3, rfl⟩
  walk_at "run"
  intro p hp
  walk_at "run"
  intro L hL
  refine lc_pure (p := fun _ => true) (g := fun d => match d with | .int i => .int (cnt i.toNat) | _ => .non) _ [] (by decide) (fun acc => holds_one (put_old hL put_same)) ?_ ?_
  · intro d hd
    refine ⟨_, fun k h => h, fun acc R h => h, fun _ acc R h => ?_⟩
    walk_at "run"
    obtain ⟨i, rfl, i1, i2⟩ : ∃ i : Nat, d = .int i ∧ 1 ≤ i ∧ i ≤ 60 := by
      simp only [List.mem_cons, List.not_mem_nil, or_false] at hd
      rcases hd with rfl | rfl | rfl | rfl
      · exact ⟨1, rfl, by decide, by decide⟩
      · exact ⟨2, rfl, by decide, by decide⟩
      · exact ⟨3, rfl, by decide, by decide⟩
      · exact ⟨4, rfl, by decide, by decide⟩
    exact sp_count i1 i2 h
  walk_at "run"
  intro q hq
  walk_at "run"
  rw [Py.eqD_ints (ns := [cnt 1, cnt 2, cnt 3, cnt 4]) (ms := [1, 5, 55, 817]) (by walk_at "look") (by walk_at "look")]
  rw [show decide (([cnt 1, cnt 2, cnt 3, cnt 4] : List Int) = [1, 5, 55, 817]) = true by decide +kernel]
  walk_at "run"
  exact ⟨_, .refl, hQ _⟩
def lev : Nat := 5
theorem spec : LawIs (cal lev) "law" := fun ns hs => sp_law (k := 0) hs fun _ => rfl
end K35

open PySem PySem.W PyProof.Rows in
set_option maxRecDepth 100000 in
set_option maxHeartbeats 0 in
theorem PySem.Challenge.cw_moveafter_k35_effects_counted_holds : PySem.Challenge.rw_moveafter_k35_effects_counted.Holds := by
  w_on; o_law; k_head; (case hw => w_witness2)
  k_fill
  refine Py.walk_py (l := PySem.Challenge.rw_moveafter_k35_effects_counted) (n := K35.nm) (con := K35.con) (sub := K35.sub) (T := K35.tab) (law := "law") K35.lev (by decide) rfl rfl (fun w h Y => PySem.W.kIn_of Y) ?F K35.spec
  case F =>
    intro w mg fa h KX G hmg
    have s_is_int := @Py.stands_mk _ h mg K35.nm K35.d_is_int "is_int" _ (K35.top 5) ["value"] ["value"] _ _ _ _ _ _ _ _ _ KX G K35.sc_is_int (fun _ _ _ _ _ _ us hl => match us, hl with | [_], _ => rfl) rfl rfl K35.ch_is_int (by k_is) (by k_is) (by k_is) (by k_is)
    have s_in_range := @Py.stands_mk _ h mg K35.nm K35.d_in_range "in_range" _ (K35.top 6) ["value", "low", "high"] ["value", "low", "high"] _ _ _ _ _ _ _ _ _ KX G K35.sc_in_range (fun _ _ _ _ _ _ us hl => match us, hl with | [_, _, _], _ => rfl) rfl rfl K35.ch_in_range (by k_is) (by k_is) (by k_is) (by k_is)
    have s_count_effects := @Py.stands_mk _ h mg K35.nm K35.d_count_effects "count_effects" _ (K35.top 8) ["size", "arrangements", "permutations", "factor"] ["size"] _ _ _ _ _ _ _ _ _ KX G K35.sc_count_effects (fun _ _ _ _ _ _ us hl => match us, hl with | [_], _ => rfl) rfl rfl K35.ch_count_effects (by k_is) (by k_is) (by k_is) (by k_is)
    have s__law_jug := @Py.stands_mk _ h mg K35.nm K35.d__law_jug "_law_jug" _ (K35.top 10) ["script", "k", "cell"] ["script", "k"] _ _ _ _ _ _ _ _ _ KX G K35.sc__law_jug (fun _ _ _ _ _ _ us hl => match us, hl with | [_, _], _ => rfl) rfl rfl K35.ch__law_jug (by k_is) (by k_is) (by k_is) (by k_is)
    have s__law_drop := @Py.stands_mk _ h mg K35.nm K35.d__law_drop "_law_drop" _ (K35.top 11) ["jug", "many", "found", "mixed"] ["jug", "many"] _ _ _ _ _ _ _ _ _ KX G K35.sc__law_drop (fun _ _ _ _ _ _ us hl => match us, hl with | [_, _], _ => rfl) rfl rfl K35.ch__law_drop (by k_is) (by k_is) (by k_is) (by k_is)
    have s__law_due := @Py.stands_mk _ h mg K35.nm K35.d__law_due "_law_due" _ (K35.top 12) ["size_here", "rows", "orders", "many"] ["size_here"] _ _ _ _ _ _ _ _ _ KX G K35.sc__law_due (fun _ _ _ _ _ _ us hl => match us, hl with | [_], _ => rfl) rfl rfl K35.ch__law_due (by k_is) (by k_is) (by k_is) (by k_is)
    have s_law := @Py.stands_mk _ h mg K35.nm K35.d_law "law" _ (K35.top 13) ["script", "size_here", "k", "again"] ["script"] _ _ _ _ _ _ _ _ _ KX G K35.sc_law (fun _ _ _ _ _ _ us hl => match us, hl with | [_], _ => rfl) rfl rfl K35.ch_law (by k_is) (by k_is) (by k_is) (by k_is)
    have x_NoSize := @Py.exc_mk _ h mg "NoSize" _ KX G (by k_is) (by k_exc) (by k_is) (by k_is) (by k_is)
    have c_ITEMS := @Py.con_int _ h mg "ITEMS" (60) _ K35.con KX G (by rfl) (by k_is)
    have bl : ∀ x ∈ Py.bltAll, mg x = none := Py.al_cons (PySem.W.mg_none_of KX G (by k_is)) (Py.al_cons (PySem.W.mg_none_of KX G (by k_is)) (Py.al_cons (PySem.W.mg_none_of KX G (by k_is)) (Py.al_cons (PySem.W.mg_none_of KX G (by k_is)) (Py.al_cons (PySem.W.mg_none_of KX G (by k_is)) (Py.al_cons (PySem.W.mg_none_of KX G (by k_is)) (Py.al_cons (PySem.W.mg_none_of KX G (by k_is)) (Py.al_cons (PySem.W.mg_none_of KX G (by k_is)) (Py.al_cons (PySem.W.mg_none_of KX G (by k_is)) (Py.al_cons (PySem.W.mg_none_of KX G (by k_is)) (Py.al_cons (PySem.W.mg_none_of KX G (by k_is)) (Py.al_cons (PySem.W.mg_none_of KX G (by k_is)) (Py.al_cons (PySem.W.mg_none_of KX G (by k_is)) (Py.al_cons (PySem.W.mg_none_of KX G (by k_is)) (Py.al_cons (PySem.W.mg_none_of KX G (by k_is)) (Py.al_cons (PySem.W.mg_none_of KX G (by k_is)) (Py.al_cons (PySem.W.mg_none_of KX G (by k_is)) (Py.al_cons (PySem.W.mg_none_of KX G (by k_is)) (Py.al_cons (PySem.W.mg_none_of KX G (by k_is)) Py.al_nil))))))))))))))))))
    have hx : ∀ x ∈ K35.nm.excs, Py.ExcOk _ _ mg x := Py.al_cons x_NoSize Py.al_nil
    have hc : ∀ x ∈ K35.nm.cons, ∃ d u v, K35.con x = some d ∧ mg x = some u ∧ L2.RelV v u ∧ ∀ H, Py.RelD _ H d v := Py.al_cons c_ITEMS Py.al_nil
    have hd : ∀ x ∈ K35.nm.defs, ∃ d, K35.tab x = some d ∧ Py.Stands K35.nm d _ mg x := Py.al_cons ⟨_, K35.t_is_int, _, _, _, s_is_int.choose_spec.1⟩ (Py.al_cons ⟨_, K35.t_in_range, _, _, _, s_in_range.choose_spec.1⟩ (Py.al_cons ⟨_, K35.t_count_effects, _, _, _, s_count_effects.choose_spec.1⟩ (Py.al_cons ⟨_, K35.t__law_jug, _, _, _, s__law_jug.choose_spec.1⟩ (Py.al_cons ⟨_, K35.t__law_drop, _, _, _, s__law_drop.choose_spec.1⟩ (Py.al_cons ⟨_, K35.t__law_due, _, _, _, s__law_due.choose_spec.1⟩ (Py.al_cons ⟨_, K35.t_law, _, _, _, s_law.choose_spec.1⟩ Py.al_nil))))))
    obtain ⟨fd, S, hb⟩ := s_law
    have ef := hmg.symm.trans S.hm
    cases ef
    exact ⟨Py.clOf mg, ⟨rfl, bl, hc, hx⟩, hd, K35.d_law, fd, K35.t_law, S, fun s u => hb s [u] rfl⟩
#print axioms PySem.Challenge.cw_moveafter_k35_effects_counted_holds
