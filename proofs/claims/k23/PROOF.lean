import PyProof.Rows.All
import Wide.All
import OpenK.AllK
import Wide.FinOn
import KE.SortData
import KE.DataCmp
import KE.DataFind
import KE.DataEq
import HandS.ForMost
import HandS.ForExc
import HandS.Wide
import HandS.TupAny
import HandS.IsInst
import HandS.ExcIs
import HandS.Zip
import HandS.Style
import HandS.Defaults
import HandS.Evl
import HandS.More
import HandS.HeadWalk
import HandS.HeadHook2
import HandS.Head0
import HandS.Head1
import HandS.Head2
import HandS.HeadEnd
import KE.KStateDown
import PySem.Challenge.RW_planledger_k23_whole_an_index_by_put_and
set_option Elab.async false
set_option linter.all false
set_option maxRecDepth 100000
set_option maxHeartbeats 4000000

namespace Pl
open PySem
inductive Nm where
  | «append» | «reverse» | «pop» | «insert» | «remove» | «extend» | «clear» | «sort»
  | «index» | «count» | «get» | «setdefault» | «items» | «values» | «keys» | «update»
  | «split» | «startswith» | «join» | «LedgerError» | «NoTable» | «NoEntry» | «NoIndex» | «NoRow»
  | «NoNumber» | «NoOrder» | «Index» | «_law_well» | «_law_draw» | «_law_value» | «_law_entry» | «_law_outcome»
  | «_law_done» | «_law_deed» | «_law_bound» | «_law_shown» | «_law_fresh_right» | «law» | «Index___init__» | «Index_place_of»
  | «Index_stands_at» | «Index_put» | «Index_take» | «Index_first_from» | «Index_between» | «entries» | «between» | «place_of»
  | «stands_at» | «first_from» | «put» | «take» | «__init__»
  deriving DecidableEq
/-- a name as Python has it -/
def nstr : Nm → Str
  | .«append» => "append"
  | .«reverse» => "reverse"
  | .«pop» => "pop"
  | .«insert» => "insert"
  | .«remove» => "remove"
  | .«extend» => "extend"
  | .«clear» => "clear"
  | .«sort» => "sort"
  | .«index» => "index"
  | .«count» => "count"
  | .«get» => "get"
  | .«setdefault» => "setdefault"
  | .«items» => "items"
  | .«values» => "values"
  | .«keys» => "keys"
  | .«update» => "update"
  | .«split» => "split"
  | .«startswith» => "startswith"
  | .«join» => "join"
  | .«LedgerError» => "LedgerError"
  | .«NoTable» => "NoTable"
  | .«NoEntry» => "NoEntry"
  | .«NoIndex» => "NoIndex"
  | .«NoRow» => "NoRow"
  | .«NoNumber» => "NoNumber"
  | .«NoOrder» => "NoOrder"
  | .«Index» => "Index"
  | .«_law_well» => "_law_well"
  | .«_law_draw» => "_law_draw"
  | .«_law_value» => "_law_value"
  | .«_law_entry» => "_law_entry"
  | .«_law_outcome» => "_law_outcome"
  | .«_law_done» => "_law_done"
  | .«_law_deed» => "_law_deed"
  | .«_law_bound» => "_law_bound"
  | .«_law_shown» => "_law_shown"
  | .«_law_fresh_right» => "_law_fresh_right"
  | .«law» => "law"
  | .«Index___init__» => "Index___init__"
  | .«Index_place_of» => "Index_place_of"
  | .«Index_stands_at» => "Index_stands_at"
  | .«Index_put» => "Index_put"
  | .«Index_take» => "Index_take"
  | .«Index_first_from» => "Index_first_from"
  | .«Index_between» => "Index_between"
  | .«entries» => "entries"
  | .«between» => "between"
  | .«place_of» => "place_of"
  | .«stands_at» => "stands_at"
  | .«first_from» => "first_from"
  | .«put» => "put"
  | .«take» => "take"
  | .«__init__» => "__init__"
def nmL0 : List Nm := [.«append», .«reverse», .«pop», .«insert», .«remove», .«extend», .«clear», .«sort», .«index», .«count», .«get», .«setdefault», .«items», .«values», .«keys», .«update»]
def nmL1 : List Nm := [.«split», .«startswith», .«join», .«LedgerError», .«NoTable», .«NoEntry», .«NoIndex», .«NoRow», .«NoNumber», .«NoOrder», .«Index», .«_law_well», .«_law_draw», .«_law_value», .«_law_entry», .«_law_outcome»]
def nmL2 : List Nm := [.«_law_done», .«_law_deed», .«_law_bound», .«_law_shown», .«_law_fresh_right», .«law», .«Index___init__», .«Index_place_of», .«Index_stands_at», .«Index_put», .«Index_take», .«Index_first_from», .«Index_between», .«entries», .«between», .«place_of»]
def nmL3 : List Nm := [.«stands_at», .«first_from», .«put», .«take», .«__init__»]
def allNm : List Nm := nmL0 ++ (nmL1 ++ (nmL2 ++ (nmL3)))
def nofS (x : Str) : Option Nm := allNm.find? fun n => nstr n = x
theorem nofS_nstr : ∀ n, nofS (nstr n) = some n := by
  intro n
  cases n <;> decide +kernel
theorem nstr_inj {a b : Nm} (h : nstr a = nstr b) : a = b := Option.some.inj ((nofS_nstr a).symm.trans ((congrArg nofS h).trans (nofS_nstr b)))
theorem nofS_ok {x : Str} {n : Nm} (h : nofS x = some n) : nstr n = x := by
  have := List.find?_some h
  simpa using this
end Pl
namespace Pl
open PySem
/-! ### values, objects, heaps -/
inductive U where
  | non | bl (b : Bool) | int (i : Int) | str (s : Str) | tup (xs : List U) | ref (n : Nat)
mutual
def U.dec : (a b : U) → Decidable (a = b)
  | .non, .non => Decidable.isTrue rfl
  | .bl a, .bl b => if h : a = b then Decidable.isTrue (h ▸ rfl) else Decidable.isFalse fun e => h (U.bl.inj e)
  | .int a, .int b => if h : a = b then Decidable.isTrue (h ▸ rfl) else Decidable.isFalse fun e => h (U.int.inj e)
  | .str a, .str b => if h : a = b then Decidable.isTrue (h ▸ rfl) else Decidable.isFalse fun e => h (U.str.inj e)
  | .ref a, .ref b => if h : a = b then Decidable.isTrue (h ▸ rfl) else Decidable.isFalse fun e => h (U.ref.inj e)
  | .tup a, .tup b => match U.decs a b with
    | .isTrue h => Decidable.isTrue (h ▸ rfl)
    | .isFalse h => Decidable.isFalse fun e => h (U.tup.inj e)
  | .non, .bl _ | .non, .int _ | .non, .str _ | .non, .tup _ | .non, .ref _ => Decidable.isFalse fun e => nomatch e
  | .bl _, .non | .bl _, .int _ | .bl _, .str _ | .bl _, .tup _ | .bl _, .ref _ => Decidable.isFalse fun e => nomatch e
  | .int _, .non | .int _, .bl _ | .int _, .str _ | .int _, .tup _ | .int _, .ref _ => Decidable.isFalse fun e => nomatch e
  | .str _, .non | .str _, .bl _ | .str _, .int _ | .str _, .tup _ | .str _, .ref _ => Decidable.isFalse fun e => nomatch e
  | .tup _, .non | .tup _, .bl _ | .tup _, .int _ | .tup _, .str _ | .tup _, .ref _ => Decidable.isFalse fun e => nomatch e
  | .ref _, .non | .ref _, .bl _ | .ref _, .int _ | .ref _, .str _ | .ref _, .tup _ => Decidable.isFalse fun e => nomatch e
def U.decs : (a b : List U) → Decidable (a = b)
  | [], [] => Decidable.isTrue rfl
  | [], _ :: _ => Decidable.isFalse fun e => nomatch e
  | _ :: _, [] => Decidable.isFalse fun e => nomatch e
  | x :: a, y :: b => match U.dec x y, U.decs a b with
    | .isTrue h, .isTrue g => Decidable.isTrue (h ▸ g ▸ rfl)
    | .isFalse h, _ => Decidable.isFalse fun e => h (List.cons.inj e).1
    | _, .isFalse g => Decidable.isFalse fun e => g (List.cons.inj e).2
end
instance : DecidableEq U := U.dec
/-- an object: a list, a list that is only read, an instance with its fields -/
inductive Ob where
  | lst (xs : List U)
  | frz (xs : List U)
  | ins (c : Nm) (fs : List (Nm × U))
  deriving DecidableEq
abbrev AH := List Ob
abbrev Loc := List (Option U)
def getL (h : AH) (a : Nat) : Option (List U) := match h[a]? with
  | some (.lst xs) => some xs
  | some (.frz xs) => some xs
  | _ => none
def getM (h : AH) (a : Nat) : Option (List U) := match h[a]? with
  | some (.lst xs) => some xs
  | _ => none
def getI (h : AH) (a : Nat) : Option (Nm × List (Nm × U)) := match h[a]? with
  | some (.ins c fs) => some (c, fs)
  | _ => none
/-! ### outcomes -/
inductive Rs (α : Type) where
  | ok (a : α) (h : AH)
  | exc (c : Nm) (fs : List (Nm × U)) (h : AH)
  | bad
def Rs.bind {α β : Type} : Rs α → (α → AH → Rs β) → Rs β
  | .ok a h, f => f a h
  | .exc c fs h, _ => .exc c fs h
  | .bad, _ => .bad
@[simp] theorem Rs.bind_ok {α β : Type} (a : α) (h : AH) (f : α → AH → Rs β) : (Rs.ok a h).bind f = f a h := rfl
@[simp] theorem Rs.bind_exc {α β : Type} (c : Nm) (fs : List (Nm × U)) (h : AH) (f : α → AH → Rs β) : (Rs.exc c fs h : Rs α).bind f = .exc c fs h := rfl
@[simp] theorem Rs.bind_bad {α β : Type} (f : α → AH → Rs β) : (Rs.bad : Rs α).bind f = .bad := rfl
/-- an answer where there is one -/
def Rs.opt {α : Type} (o : Option α) (h : AH) : Rs α := match o with
  | some a => .ok a h
  | none => .bad
@[simp] theorem Rs.opt_some {α : Type} (a : α) (h : AH) : Rs.opt (some a) h = .ok a h := rfl
@[simp] theorem Rs.opt_none {α : Type} (h : AH) : Rs.opt (none : Option α) h = .bad := rfl
/-- a new object -/
def newOb (o : Ob) (h : AH) : Rs U := .ok (.ref h.length) (h ++ [o])
/-- a statement's end -/
inductive Rt where
  | nx (ρ : Loc) (h : AH) | rt (u : U) (h : AH) | bk (ρ : Loc) (h : AH) | ct (ρ : Loc) (h : AH)
  | xc (c : Nm) (fs : List (Nm × U)) (ρ : Loc) (h : AH)
  | bad
def Rt.seq : Rt → (Loc → AH → Rt) → Rt
  | .nx ρ h, f => f ρ h
  | r, _ => r
@[simp] theorem Rt.seq_nx (ρ : Loc) (h : AH) (f : Loc → AH → Rt) : (Rt.nx ρ h).seq f = f ρ h := rfl
@[simp] theorem Rt.seq_rt (u : U) (h : AH) (f : Loc → AH → Rt) : (Rt.rt u h).seq f = .rt u h := rfl
@[simp] theorem Rt.seq_bk (ρ : Loc) (h : AH) (f : Loc → AH → Rt) : (Rt.bk ρ h).seq f = .bk ρ h := rfl
@[simp] theorem Rt.seq_ct (ρ : Loc) (h : AH) (f : Loc → AH → Rt) : (Rt.ct ρ h).seq f = .ct ρ h := rfl
@[simp] theorem Rt.seq_xc (c : Nm) (fs : List (Nm × U)) (ρ : Loc) (h : AH) (f : Loc → AH → Rt) : (Rt.xc c fs ρ h).seq f = .xc c fs ρ h := rfl
@[simp] theorem Rt.seq_bad (f : Loc → AH → Rt) : Rt.bad.seq f = .bad := rfl
/-- an expression's outcome within a statement -/
def Rs.go {α : Type} (ρ : Loc) : Rs α → (α → AH → Rt) → Rt
  | .ok a h, f => f a h
  | .exc c fs h, _ => .xc c fs ρ h
  | .bad, _ => .bad
@[simp] theorem Rs.go_ok {α : Type} (ρ : Loc) (a : α) (h : AH) (f : α → AH → Rt) : (Rs.ok a h).go ρ f = f a h := rfl
@[simp] theorem Rs.go_exc {α : Type} (ρ : Loc) (c : Nm) (fs : List (Nm × U)) (h : AH) (f : α → AH → Rt) : (Rs.exc c fs h : Rs α).go ρ f = .xc c fs ρ h := rfl
@[simp] theorem Rs.go_bad {α : Type} (ρ : Loc) (f : α → AH → Rt) : (Rs.bad : Rs α).go ρ f = .bad := rfl
/-! ### the language -/
inductive Bo where | add | sub | mul | div | mod | pow
  deriving DecidableEq
inductive Co where | eq | ne | lt | le | gt | ge | is_ | isnot | in_ | notin
  deriving DecidableEq
inductive Bi where | len | max | min | abs | int | str | sorted | all | any | sum | list | tuple
  deriving DecidableEq
inductive Ty where | int | bool | str | tuple | list | dict | own (c : Nm)
  deriving DecidableEq
inductive Tg where | one (i : Nat) | tup (is : List Nat)
  deriving DecidableEq
inductive ItK where | val | range1 | range2 | zip
  deriving DecidableEq
inductive E where
  | lc (i : Nat) | cu (u : U) | gl (g : Nm)
  | bin (o : Bo) (a b : E) | neg (a : E) | nt (a : E) | an (a b : E) | or (a b : E)
  | cmp (o : Co) (a b : E) | chain (o p : Co) (a b c : E) | ife (c a b : E)
  | call (f : Nm) (as : List E) | new (c : Nm) (as : List E) | meth (o : E) (m : Nm) (as : List E) | bi (b : Bi) (as : List E)
  | isi (a : E) (ts : List Ty) | xisi (ts : List Nm) | xfld (f : Nm)
  | fld (a : E) (f : Nm) | sub (a b : E) | slc (a : E) (lo hi : List E)
  | tup (as : List E) | lst (as : List E)
  | comp (el : E) (t : Tg) (k : ItK) (its : List E) (cs : List E)
inductive S where
  | asg (t : Tg) (e : E) | fld (o : E) (f : Nm) (e : E) | sub (o i e : E)
  | ex (e : E) | ite (c : E) (a b : List S) | whl (c : E) (b : List S) | for_ (t : Tg) (k : ItK) (its : List E) (b : List S)
  | ret (e : E) | brk | cnt | pass
  | raise (c : Nm)
  | try_ (b : List S) (c : Nm) (i : Option Nat) (h : List S)
structure Fn where
  n : Nat
  m : Nat
  body : List S
structure Prog where
  fn : Nm → Option Fn
  meth : Nm → Nm → Option Nm
  init : Nm → Option Nm
  sub : Nm → Nm → Bool
  flds : Nm → List Nm
  con : Nm → Option U
  exn : Nm → Bool
/-! ### data, its equality and order -/
def mapO {α β : Type} (f : α → Option β) : List α → Option (List β)
  | [] => some []
  | x :: xs => match f x with
    | some y => match mapO f xs with
      | some ys => some (y :: ys)
      | none => none
    | none => none
def U.dat (h : AH) : Nat → U → Option PyData
  | 0, _ => none
  | n + 1, u => match u with
    | .non => some .none
    | .bl b => some (.bool b)
    | .int i => some (.int i)
    | .str s => some (.str s)
    | .tup xs => (mapO (U.dat h n) xs).map .tuple
    | .ref a => match getL h a with
      | some xs => (mapO (U.dat h n) xs).map .list
      | none => none
/-- the depth of data that are compared -/
def DD : Nat := 100
def eqU (h : AH) (u v : U) : Option Bool := match u.dat h DD, v.dat h DD with
  | some d, some e => some (PyData.eqv d e)
  | _, _ => none
def notN : PyData → Bool
  | .none => false
  | _ => true
def ordU (g : PyData → PyData → Bool) (h : AH) (u v : U) : Option Bool := match u.dat h DD, v.dat h DD with
  | some d, some e => if W.alike d e = true ∧ notN d = true then some (g d e) else none
  | _, _ => none
/-- is x among xs -/
def inU (h : AH) (x : U) (xs : List U) : Option Bool := match x.dat h DD, mapO (U.dat h DD) xs with
  | some d, some ds => some (ds.any fun z => PyData.eqv z d)
  | _, _ => none
/-! ### operations -/
def big : Nat := 9000
def sln : Nat := sizeLine
def binop (o : Bo) (u v : U) (h : AH) : Rs U := match o, u, v with
  | .add, .int i, .int j => .ok (.int (i + j)) h
  | .add, .str x, .str y => if x.length + y.length ≤ sln then .ok (.str (x ++ y)) h else .bad
  | .add, .tup xs, .tup ys => if xs.length + ys.length ≤ sln then .ok (.tup (xs ++ ys)) h else .bad
  | .add, .ref a, .ref b => match getL h a, getL h b with
    | some xs, some ys => if xs.length + ys.length ≤ sln then newOb (.lst (xs ++ ys)) h else .bad
    | _, _ => .bad
  | .sub, .int i, .int j => .ok (.int (i - j)) h
  | .mul, .int i, .int j => if (-(2 ^ 64) < i ∧ i < 2 ^ 64) ∨ (-(2 ^ 64) < j ∧ j < 2 ^ 64) then .ok (.int (i * j)) h else .bad
  | .div, .int i, .int j => if 0 < j ∧ j.natAbs.log2 < big then .ok (.int (i / j)) h else .bad
  | .mod, .int i, .int j => if 0 < j then .ok (.int (i % j)) h else .bad
  | .pow, .int i, .int j => if 0 ≤ j ∧ j ≤ 1000000 ∧ i.natAbs < 2 ^ 64 then .ok (.int (i ^ j.toNat)) h else .bad
  | _, _, _ => .bad
def cmpop (o : Co) (u v : U) (h : AH) : Option Bool := match o with
  | .eq => eqU h u v
  | .ne => (eqU h u v).map (!·)
  | .lt => ordU W.dataLt h u v
  | .gt => ordU (fun d e => W.dataLt e d) h u v
  | .le => ordU (fun d e => !W.dataLt e d) h u v
  | .ge => ordU (fun d e => !W.dataLt d e) h u v
  | .is_ => if v = .non then some (decide (u = .non)) else none
  | .isnot => if v = .non then some (!decide (u = .non)) else none
  | .in_ => match v with
    | .tup xs => inU h u xs
    | .ref a => match getL h a with
      | some xs => inU h u xs
      | none => none
    | _ => none
  | .notin => match v with
    | .tup xs => (inU h u xs).map (!·)
    | .ref a => match getL h a with
      | some xs => (inU h u xs).map (!·)
      | none => none
    | _ => none
/-- the built-in kinds -/
inductive BK where | non | bl | int | str | tup | lst
  deriving DecidableEq
def isB : BK → Ty → Bool
  | .bl, .bool | .bl, .int | .int, .int | .str, .str | .tup, .tuple | .lst, .list => true
  | _, _ => false
def kindU (h : AH) : U → Option (BK ⊕ Nm)
  | .non => some (.inl .non)
  | .bl _ => some (.inl .bl)
  | .int _ => some (.inl .int)
  | .str _ => some (.inl .str)
  | .tup _ => some (.inl .tup)
  | .ref a => match h[a]? with
    | some (.lst _) => some (.inl .lst)
    | some (.ins c _) => some (.inr c)
    | _ => none
def isiT (P : Prog) (h : AH) (u : U) (t : Ty) : Option Bool := match kindU h u with
  | some (.inl k) => some (isB k t)
  | some (.inr c) => if (P.init c).isSome = true then (match t with
    | .own d => some (P.sub c d)
    | _ => some false) else none
  | none => none
def isiTs (P : Prog) (h : AH) (u : U) : List Ty → Option Bool
  | [] => some false
  | t :: ts => match isiT P h u t with
    | some true => some true
    | some false => isiTs P h u ts
    | none => none
def isiA (P : Prog) (h : AH) (u : U) (ts : List Ty) : Option Bool := if ts.isEmpty = true then none else isiTs P h u ts
def subop (u v : U) (h : AH) : Option U := match u, v with
  | .tup xs, .int i => L2.atI xs i
  | .ref a, .int i => match getL h a with
    | some xs => L2.atI xs i
    | none => none
  | _, _ => none
def cutU (xs : List U) (lo hi : Option Int) : List U := (xs.drop (HT.sIx xs.length 0 lo)).take (HT.sIx xs.length xs.length hi - HT.sIx xs.length 0 lo)
def partU : List U → Option (Option Int)
  | [] => some none
  | [.int i] => some (some i)
  | _ => none
def slcop (u : U) (l r : Option Int) (h : AH) : Rs U := match u with
  | .tup xs => .ok (.tup (cutU xs l r)) h
  | .ref a => match getL h a with
    | some xs => newOb (.lst (cutU xs l r)) h
    | none => .bad
  | _ => .bad
def blsU : List U → Option (List Bool) := mapO fun
  | .bl b => some b
  | _ => none
def intsU : List U → Option (List Int) := mapO fun
  | .int b => some b
  | _ => none
/-- the items of a list or tuple -/
def seqU (h : AH) : U → Option (List U)
  | .tup xs => some xs
  | .ref a => getL h a
  | _ => none
/-- what is sorted: data that are alike, tuples with an item or none a tuple or None -/
def srtOk (ds : List PyData) : Bool := (ds.all fun d => ds.all fun e => W.alike d e) && ((ds.all fun
  | .tuple (_ :: _) => true
  | _ => false) || (ds.all fun
  | .none => false
  | .tuple _ => false
  | _ => true))
def keyD (h : AH) (u : U) : PyData := (u.dat h DD).getD .none
def sortU (h : AH) (xs : List U) : List U := xs.mergeSort (W.dataLe false (keyD h))
def biop (b : Bi) (us : List U) (h : AH) : Rs U := match b, us with
  | .len, [.str s] => if s.length ≤ sln then .ok (.int s.length) h else .bad
  | .len, [u] => match seqU h u with
    | some xs => .ok (.int xs.length) h
    | none => .bad
  | .max, [.int i, .int j] => .ok (.int (if j > i then j else i)) h
  | .min, [.int i, .int j] => .ok (.int (if j < i then j else i)) h
  | .abs, [.int i] => .ok (.int (if i < 0 then -i else i)) h
  | .int, [.int i] => .ok (.int i) h
  | .int, [.bl k] => .ok (.int (if k then 1 else 0)) h
  | .sorted, [.ref a] => match getL h a with
    | some xs => match mapO (U.dat h DD) xs with
      | some ds => if srtOk ds = true then newOb (.lst (sortU h xs)) h else .bad
      | none => .bad
    | none => .bad
  | .all, [.ref a] => match getL h a with
    | some xs => match blsU xs with
      | some bs => .ok (.bl (bs.all id)) h
      | none => .bad
    | none => .bad
  | .any, [.ref a] => match getL h a with
    | some xs => match blsU xs with
      | some bs => .ok (.bl (bs.any id)) h
      | none => .bad
    | none => .bad
  | .list, [u] => match seqU h u with
    | some xs => newOb (.lst xs) h
    | none => .bad
  | .tuple, [u] => match seqU h u with
    | some xs => .ok (.tup xs) h
    | none => .bad
  | _, _ => .bad
def isLm : Nm → Bool
  | .append | .reverse | .pop | .insert | .remove => true
  | _ => false
/-- a method of a list at a -/
def mtL (m : Nm) (a : Nat) (us : List U) (h : AH) : Rs U := match getM h a with
  | none => .bad
  | some xs => match m, us with
    | .append, [y] => if xs.length < sln then .ok .non (h.set a (.lst (xs ++ [y]))) else .bad
    | .reverse, [] => .ok .non (h.set a (.lst xs.reverse))
    | .pop, [.int i] => if -(2 ^ 63) ≤ i ∧ i < 2 ^ 63 then match L2.ixN xs.length i with
      | some k => match xs[k]? with
        | some y => .ok y (h.set a (.lst (xs.eraseIdx k)))
        | none => .bad
      | none => .bad
      else .bad
    | .insert, [.int i, y] => if 0 ≤ i ∧ i ≤ xs.length ∧ xs.length < sln then .ok .non (h.set a (.lst (xs.take i.toNat ++ y :: xs.drop i.toNat))) else .bad
    | .remove, [y] => match y.dat h DD, mapO (U.dat h DD) xs with
      | some d, some ds => match ds.findIdx? fun z => PyData.eqv z d with
        | some j => .ok .non (h.set a (.lst (xs.eraseIdx j)))
        | none => .bad
      | _, _ => .bad
    | _, _ => .bad
/-! ### evaluation -/
structure Ev where
  call : Nm → List U → AH → Rs U
  hx : Option (Nm × List (Nm × U))
def setAll : List Nat → List U → Loc → Option Loc
  | [], [], ρ => some ρ
  | i :: is, x :: xs, ρ => setAll is xs (ρ.set i (some x))
  | _, _, _ => none
def bindT (t : Tg) (u : U) (ρ : Loc) : Option Loc := match t with
  | .one i => some (ρ.set i (some u))
  | .tup is => match u with
    | .tup xs => setAll is xs ρ
    | _ => none
/-- what is walked: the items, and which lists must stand meanwhile -/
def itsU (k : ItK) (us : List U) (h : AH) : Option (List U × List (Nat × List U)) := match k, us with
  | .val, [.tup xs] => some (xs, [])
  | .val, [.ref a] => match getL h a with
    | some xs => some (xs, [(a, xs)])
    | none => none
  | .range1, [.int n] => if n < 2 ^ 62 ∧ -(2 ^ 62) ≤ n then some ((List.range n.toNat).map fun (k : Nat) => .int k, []) else none
  | .range2, [.int m, .int n] => if m < 2 ^ 62 ∧ -(2 ^ 62) ≤ m ∧ n < 2 ^ 62 ∧ -(2 ^ 62) ≤ n then some ((List.range (n - m).toNat).map fun (k : Nat) => .int (m + k), []) else none
  | .zip, [.ref a, .ref b] => match getL h a, getL h b with
    | some xs, some ys => some ((xs.zip ys).map fun p => .tup [p.1, p.2], [(a, xs), (b, ys)])
    | _, _ => none
  | _, _ => none
def stands (g : List (Nat × List U)) (h : AH) : Bool := g.all fun p => decide (getL h p.1 = some p.2)
/-- the turns of a comprehension: D the new list -/
def compL (f : U → AH → Rs (Option U)) (g : List (Nat × List U)) (D : Nat) : List U → List U → AH → Rs U
  | [], _, h => if stands g h = true then .ok (.ref D) h else .bad
  | x :: xs, acc, h => if stands g h = true then match f x h with
    | .ok (some y) h' => if getM h' D = some acc ∧ acc.length < sln then compL f g D xs (acc ++ [y]) (h'.set D (.lst (acc ++ [y]))) else .bad
    | .ok none h' => if getM h' D = some acc then compL f g D xs acc h' else .bad
    | _ => .bad
    else .bad
def isBl : U → Option Bool
  | .bl b => some b
  | _ => none
section
variable (P : Prog) (X : Ev)
mutual
def evE : E → Loc → AH → Rs U
  | .lc i, ρ, h => match ρ[i]? with
    | some (some u) => .ok u h
    | _ => .bad
  | .cu u, _, h => .ok u h
  | .gl g, _, h => .opt (P.con g) h
  | .bin o a b, ρ, h => (evE a ρ h).bind fun u h => (evE b ρ h).bind fun v h => binop o u v h
  | .neg a, ρ, h => (evE a ρ h).bind fun u h => match u with
    | .int i => .ok (.int (-i)) h
    | _ => .bad
  | .nt a, ρ, h => (evE a ρ h).bind fun u h => match u with
    | .bl b => .ok (.bl (!b)) h
    | _ => .bad
  | .an a b, ρ, h => (evE a ρ h).bind fun u h => match u with
    | .bl true => evE b ρ h
    | .bl false => .ok (.bl false) h
    | _ => .bad
  | .or a b, ρ, h => (evE a ρ h).bind fun u h => match u with
    | .bl true => .ok (.bl true) h
    | .bl false => evE b ρ h
    | _ => .bad
  | .cmp o a b, ρ, h => (evE a ρ h).bind fun u h => (evE b ρ h).bind fun v h => .opt ((cmpop o u v h).map .bl) h
  | .chain o p a b c, ρ, h => (evE a ρ h).bind fun u h => (evE b ρ h).bind fun v h => match cmpop o u v h with
    | some true => (evE c ρ h).bind fun w h => .opt ((cmpop p v w h).map .bl) h
    | some false => .ok (.bl false) h
    | none => .bad
  | .ife c a b, ρ, h => (evE c ρ h).bind fun u h => match u with
    | .bl true => evE a ρ h
    | .bl false => evE b ρ h
    | _ => .bad
  | .call f as, ρ, h => if X.hx = none then (evEs as ρ h).bind fun us h => if (P.fn f).isSome = true then X.call f us h else .bad else .bad
  | .new c as, ρ, h => if X.hx = none then match P.init c with
    | some f => if (P.fn f).isSome = true then (evEs as ρ h).bind fun us h => (X.call f (.ref h.length :: us) (h ++ [.ins c []])).bind fun u h' => match u with
      | .non => .ok (.ref h.length) h'
      | _ => .bad
      else .bad
    | none => .bad
    else .bad
  | .meth o m as, ρ, h => (evE o ρ h).bind fun u h => match u with
    | .ref a => match h[a]? with
      | some (.ins c fs) => match fs.lookup m, P.meth c m, X.hx with
        | none, some f, none => if (P.fn f).isSome = true then (evEs as ρ h).bind fun us h => X.call f (.ref a :: us) h else .bad
        | _, _, _ => .bad
      | some (.lst _) => if isLm m = true then (evEs as ρ h).bind fun us h => mtL m a us h else .bad
      | _ => .bad
    | _ => .bad
  | .bi b as, ρ, h => if X.hx = none ∨ b = .int then (evEs as ρ h).bind fun us h => biop b us h else .bad
  | .isi a ts, ρ, h => (evE a ρ h).bind fun u h => .opt ((isiA P h u ts).map .bl) h
  | .xisi ts, _, h => match X.hx with
    | some (c, _) => if ts.all P.exn = true then .ok (.bl (ts.any fun t => P.sub c t)) h else .bad
    | none => .bad
  | .xfld f, _, h => match X.hx with
    | some (_, fs) => .opt (fs.lookup f) h
    | none => .bad
  | .fld a f, ρ, h => (evE a ρ h).bind fun u h => match u with
    | .ref n => match getI h n with
      | some (c, fs) => if (P.flds c).contains f = true then .opt (fs.lookup f) h else .bad
      | none => .bad
    | _ => .bad
  | .sub a b, ρ, h => (evE a ρ h).bind fun u h => (evE b ρ h).bind fun v h => .opt (subop u v h) h
  | .slc a lo hi, ρ, h => (evE a ρ h).bind fun u h => (evEs lo ρ h).bind fun l h => match partU l with
    | some l => (evEs hi ρ h).bind fun r h => match partU r with
      | some r => slcop u l r h
      | none => .bad
    | none => .bad
  | .tup as, ρ, h => (evEs as ρ h).bind fun us h => if us.length ≤ sln then .ok (.tup us) h else .bad
  | .lst as, ρ, h => (evEs as ρ h).bind fun us h => if us.length ≤ sln then newOb (.lst us) h else .bad
  | .comp el t k its cs, ρ, h => if X.hx = none then ((evEs its ρ h).bind fun us h => Rs.opt (itsU k us h) h).bind fun p h => compL (fun x h => match bindT t x ρ with
      | some ρ' => match cs with
        | [] => (evE el ρ' h).bind fun y h => .ok (some y) h
        | [c] => (evE c ρ' h).bind fun u h => match u with
          | .bl true => (evE el ρ' h).bind fun y h => .ok (some y) h
          | .bl false => .ok none h
          | _ => .bad
        | _ => .bad
      | none => .bad) p.2 h.length p.1 [] (h ++ [.lst []])
    else .bad
def evEs : List E → Loc → AH → Rs (List U)
  | [], _, h => .ok [] h
  | e :: es, ρ, h => (evE e ρ h).bind fun u h => (evEs es ρ h).bind fun us h => .ok (u :: us) h
end
end
/-! ### loops -/
section
variable {σ τ : Type}
def iterN (f : σ → σ ⊕ τ) : Nat → σ → Option τ
  | 0, _ => none
  | n + 1, s => match f s with
    | .inl s' => iterN f n s'
    | .inr r => some r
theorem iterN_uniq (f : σ → σ ⊕ τ) : ∀ {n m : Nat} {s : σ} {r r' : τ}, iterN f n s = some r → iterN f m s = some r' → r = r'
  | 0, _, _, _, _, h, _ => nomatch h
  | _ + 1, 0, _, _, _, _, h => nomatch h
  | n + 1, m + 1, s, r, r', h, h' => by
    unfold iterN at h h'
    cases e : f s with
    | inl s' => rw [e] at h h'; exact iterN_uniq f h h'
    | inr q => rw [e] at h h'; cases h; cases h'; rfl
open Classical in
/-- f again and again, to its end -/
noncomputable def loopF (f : σ → σ ⊕ τ) (s : σ) : Option τ := if q : ∃ r n, iterN f n s = some r then some q.choose else none
theorem loopF_of {f : σ → σ ⊕ τ} {n : Nat} {s : σ} {r : τ} (h : iterN f n s = some r) : loopF f s = some r := by
  have q : ∃ r n, iterN f n s = some r := ⟨r, n, h⟩
  unfold loopF
  rw [dif_pos q]
  obtain ⟨m, hm⟩ := q.choose_spec
  exact congrArg some (iterN_uniq f hm h)
theorem loopF_some {f : σ → σ ⊕ τ} {s : σ} {r : τ} (h : loopF f s = some r) : ∃ n, iterN f n s = some r := by
  unfold loopF at h
  split at h
  · rename_i q
    cases h
    exact q.choose_spec
  · cases h
theorem loopF_eq (f : σ → σ ⊕ τ) (s : σ) : loopF f s = match f s with
    | .inl s' => loopF f s'
    | .inr r => some r := by
  cases e : f s with
  | inr r => exact loopF_of (n := 1) (by unfold iterN; rw [e])
  | inl s' =>
    show loopF f s = loopF f s'
    cases q : loopF f s' with
    | some r =>
      obtain ⟨n, hn⟩ := loopF_some q
      exact loopF_of (n := n + 1) (by unfold iterN; rw [e]; exact hn)
    | none =>
      cases q' : loopF f s with
      | none => rfl
      | some r =>
        obtain ⟨n, hn⟩ := loopF_some q'
        cases n with
        | zero => cases hn
        | succ n =>
          unfold iterN at hn
          rw [e] at hn
          rw [loopF_of hn] at q
          cases q
end
def setF (f : Nm) (u : U) : List (Nm × U) → List (Nm × U)
  | [] => [(f, u)]
  | (g, x) :: r => if f = g then (f, u) :: r else (g, x) :: setF f u r
/-- a for's turns -/
def forL (f : U → Loc → AH → Rt) (g : List (Nat × List U)) : List U → Loc → AH → Rt
  | [], ρ, h => if stands g h = true then .nx ρ h else .bad
  | x :: xs, ρ, h => if stands g h = true then match f x ρ h with
    | .nx ρ' h' => forL f g xs ρ' h'
    | .ct ρ' h' => forL f g xs ρ' h'
    | .bk ρ' h' => .nx ρ' h'
    | r => r
    else .bad
def whlF (c : Loc → AH → Rs U) (b : Loc → AH → Rt) (s : Loc × AH) : (Loc × AH) ⊕ Rt := match c s.1 s.2 with
  | .ok (.bl true) h => match b s.1 h with
    | .nx ρ' h' => .inl (ρ', h')
    | .ct ρ' h' => .inl (ρ', h')
    | .bk ρ' h' => .inr (.nx ρ' h')
    | r => .inr r
  | .ok (.bl false) h => .inr (.nx s.1 h)
  | .ok _ _ => .inr .bad
  | .exc k fs h => .inr (.xc k fs s.1 h)
  | .bad => .inr .bad
/-- a name goes -/
def clr : Option Nat → Loc → Loc
  | none, ρ => ρ
  | some i, ρ => ρ.set i none
/-- a suite's end -/
def Rt.off (i : Option Nat) : Rt → Rt
  | .nx ρ h => .nx (clr i ρ) h
  | .bk ρ h => .bk (clr i ρ) h
  | .ct ρ h => .ct (clr i ρ) h
  | .rt u h => .rt u h
  | _ => .bad
noncomputable section
variable (P : Prog)
mutual
def evS (X : Ev) : S → Loc → AH → Rt
  | .asg t e, ρ, h => (evE P X e ρ h).go ρ fun u h => match bindT t u ρ with
    | some ρ' => .nx ρ' h
    | none => .bad
  | .fld o f e, ρ, h => (evE P X e ρ h).go ρ fun u h => (evE P X o ρ h).go ρ fun v h => match v with
    | .ref n => match getI h n with
      | some (c, fs) => if fs.length < 1000 ∧ (P.flds c).contains f = true then .nx ρ (h.set n (.ins c (setF f u fs))) else .bad
      | none => .bad
    | _ => .bad
  | .sub o i e, ρ, h => (evE P X e ρ h).go ρ fun u h => (evE P X o ρ h).go ρ fun v h => (evE P X i ρ h).go ρ fun k h => match v, k with
    | .ref n, .int j => match getM h n with
      | some xs => match L2.ixN xs.length j with
        | some m => .nx ρ (h.set n (.lst (xs.set m u)))
        | none => .bad
      | none => .bad
    | _, _ => .bad
  | .ex e, ρ, h => (evE P X e ρ h).go ρ fun _ h => .nx ρ h
  | .ite c a b, ρ, h => (evE P X c ρ h).go ρ fun u h => match u with
    | .bl true => evSs X a ρ h
    | .bl false => evSs X b ρ h
    | _ => .bad
  | .whl c b, ρ, h => if X.hx = none then (loopF (whlF (evE P X c) (evSs X b)) (ρ, h)).getD .bad else .bad
  | .for_ t k its b, ρ, h => if X.hx = none then ((evEs P X its ρ h).bind fun us h => Rs.opt (itsU k us h) h).go ρ fun p h => forL (fun x ρ h => match bindT t x ρ with
      | some ρ' => evSs X b ρ' h
      | none => .bad) p.2 p.1 ρ h
    else .bad
  | .ret e, ρ, h => (evE P X e ρ h).go ρ fun u h => .rt u h
  | .brk, ρ, h => .bk ρ h
  | .cnt, ρ, h => .ct ρ h
  | .pass, ρ, h => .nx ρ h
  | .raise c, ρ, h => if X.hx = none ∧ P.exn c = true then .xc c [] ρ h else .bad
  | .try_ b c i s, ρ, h => if X.hx = none ∧ P.exn c = true then match evSs X b ρ h with
    | .xc k fs ρ' h' => if P.exn k = true then (if P.sub k c = true then (evSs { X with hx := some (k, fs) } s (clr i ρ') h').off i else .xc k fs ρ' h') else .bad
    | r => r
    else .bad
def evSs (X : Ev) : List S → Loc → AH → Rt
  | [], ρ, h => .nx ρ h
  | s :: ss, ρ, h => (evS X s ρ h).seq fun ρ h => evSs X ss ρ h
end
def startU (m : Nat) (us : List U) : Loc := us.map some ++ List.replicate (m - us.length) none
def Rt.fin : Rt → Rs U
  | .nx _ h => .ok .non h
  | .rt u h => .ok u h
  | .xc c fs _ h => .exc c fs h
  | _ => .bad
/-- the call of f, so many calls deep -/
def call : Nat → Nm → List U → AH → Rs U
  | 0, _, _, _ => .bad
  | d + 1, f, us, h => match P.fn f with
    | some F => if us.length = F.n then (evSs P ⟨call d, none⟩ F.body (startU F.m us) h).fin else .bad
    | none => .bad
end
end Pl

namespace Pl
open PySem
/-- 0 cell -/
def «b__law_well» : List S :=
  [.ret (.lst [.bin .mul (.bin .div (.bi .max [.cu (.int 0), .lc 0]) (.cu (.int 2))) (.bin .sub (.cu (.int 1)) (.bin .mod (.bi .int [.lc 0]) (.cu (.int 2)))), .bin .mod (.bi .int [.lc 0]) (.cu (.int 2147483563)), .cu (.int 0)])]
abbrev «f__law_well» : Fn := ⟨1, 1, «b__law_well»⟩
/-- 0 well, 1 limit, 2 found, 3 mixed -/
def «b__law_draw» : List S :=
  [.ite (.cmp .gt (.sub (.lc 0) (.cu (.int 0))) (.cu (.int 0))) [.asg (.one 2) (.bin .mod (.bi .int [.sub (.lc 0) (.cu (.int 0))]) (.lc 1)), .sub (.lc 0) (.cu (.int 0)) (.bin .div (.sub (.lc 0) (.cu (.int 0))) (.lc 1)), .ret (.lc 2)] [],
   .sub (.lc 0) (.cu (.int 2)) (.bin .add (.sub (.lc 0) (.cu (.int 2))) (.cu (.int 1))),
   .asg (.one 3) (.bin .mod (.bi .int [.bin .mul (.bin .add (.bin .add (.sub (.lc 0) (.cu (.int 1))) (.bin .mul (.cu (.int 7907)) (.sub (.lc 0) (.cu (.int 2))))) (.cu (.int 1))) (.cu (.int 48271))]) (.cu (.int 2147483647))),
   .asg (.one 3) (.bin .mod (.bi .int [.bin .mul (.lc 3) (.bin .add (.bin .div (.lc 3) (.cu (.int 1013))) (.cu (.int 69621)))]) (.cu (.int 2147483629))),
   .ret (.bin .mod (.bi .int [.bin .div (.bin .mod (.bi .int [.bin .mul (.lc 3) (.bin .add (.bin .div (.lc 3) (.cu (.int 2011))) (.cu (.int 40692)))]) (.cu (.int 2147483587))) (.cu (.int 5))]) (.lc 1))]
abbrev «f__law_draw» : Fn := ⟨2, 4, «b__law_draw»⟩
/-- 0 well -/
def «b__law_value» : List S :=
  [.ite (.cmp .gt (.call .«_law_draw» [.lc 0, .cu (.int 8)]) (.cu (.int 0))) [.ret (.bin .sub (.call .«_law_draw» [.lc 0, .cu (.int 5)]) (.cu (.int 2)))] [],
   .ret (.bin .add (.bin .sub (.call .«_law_draw» [.lc 0, .bin .sub (.bin .mul (.cu (.int 2)) (.bin .pow (.cu (.int 10)) (.cu (.int 40)))) (.cu (.int 3))]) (.bin .pow (.cu (.int 10)) (.cu (.int 40)))) (.cu (.int 2)))]
abbrev «f__law_value» : Fn := ⟨1, 1, «b__law_value»⟩
/-- 0 well, 1 is_tuple, 2 value, 3 first, 4 second -/
def «b__law_entry» : List S :=
  [.asg (.one 2) (.call .«_law_value» [.lc 0]),
   .asg (.tup [3, 4]) (.tup [.bin .add (.cu (.int 1)) (.call .«_law_draw» [.lc 0, .cu (.int 3)]), .bin .add (.cu (.int 1)) (.call .«_law_draw» [.lc 0, .cu (.int 3)])]),
   .ret (.tup [.lc 2, .sub (.lst [.bin .sub (.bin .add (.bin .mul (.cu (.int 2)) (.lc 3)) (.lc 4)) (.cu (.int 4)), .tup [.lc 3, .lc 4]]) (.bi .int [.lc 1])])]
abbrev «f__law_entry» : Fn := ⟨2, 5, «b__law_entry»⟩
/-- 0 index, 1 is_put, 2 entry, 3 found, 4 e, 5 other -/
def «b__law_outcome» : List S :=
  [.try_ [.ite (.lc 1) [.asg (.one 3) (.meth (.lc 0) .«put» [.sub (.lc 2) (.cu (.int 0)), .sub (.lc 2) (.cu (.int 1))])] [.asg (.one 3) (.meth (.lc 0) .«take» [.sub (.lc 2) (.cu (.int 0)), .sub (.lc 2) (.cu (.int 1))])]] .«LedgerError» (some 4) [.asg (.one 5) (.xisi [.«NoIndex», .«NoNumber», .«NoOrder», .«NoRow», .«NoTable»]), .ret (.ife (.an (.xisi [.«NoEntry»]) (.nt (.lc 5))) (.cu (.str "refused")) (.cu (.str "wrong")))],
   .ret (.ife (.cmp .is_ (.lc 3) (.cu .non)) (.cu (.str "done")) (.cu (.str "wrong")))]
abbrev «f__law_outcome» : Fn := ⟨3, 6, «b__law_outcome»⟩
/-- 0 index, 1 entries, 2 is_put, 3 entry, 4 due -/
def «b__law_done» : List S :=
  [.asg (.one 4) (.cu (.str "done")),
   .ite (.cmp .eq (.lc 2) (.cmp .in_ (.lc 3) (.lc 1))) [.asg (.one 4) (.cu (.str "refused"))] [],
   .ite (.cmp .ne (.call .«_law_outcome» [.lc 0, .lc 2, .lc 3]) (.lc 4)) [.ret (.cu (.bl false))] [],
   .ite (.an (.cmp .eq (.lc 4) (.cu (.str "done"))) (.lc 2)) [.ex (.meth (.lc 1) .«append» [.lc 3])] [.ite (.cmp .eq (.lc 4) (.cu (.str "done"))) [.ex (.meth (.lc 1) .«remove» [.lc 3])] []],
   .ret (.cu (.bl true))]
abbrev «f__law_done» : Fn := ⟨4, 5, «b__law_done»⟩
/-- 0 well, 1 is_tuple, 2 before, 3 entries, 4 entry, 5 way -/
def «b__law_deed» : List S :=
  [.asg (.one 4) (.call .«_law_entry» [.lc 0, .lc 1]),
   .asg (.one 5) (.call .«_law_draw» [.lc 0, .cu (.int 6)]),
   .ite (.an (.cmp .lt (.lc 5) (.cu (.int 2))) (.cmp .isnot (.lc 2) (.cu .non))) [.asg (.one 4) (.lc 2)] [],
   .ite (.an (.cmp .eq (.lc 5) (.cu (.int 2))) (.cmp .ne (.lc 3) (.lst []))) [.asg (.one 4) (.sub (.lc 3) (.call .«_law_draw» [.lc 0, .bi .len [.lc 3]]))] [],
   .ret (.tup [.cmp .lt (.call .«_law_draw» [.lc 0, .cu (.int 5)]) (.cu (.int 3)), .lc 4])]
abbrev «f__law_deed» : Fn := ⟨4, 6, «b__law_deed»⟩
/-- 0 well, 1 entries, 2 some, 3 entry -/
def «b__law_bound» : List S :=
  [.asg (.one 2) (.bin .add (.lst [.cu .non, .call .«_law_value» [.lc 0]]) (.comp (.sub (.lc 3) (.cu (.int 0))) (.one 3) .val [.lc 1] [])),
   .ret (.sub (.lc 2) (.call .«_law_draw» [.lc 0, .bi .len [.lc 2]]))]
abbrev «f__law_bound» : Fn := ⟨2, 4, «b__law_bound»⟩
/-- 0 index, 1 entries, 2 low, 3 high, 4 due, 5 entry, 6 found -/
def «b__law_shown» : List S :=
  [.asg (.one 4) (.comp (.lc 5) (.one 5) .val [.bi .sorted [.lc 1]] [.or (.cmp .is_ (.lc 2) (.cu .non)) (.cmp .ge (.sub (.lc 5) (.cu (.int 0))) (.lc 2))]),
   .asg (.one 4) (.comp (.lc 5) (.one 5) .val [.lc 4] [.or (.cmp .is_ (.lc 3) (.cu .non)) (.cmp .le (.sub (.lc 5) (.cu (.int 0))) (.lc 3))]),
   .asg (.one 6) (.meth (.lc 0) .«between» [.lc 2, .lc 3]),
   .ite (.or (.nt (.isi (.lc 6) [.list])) (.or (.cmp .ne (.lc 6) (.lc 4)) (.nt (.bi .all [.comp (.isi (.lc 5) [.tuple]) (.one 5) .val [.lc 6] []])))) [.ret (.cu (.bl false))] [],
   .ex (.meth (.lc 6) .«reverse» []),
   .ex (.meth (.lc 6) .«append» [.tup [.cu (.int 0), .cu (.int 0)]]),
   .ret (.cmp .eq (.meth (.lc 0) .«between» [.lc 2, .lc 3]) (.lc 4))]
abbrev «f__law_shown» : Fn := ⟨4, 7, «b__law_shown»⟩
/-- 0 entry, 1 index, 2 entries, 3 is_put -/
def «b__law_fresh_right» : List S :=
  [.asg (.tup [1, 2]) (.tup [.new .«Index» [], .lst []]),
   .for_ (.one 3) .val [.lst [.cu (.bl false), .cu (.bl true), .cu (.bl true), .cu (.bl false), .cu (.bl false), .cu (.bl true)]] [.ite (.nt (.call .«_law_done» [.lc 1, .lc 2, .lc 3, .lc 0])) [.ret (.cu (.bl false))] []],
   .ret (.an (.cmp .eq (.meth (.lc 1) .«between» [.cu .non, .cu .non]) (.lst [.lc 0])) (.cmp .eq (.meth (.lc 1) .«between» [.bin .add (.sub (.lc 0) (.cu (.int 0))) (.cu (.int 1)), .cu .non]) (.lst [])))]
abbrev «f__law_fresh_right» : Fn := ⟨1, 4, «b__law_fresh_right»⟩
/-- 0 script, 1 well, 2 is_tuple, 3 is_late, 4 indexes, 5 kept, 6 before, 7 cell, 8 source, 9 at, 10 is_put, 11 low, 12 high, 13 index, 14 entries, 15 turn -/
def «b_law» : List S :=
  [.asg (.one 1) (.call .«_law_well» [.sub (.bin .add (.lc 0) (.lst [.cu (.int 0)])) (.cu (.int 0))]),
   .asg (.tup [2, 3]) (.tup [.cmp .eq (.call .«_law_draw» [.lc 1, .cu (.int 2)]) (.cu (.int 0)), .cmp .eq (.call .«_law_draw» [.lc 1, .cu (.int 3)]) (.cu (.int 0))]),
   .asg (.tup [4, 5, 6]) (.tup [.lst [.new .«Index» [], .new .«Index» []], .lst [.lst [], .lst []], .cu .non]),
   .for_ (.one 7) .val [.slc (.lc 0) [.cu (.int 1)] [.cu (.int 31)]] [.asg (.one 8) (.call .«_law_well» [.lc 7]), .asg (.one 9) (.bin .div (.call .«_law_draw» [.lc 8, .cu (.int 4)]) (.cu (.int 3))), .asg (.tup [10, 6]) (.call .«_law_deed» [.lc 8, .lc 2, .lc 6, .sub (.lc 5) (.lc 9)]), .ite (.nt (.call .«_law_done» [.sub (.lc 4) (.lc 9), .sub (.lc 5) (.lc 9), .lc 10, .lc 6])) [.ret (.cu (.bl false))] [], .ite (.an (.nt (.lc 3)) (.cmp .eq (.call .«_law_draw» [.lc 8, .cu (.int 3)]) (.cu (.int 0)))) [.asg (.tup [11, 12]) (.tup [.call .«_law_bound» [.lc 8, .sub (.lc 5) (.lc 9)], .call .«_law_bound» [.lc 8, .sub (.lc 5) (.lc 9)]]), .ite (.nt (.call .«_law_shown» [.sub (.lc 4) (.lc 9), .sub (.lc 5) (.lc 9), .lc 11, .lc 12])) [.ret (.cu (.bl false))] []] []],
   .for_ (.tup [13, 14]) .zip [.lc 4, .lc 5] [.for_ (.one 15) .range1 [.cu (.int 3)] [.ite (.nt (.call .«_law_shown» [.lc 13, .lc 14, .call .«_law_bound» [.lc 1, .lc 14], .call .«_law_bound» [.lc 1, .lc 14]])) [.ret (.cu (.bl false))] []], .ite (.nt (.call .«_law_shown» [.lc 13, .lc 14, .cu .non, .cu .non])) [.ret (.cu (.bl false))] []],
   .ret (.call .«_law_fresh_right» [.call .«_law_entry» [.lc 1, .lc 2]])]
abbrev «f_law» : Fn := ⟨1, 16, «b_law»⟩
/-- 0 self -/
def «b_Index___init__» : List S :=
  [.fld (.lc 0) .«entries» (.lst [])]
abbrev «f_Index___init__» : Fn := ⟨1, 1, «b_Index___init__»⟩
/-- 0 self, 1 entry, 2 low, 3 high, 4 middle -/
def «b_Index_place_of» : List S :=
  [.asg (.one 2) (.cu (.int 0)),
   .asg (.one 3) (.bi .len [.fld (.lc 0) .«entries»]),
   .whl (.cmp .lt (.lc 2) (.lc 3)) [.asg (.one 4) (.bin .div (.bin .add (.lc 2) (.lc 3)) (.cu (.int 2))), .ite (.cmp .lt (.sub (.fld (.lc 0) .«entries») (.lc 4)) (.lc 1)) [.asg (.one 2) (.bin .add (.lc 4) (.cu (.int 1)))] [.asg (.one 3) (.lc 4)]],
   .ret (.lc 2)]
abbrev «f_Index_place_of» : Fn := ⟨2, 5, «b_Index_place_of»⟩
/-- 0 self, 1 at, 2 entry -/
def «b_Index_stands_at» : List S :=
  [.ret (.an (.cmp .lt (.lc 1) (.bi .len [.fld (.lc 0) .«entries»])) (.cmp .eq (.sub (.fld (.lc 0) .«entries») (.lc 1)) (.lc 2)))]
abbrev «f_Index_stands_at» : Fn := ⟨3, 3, «b_Index_stands_at»⟩
/-- 0 self, 1 value, 2 number, 3 at -/
def «b_Index_put» : List S :=
  [.asg (.one 3) (.meth (.lc 0) .«place_of» [.tup [.lc 1, .lc 2]]),
   .ite (.meth (.lc 0) .«stands_at» [.lc 3, .tup [.lc 1, .lc 2]]) [.raise .«NoEntry»] [],
   .ex (.meth (.fld (.lc 0) .«entries») .«insert» [.lc 3, .tup [.lc 1, .lc 2]])]
abbrev «f_Index_put» : Fn := ⟨3, 4, «b_Index_put»⟩
/-- 0 self, 1 value, 2 number, 3 at -/
def «b_Index_take» : List S :=
  [.asg (.one 3) (.meth (.lc 0) .«place_of» [.tup [.lc 1, .lc 2]]),
   .ite (.nt (.meth (.lc 0) .«stands_at» [.lc 3, .tup [.lc 1, .lc 2]])) [.raise .«NoEntry»] [],
   .ex (.meth (.fld (.lc 0) .«entries») .«pop» [.lc 3])]
abbrev «f_Index_take» : Fn := ⟨3, 4, «b_Index_take»⟩
/-- 0 self, 1 value, 2 low, 3 high, 4 middle -/
def «b_Index_first_from» : List S :=
  [.asg (.one 2) (.cu (.int 0)),
   .asg (.one 3) (.bi .len [.fld (.lc 0) .«entries»]),
   .whl (.cmp .lt (.lc 2) (.lc 3)) [.asg (.one 4) (.bin .div (.bin .add (.lc 2) (.lc 3)) (.cu (.int 2))), .ite (.cmp .lt (.sub (.sub (.fld (.lc 0) .«entries») (.lc 4)) (.cu (.int 0))) (.lc 1)) [.asg (.one 2) (.bin .add (.lc 4) (.cu (.int 1)))] [.asg (.one 3) (.lc 4)]],
   .ret (.lc 2)]
abbrev «f_Index_first_from» : Fn := ⟨2, 5, «b_Index_first_from»⟩
/-- 0 self, 1 low, 2 high, 3 start, 4 end -/
def «b_Index_between» : List S :=
  [.asg (.one 3) (.cu (.int 0)),
   .asg (.one 4) (.bi .len [.fld (.lc 0) .«entries»]),
   .ite (.cmp .isnot (.lc 1) (.cu .non)) [.asg (.one 3) (.meth (.lc 0) .«first_from» [.lc 1])] [],
   .ite (.cmp .isnot (.lc 2) (.cu .non)) [.asg (.one 4) (.meth (.lc 0) .«first_from» [.bin .add (.lc 2) (.cu (.int 1))])] [],
   .ret (.slc (.fld (.lc 0) .«entries») [.lc 3] [.lc 4])]
abbrev «f_Index_between» : Fn := ⟨3, 5, «b_Index_between»⟩
def fnOf : Nm → Option Fn
  | .«_law_well» => some «f__law_well»
  | .«_law_draw» => some «f__law_draw»
  | .«_law_value» => some «f__law_value»
  | .«_law_entry» => some «f__law_entry»
  | .«_law_outcome» => some «f__law_outcome»
  | .«_law_done» => some «f__law_done»
  | .«_law_deed» => some «f__law_deed»
  | .«_law_bound» => some «f__law_bound»
  | .«_law_shown» => some «f__law_shown»
  | .«_law_fresh_right» => some «f__law_fresh_right»
  | .«law» => some «f_law»
  | .«Index___init__» => some «f_Index___init__»
  | .«Index_place_of» => some «f_Index_place_of»
  | .«Index_stands_at» => some «f_Index_stands_at»
  | .«Index_put» => some «f_Index_put»
  | .«Index_take» => some «f_Index_take»
  | .«Index_first_from» => some «f_Index_first_from»
  | .«Index_between» => some «f_Index_between»
  | _ => none
def methOf : Nm → Nm → Option Nm
  | .«Index», .«__init__» => some .«Index___init__»
  | .«Index», .«place_of» => some .«Index_place_of»
  | .«Index», .«stands_at» => some .«Index_stands_at»
  | .«Index», .«put» => some .«Index_put»
  | .«Index», .«take» => some .«Index_take»
  | .«Index», .«first_from» => some .«Index_first_from»
  | .«Index», .«between» => some .«Index_between»
  | _, _ => none
def initOf : Nm → Option Nm
  | .«Index» => some .«Index___init__»
  | _ => none
def supOf : Nm → List Nm
  | .«LedgerError» => [.«LedgerError»]
  | .«NoTable» => [.«NoTable», .«LedgerError»]
  | .«NoEntry» => [.«NoEntry», .«LedgerError»]
  | .«NoIndex» => [.«NoIndex», .«LedgerError»]
  | .«NoRow» => [.«NoRow», .«LedgerError»]
  | .«NoNumber» => [.«NoNumber», .«LedgerError»]
  | .«NoOrder» => [.«NoOrder», .«LedgerError»]
  | .«Index» => [.«Index»]
  | _ => []
def conOf : Nm → Option U
  | _ => none
def fldsOf : Nm → List Nm
  | .«Index» => [.«entries»]
  | _ => []
def exnOf : List Nm := [.«LedgerError», .«NoTable», .«NoEntry», .«NoIndex», .«NoRow», .«NoNumber», .«NoOrder»]
def prg : Prog := ⟨fnOf, methOf, initOf, fun c d => (supOf c).contains d, fldsOf, conOf, fun c => exnOf.contains c⟩
end Pl
namespace Pl
open PySem
/-! ### what a run must do: weakest wishes -/
abbrev XW := Nm → List (Nm × U) → AH → Prop
def noX : XW := fun _ _ _ => False
def Rs.W {α : Type} (r : Rs α) (Q : α → AH → Prop) (X : XW) : Prop := match r with
  | .ok u h => Q u h
  | .exc c fs h => X c fs h
  | .bad => False
structure Po where
  nx : Loc → AH → Prop
  rt : U → AH → Prop
  xc : Nm → List (Nm × U) → Loc → AH → Prop
  bk : Loc → AH → Prop := fun _ _ => False
  ct : Loc → AH → Prop := fun _ _ => False
def Rt.W (r : Rt) (D : Po) : Prop := match r with
  | .nx ρ h => D.nx ρ h
  | .rt u h => D.rt u h
  | .bk ρ h => D.bk ρ h
  | .ct ρ h => D.ct ρ h
  | .xc c fs ρ h => D.xc c fs ρ h
  | .bad => False
section
variable {α β : Type} {Q Q' : α → AH → Prop} {X X' : XW} {D D' : Po} {h : AH} {ρ : Loc}
theorem W_ok {u : α} : (Rs.ok u h).W Q X = Q u h := rfl
theorem W_exc {c : Nm} {fs : List (Nm × U)} : (Rs.exc c fs h : Rs α).W Q X = X c fs h := rfl
theorem W_bad : (Rs.bad : Rs α).W Q X = False := rfl
theorem W_bind {r : Rs β} {f : β → AH → Rs α} : (r.bind f).W Q X = r.W (fun u h => (f u h).W Q X) X := by cases r <;> rfl
theorem W_opt {o : Option α} : (Rs.opt o h).W Q X = ∃ u, o = some u ∧ Q u h := by
  cases o with
  | none => exact propext ⟨fun z => z.elim, fun ⟨u, e, _⟩ => nomatch e⟩
  | some u => exact propext ⟨fun z => ⟨u, rfl, z⟩, fun ⟨u', e, z⟩ => by cases e; exact z⟩
theorem W_imp {r : Rs α} (w : r.W Q X) (q : ∀ u h, Q u h → Q' u h) (x : ∀ c fs h, X c fs h → X' c fs h) : r.W Q' X' := by
  cases r with
  | ok u h => exact q _ _ w
  | exc c fs h => exact x _ _ _ w
  | bad => exact w
theorem W_mp {r : Rs α} (w : r.W Q X) (q : ∀ u h, Q u h → Q' u h) : r.W Q' X := W_imp w q fun _ _ _ z => z
theorem W_no {r : Rs α} (w : r.W Q noX) (q : ∀ u h, Q u h → Q' u h) : r.W Q' X := W_imp w q fun _ _ _ z => z.elim
theorem W_eq {r : Rs α} (w : r.W Q noX) : ∃ u h, r = .ok u h ∧ Q u h := by
  cases r with
  | ok u h => exact ⟨u, h, rfl, w⟩
  | exc c fs h => exact w.elim
  | bad => exact w.elim
theorem S_go {r : Rs α} {f : α → AH → Rt} : (r.go ρ f).W D = r.W (fun u h => (f u h).W D) (fun c fs h => D.xc c fs ρ h) := by cases r <;> rfl
theorem S_seq {r : Rt} {f : Loc → AH → Rt} : (r.seq f).W D = r.W { D with nx := fun ρ h => (f ρ h).W D } := by cases r <;> rfl
theorem S_nx : (Rt.nx ρ h).W D = D.nx ρ h := rfl
theorem S_rt {u : U} : (Rt.rt u h).W D = D.rt u h := rfl
theorem S_bk : (Rt.bk ρ h).W D = D.bk ρ h := rfl
theorem S_ct : (Rt.ct ρ h).W D = D.ct ρ h := rfl
theorem S_xc {c : Nm} {fs : List (Nm × U)} : (Rt.xc c fs ρ h).W D = D.xc c fs ρ h := rfl
theorem S_bad : Rt.bad.W D = False := rfl
theorem S_fin {r : Rt} {Q : U → AH → Prop} : r.fin.W Q X = r.W { nx := fun _ h => Q .non h, rt := Q, xc := fun c fs _ h => X c fs h } := by cases r <;> rfl
theorem S_imp {r : Rt} (w : r.W D) (n : ∀ ρ h, D.nx ρ h → D'.nx ρ h) (t : ∀ u h, D.rt u h → D'.rt u h) (x : ∀ c fs ρ h, D.xc c fs ρ h → D'.xc c fs ρ h) (b : ∀ ρ h, D.bk ρ h → D'.bk ρ h) (c : ∀ ρ h, D.ct ρ h → D'.ct ρ h) : r.W D' := by
  cases r with
  | nx ρ h => exact n _ _ w
  | rt u h => exact t _ _ w
  | bk ρ h => exact b _ _ w
  | ct ρ h => exact c _ _ w
  | xc k fs ρ h => exact x _ _ _ _ w
  | bad => exact w
theorem W_ite {c : Prop} [Decidable c] {a b : Rs α} (ht : c → a.W Q X) (hf : ¬ c → b.W Q X) : (if c then a else b).W Q X := by
  by_cases z : c
  · rw [if_pos z]; exact ht z
  · rw [if_neg z]; exact hf z
theorem W_pos {c : Prop} [Decidable c] {a b : Rs α} (hc : c) (ht : a.W Q X) : (if c then a else b).W Q X := by rw [if_pos hc]; exact ht
end
/-- a def's call, by its body -/
theorem call_W {P : Prog} {d : Nat} {f : Nm} {F : Fn} {us : List U} {h : AH} {Q : U → AH → Prop} {X : XW} (e : P.fn f = some F) (hl : us.length = F.n)
    (q : (evSs P ⟨call P d, none⟩ F.body (startU F.m us) h).W { nx := fun _ h => Q .non h, rt := Q, xc := fun c fs _ h => X c fs h }) : (call P (d + 1) f us h).W Q X := by
  unfold call
  rw [e]
  simp only
  rw [if_pos hl, S_fin]
  exact q
theorem ss_cons {P : Prog} {X : Ev} {s : S} {ss : List S} {ρ : Loc} {h : AH} {D : Po} : (evSs P X (s :: ss) ρ h).W D = (evS P X s ρ h).W { D with nx := fun ρ h => (evSs P X ss ρ h).W D } := by rw [evSs, S_seq]
theorem ss_nil {P : Prog} {X : Ev} {ρ : Loc} {h : AH} {D : Po} : (evSs P X [] ρ h).W D = D.nx ρ h := by rw [evSs]; rfl
/-! ### loops -/
/-- while, by an invariant and a measure -/
theorem whl_W {P : Prog} {X : Ev} {c : E} {b : List S} {ρ : Loc} {h : AH} {D : Po} (hx : X.hx = none) (I : Nat → Loc → AH → Prop) (n : Nat) (h0 : I n ρ h)
    (step : ∀ n ρ h, I n ρ h → (evE P X c ρ h).W (fun u h => (u = .bl true ∧ (evSs P X b ρ h).W { D with nx := fun ρ h => ∃ m, m < n ∧ I m ρ h, ct := fun ρ h => ∃ m, m < n ∧ I m ρ h, bk := D.nx }) ∨ (u = .bl false ∧ D.nx ρ h)) fun c fs h => D.xc c fs ρ h) :
    (evS P X (.whl c b) ρ h).W D := by
  rw [evS, if_pos hx]
  have key : ∀ n ρ h, I n ρ h → ∃ r, loopF (whlF (evE P X c) (evSs P X b)) (ρ, h) = some r ∧ r.W D := by
    intro n
    induction n using Nat.strongRecOn with
    | _ n ih =>
      intro ρ h hI
      have st := step n ρ h hI
      rw [loopF_eq]
      cases ec : evE P X c ρ h with
      | bad => rw [ec] at st; exact st.elim
      | exc k fs h1 =>
        rw [ec] at st
        have ef : whlF (evE P X c) (evSs P X b) (ρ, h) = .inr (.xc k fs ρ h1) := by unfold whlF; simp only [ec]
        rw [ef]
        exact ⟨_, rfl, st⟩
      | ok u h1 =>
        rw [ec] at st
        rcases st with ⟨rfl, st⟩ | ⟨rfl, st⟩
        · cases eb : evSs P X b ρ h1 with
          | bad => rw [eb] at st; exact st.elim
          | nx ρ' h' =>
            rw [eb] at st
            have ef : whlF (evE P X c) (evSs P X b) (ρ, h) = .inl (ρ', h') := by unfold whlF; simp only [ec, eb]
            rw [ef]
            obtain ⟨m, hm, hI'⟩ := st
            exact ih m hm ρ' h' hI'
          | ct ρ' h' =>
            rw [eb] at st
            have ef : whlF (evE P X c) (evSs P X b) (ρ, h) = .inl (ρ', h') := by unfold whlF; simp only [ec, eb]
            rw [ef]
            obtain ⟨m, hm, hI'⟩ := st
            exact ih m hm ρ' h' hI'
          | bk ρ' h' =>
            rw [eb] at st
            have ef : whlF (evE P X c) (evSs P X b) (ρ, h) = .inr (.nx ρ' h') := by unfold whlF; simp only [ec, eb]
            rw [ef]
            exact ⟨_, rfl, st⟩
          | rt u h' =>
            rw [eb] at st
            have ef : whlF (evE P X c) (evSs P X b) (ρ, h) = .inr (.rt u h') := by unfold whlF; simp only [ec, eb]
            rw [ef]
            exact ⟨_, rfl, st⟩
          | xc k fs ρ' h' =>
            rw [eb] at st
            have ef : whlF (evE P X c) (evSs P X b) (ρ, h) = .inr (.xc k fs ρ' h') := by unfold whlF; simp only [ec, eb]
            rw [ef]
            exact ⟨_, rfl, st⟩
        · have ef : whlF (evE P X c) (evSs P X b) (ρ, h) = .inr (.nx ρ h1) := by unfold whlF; simp only [ec]
          rw [ef]
          exact ⟨_, rfl, st⟩
  obtain ⟨r, e, q⟩ := key n ρ h h0
  rw [e]
  exact q
/-- a for's turns, by an invariant of what is left -/
theorem for_W {f : U → Loc → AH → Rt} {g : List (Nat × List U)} {D : Po} (I : List U → Loc → AH → Prop) (hs : ∀ xs ρ h, I xs ρ h → stands g h = true) (he : ∀ ρ h, I [] ρ h → D.nx ρ h)
    (step : ∀ x xs ρ h, I (x :: xs) ρ h → (f x ρ h).W { D with nx := I xs, ct := I xs, bk := D.nx }) : ∀ (xs : List U) (ρ : Loc) (h : AH), I xs ρ h → (forL f g xs ρ h).W D
  | [], ρ, h, hI => by
    unfold forL
    rw [if_pos (hs _ _ _ hI)]
    exact he _ _ hI
  | x :: xs, ρ, h, hI => by
    have st := step x xs ρ h hI
    unfold forL
    rw [if_pos (hs _ _ _ hI)]
    cases e : f x ρ h with
    | bad => rw [e] at st; exact st
    | nx ρ' h' => rw [e] at st; exact for_W I hs he step xs ρ' h' st
    | ct ρ' h' => rw [e] at st; exact for_W I hs he step xs ρ' h' st
    | bk ρ' h' => rw [e] at st; exact st
    | rt u h' => rw [e] at st; exact st
    | xc c fs ρ' h' => rw [e] at st; exact st
/-- a comprehension's turns, by an invariant of what is left and what is gathered -/
theorem comp_W {f : U → AH → Rs (Option U)} {g : List (Nat × List U)} {D : Nat} {Q : U → AH → Prop} {X : XW} (I : List U → List U → AH → Prop) (hs : ∀ xs acc h, I xs acc h → stands g h = true) (he : ∀ acc h, I [] acc h → Q (.ref D) h)
    (step : ∀ x xs acc h, I (x :: xs) acc h → (f x h).W (fun z h => getM h D = some acc ∧ match z with
      | some y => acc.length < sln ∧ I xs (acc ++ [y]) (h.set D (.lst (acc ++ [y])))
      | none => I xs acc h) noX) : ∀ (xs acc : List U) (h : AH), I xs acc h → (compL f g D xs acc h).W Q X
  | [], acc, h, hI => by
    unfold compL
    rw [if_pos (hs _ _ _ hI)]
    exact he _ _ hI
  | x :: xs, acc, h, hI => by
    have st := step x xs acc h hI
    unfold compL
    rw [if_pos (hs _ _ _ hI)]
    cases e : f x h with
    | bad => rw [e] at st; exact st.elim
    | exc c fs h' => rw [e] at st; exact st.elim
    | ok z h' =>
      rw [e] at st
      cases z with
      | none =>
        obtain ⟨s1, s2⟩ := st
        simp only
        rw [if_pos s1]
        exact comp_W I hs he step xs acc h' s2
      | some y =>
        obtain ⟨s1, s2, s3⟩ := st
        simp only
        rw [if_pos ⟨s1, s2⟩]
        exact comp_W I hs he step xs (acc ++ [y]) _ s3
/-! ### comparisons -/
theorem eqU_int {h : AH} {i j : Int} : eqU h (.int i) (.int j) = some (i == j) := rfl
theorem eqU_bl {h : AH} {i j : Bool} : eqU h (.bl i) (.bl j) = some (i == j) := rfl
theorem eqU_str {h : AH} {i j : Str} : eqU h (.str i) (.str j) = some (i == j) := rfl
theorem lt_int (i j : Int) : W.dataLt (.int i) (.int j) = decide (i < j) := by
  first
    | exact W.dataLt_int i j
    | (rw [W.dataLt_int])
theorem ord_int {h : AH} {g : PyData → PyData → Bool} {i j : Int} : ordU g h (.int i) (.int j) = some (g (.int i) (.int j)) := rfl
theorem cmp_eq_int {h : AH} {i j : Int} : cmpop .eq (.int i) (.int j) h = some (decide (i = j)) := by
  show some (i == j) = _
  congr 1
theorem cmp_ne_int {h : AH} {i j : Int} : cmpop .ne (.int i) (.int j) h = some (!decide (i = j)) := by
  show some (!(i == j)) = _
  congr 1
theorem cmp_eq_bl {h : AH} {i j : Bool} : cmpop .eq (.bl i) (.bl j) h = some (i == j) := rfl
theorem cmp_ne_bl {h : AH} {i j : Bool} : cmpop .ne (.bl i) (.bl j) h = some (!(i == j)) := rfl
theorem cmp_eq_str {h : AH} {i j : Str} : cmpop .eq (.str i) (.str j) h = some (i == j) := rfl
theorem cmp_ne_str {h : AH} {i j : Str} : cmpop .ne (.str i) (.str j) h = some (!(i == j)) := rfl
theorem cmp_lt_int {h : AH} {i j : Int} : cmpop .lt (.int i) (.int j) h = some (decide (i < j)) := by
  show some (W.dataLt _ _) = _
  rw [lt_int]
theorem cmp_gt_int {h : AH} {i j : Int} : cmpop .gt (.int i) (.int j) h = some (decide (j < i)) := by
  show some (W.dataLt _ _) = _
  rw [lt_int]
theorem cmp_le_int {h : AH} {i j : Int} : cmpop .le (.int i) (.int j) h = some (decide (i ≤ j)) := by
  show some (!W.dataLt _ _) = _
  rw [lt_int]
  congr 1
  by_cases z : j < i
  · rw [decide_eq_true z, decide_eq_false (by omega)]; rfl
  · rw [decide_eq_false z, decide_eq_true (by omega)]; rfl
theorem cmp_ge_int {h : AH} {i j : Int} : cmpop .ge (.int i) (.int j) h = some (decide (j ≤ i)) := by
  show some (!W.dataLt _ _) = _
  rw [lt_int]
  congr 1
  by_cases z : i < j
  · rw [decide_eq_true z, decide_eq_false (by omega)]; rfl
  · rw [decide_eq_false z, decide_eq_true (by omega)]; rfl
theorem cmp_is {h : AH} {u : U} : cmpop .is_ u .non h = some (decide (u = .non)) := rfl
theorem cmp_isnot {h : AH} {u : U} : cmpop .isnot u .non h = some (!decide (u = .non)) := rfl
end Pl

namespace Pl
open PySem
/-! ### wishes of each form -/
section
variable {P : Prog} {X : Ev} {ρ : Loc} {h : AH} {Q : U → AH → Prop} {Ql : List U → AH → Prop} {Z : XW} {D : Po}
theorem W_ifb {α : Type} {c : Prop} [Decidable c] {r : Rs α} {Q : α → AH → Prop} : (if c then r else .bad).W Q Z = (c ∧ r.W Q Z) := by
  by_cases z : c
  · rw [if_pos z]; exact propext ⟨fun q => ⟨z, q⟩, fun q => q.2⟩
  · rw [if_neg z]; exact propext ⟨fun q => q.elim, fun q => absurd q.1 z⟩
theorem W_bool {α : Type} {u : U} {f g : Rs α} {Q : α → AH → Prop} (k : Rs α) (hk : k = match u with
    | .bl true => f
    | .bl false => g
    | _ => .bad) : k.W Q Z = ∃ b, u = .bl b ∧ (b = true → f.W Q Z) ∧ (b = false → g.W Q Z) := by
  subst hk
  cases u with
  | bl b =>
    cases b with
    | true => exact propext ⟨fun q => ⟨true, rfl, fun _ => q, fun z => nomatch z⟩, fun ⟨b, e, q, _⟩ => by cases e; exact q rfl⟩
    | false => exact propext ⟨fun q => ⟨false, rfl, (fun z => nomatch z), fun _ => q⟩, fun ⟨b, e, _, q⟩ => by cases e; exact q rfl⟩
  | _ => exact propext ⟨fun q => q.elim, fun ⟨b, e, _⟩ => nomatch e⟩
theorem e_lc {i : Nat} : (evE P X (.lc i) ρ h).W Q Z = ∃ u, ρ[i]? = some (some u) ∧ Q u h := by
  rw [evE]
  cases e : ρ[i]? with
  | none => exact propext ⟨fun z => z.elim, fun ⟨u, e, _⟩ => nomatch e⟩
  | some z =>
    cases z with
    | none => exact propext ⟨fun z => z.elim, fun ⟨u, e, _⟩ => nomatch e⟩
    | some u => exact propext ⟨fun z => ⟨u, rfl, z⟩, fun ⟨u', e, q⟩ => by cases e; exact q⟩
theorem e_cu {u : U} : (evE P X (.cu u) ρ h).W Q Z = Q u h := by rw [evE]; rfl
theorem e_gl {g : Nm} : (evE P X (.gl g) ρ h).W Q Z = ∃ u, P.con g = some u ∧ Q u h := by rw [evE, W_opt]
theorem e_bin {o : Bo} {a b : E} : (evE P X (.bin o a b) ρ h).W Q Z = (evE P X a ρ h).W (fun u h => (evE P X b ρ h).W (fun v h => (binop o u v h).W Q Z) Z) Z := by
  rw [evE, W_bind]
  simp only [W_bind]
theorem e_neg {a : E} : (evE P X (.neg a) ρ h).W Q Z = (evE P X a ρ h).W (fun u h => ∃ i, u = .int i ∧ Q (.int (-i)) h) Z := by
  rw [evE, W_bind]
  congr 1
  funext u h
  cases u with
  | int i => exact propext ⟨fun q => ⟨i, rfl, q⟩, fun ⟨i, e, q⟩ => by cases e; exact q⟩
  | _ => exact propext ⟨fun q => q.elim, fun ⟨b, e, _⟩ => nomatch e⟩
theorem e_nt {a : E} : (evE P X (.nt a) ρ h).W Q Z = (evE P X a ρ h).W (fun u h => ∃ b, u = .bl b ∧ Q (.bl (!b)) h) Z := by
  rw [evE, W_bind]
  congr 1
  funext u h
  cases u with
  | bl i => exact propext ⟨fun q => ⟨i, rfl, q⟩, fun ⟨i, e, q⟩ => by cases e; exact q⟩
  | _ => exact propext ⟨fun q => q.elim, fun ⟨b, e, _⟩ => nomatch e⟩
theorem e_an {a b : E} : (evE P X (.an a b) ρ h).W Q Z = (evE P X a ρ h).W (fun u h => ∃ c, u = .bl c ∧ (c = true → (evE P X b ρ h).W Q Z) ∧ (c = false → Q (.bl false) h)) Z := by
  rw [evE, W_bind]
  congr 1
  funext u h
  exact W_bool _ rfl
theorem e_or {a b : E} : (evE P X (.or a b) ρ h).W Q Z = (evE P X a ρ h).W (fun u h => ∃ c, u = .bl c ∧ (c = true → Q (.bl true) h) ∧ (c = false → (evE P X b ρ h).W Q Z)) Z := by
  rw [evE, W_bind]
  congr 1
  funext u h
  exact W_bool _ rfl
theorem e_cmp {o : Co} {a b : E} : (evE P X (.cmp o a b) ρ h).W Q Z = (evE P X a ρ h).W (fun u h => (evE P X b ρ h).W (fun v h => ∃ c, cmpop o u v h = some c ∧ Q (.bl c) h) Z) Z := by
  rw [evE, W_bind]
  congr 1
  funext u h
  rw [W_bind]
  congr 1
  funext v h
  rw [W_opt]
  cases cmpop o u v h with
  | none => exact propext ⟨fun ⟨u, e, _⟩ => (nomatch e), fun ⟨c, e, _⟩ => nomatch e⟩
  | some c => exact propext ⟨fun ⟨u, e, q⟩ => ⟨c, rfl, by cases e; exact q⟩, fun ⟨c', e, q⟩ => ⟨_, rfl, by cases e; exact q⟩⟩
theorem e_chain {o p : Co} {a b c : E} : (evE P X (.chain o p a b c) ρ h).W Q Z = (evE P X a ρ h).W (fun u h => (evE P X b ρ h).W (fun v h => ∃ k, cmpop o u v h = some k ∧ (k = true → (evE P X c ρ h).W (fun w h => ∃ k, cmpop p v w h = some k ∧ Q (.bl k) h) Z) ∧ (k = false → Q (.bl false) h)) Z) Z := by
  rw [evE, W_bind]
  congr 1
  funext u h
  rw [W_bind]
  congr 1
  funext v h
  cases cmpop o u v h with
  | none => exact propext ⟨fun q => q.elim, fun ⟨c, e, _⟩ => nomatch e⟩
  | some k =>
    cases k with
    | false => exact propext ⟨fun q => ⟨false, rfl, (fun z => nomatch z), fun _ => q⟩, fun ⟨k, e, _, q⟩ => by cases e; exact q rfl⟩
    | true =>
      simp only [W_bind]
      have e : ∀ (w : U) (h : AH), (Rs.opt ((cmpop p v w h).map U.bl) h).W Q Z = ∃ k, cmpop p v w h = some k ∧ Q (.bl k) h := fun w h => by
        rw [W_opt]
        cases cmpop p v w h with
        | none => exact propext ⟨fun ⟨u, e, _⟩ => (nomatch e), fun ⟨c, e, _⟩ => nomatch e⟩
        | some c => exact propext ⟨fun ⟨u, e, q⟩ => ⟨c, rfl, by cases e; exact q⟩, fun ⟨c', e, q⟩ => ⟨_, rfl, by cases e; exact q⟩⟩
      simp only [e]
      exact propext ⟨fun q => ⟨true, rfl, fun _ => q, fun z => nomatch z⟩, fun ⟨k, e, q, _⟩ => by cases e; exact q rfl⟩
theorem e_ife {c a b : E} : (evE P X (.ife c a b) ρ h).W Q Z = (evE P X c ρ h).W (fun u h => ∃ k, u = .bl k ∧ (k = true → (evE P X a ρ h).W Q Z) ∧ (k = false → (evE P X b ρ h).W Q Z)) Z := by
  rw [evE, W_bind]
  congr 1
  funext u h
  exact W_bool _ rfl
theorem ws_nil : (evEs P X [] ρ h).W Ql Z = Ql [] h := by rw [evEs]; rfl
theorem ws_cons {e : E} {es : List E} : (evEs P X (e :: es) ρ h).W Ql Z = (evE P X e ρ h).W (fun u h => (evEs P X es ρ h).W (fun us h => Ql (u :: us) h) Z) Z := by
  rw [evEs, W_bind]
  simp only [W_bind, W_ok]
theorem e_call {f : Nm} {as : List E} (hx : X.hx = none) (hf : (P.fn f).isSome = true) : (evE P X (.call f as) ρ h).W Q Z = (evEs P X as ρ h).W (fun us h => (X.call f us h).W Q Z) Z := by
  rw [evE, if_pos hx, W_bind]
  simp only [hf, if_true]
theorem e_new {c f : Nm} {as : List E} (hx : X.hx = none) (hi : P.init c = some f) (hf : (P.fn f).isSome = true) : (evE P X (.new c as) ρ h).W Q Z = (evEs P X as ρ h).W (fun us h => (X.call f (.ref h.length :: us) (h ++ [.ins c []])).W (fun u h' => u = .non ∧ Q (.ref h.length) h') Z) Z := by
  rw [evE, if_pos hx, hi]
  simp only [hf, if_true, W_bind]
  congr 1
  funext us h
  congr 1
  funext u h'
  cases u with
  | non => exact propext ⟨fun q => ⟨rfl, q⟩, fun q => q.2⟩
  | _ => exact propext ⟨fun q => q.elim, fun q => nomatch q.1⟩
/-- a method of an instance -/
theorem e_um {o : E} {m : Nm} {as : List E} (hx : X.hx = none) : (∃ (R : U → AH → Prop), (evE P X o ρ h).W R Z ∧ ∀ u h, R u h → ∃ a c fs f, u = .ref a ∧ h[a]? = some (.ins c fs) ∧ fs.lookup m = none ∧ P.meth c m = some f ∧ (P.fn f).isSome = true ∧ (evEs P X as ρ h).W (fun us h => (X.call f (.ref a :: us) h).W Q Z) Z) → (evE P X (.meth o m as) ρ h).W Q Z := by
  rintro ⟨R, h1, h2⟩
  rw [evE, W_bind]
  refine W_imp h1 (fun u h r => ?_) fun _ _ _ z => z
  obtain ⟨a, c, fs, f, rfl, e1, e2, e3, e4, q⟩ := h2 u h r
  simp only [e1, e2, e3, hx, e4, if_true, W_bind]
  exact q
/-- a method of a list -/
theorem e_lm {o : E} {m : Nm} {as : List E} (hm : isLm m = true) : (∃ (R : U → AH → Prop), (evE P X o ρ h).W R Z ∧ ∀ u h, R u h → ∃ a xs, u = .ref a ∧ h[a]? = some (.lst xs) ∧ (evEs P X as ρ h).W (fun us h => (mtL m a us h).W Q Z) Z) → (evE P X (.meth o m as) ρ h).W Q Z := by
  rintro ⟨R, h1, h2⟩
  rw [evE, W_bind]
  refine W_imp h1 (fun u h r => ?_) fun _ _ _ z => z
  obtain ⟨a, xs, rfl, e1, q⟩ := h2 u h r
  simp only [e1, hm, if_true, W_bind]
  exact q
theorem e_bi {b : Bi} {as : List E} (hx : X.hx = none ∨ b = .int) : (evE P X (.bi b as) ρ h).W Q Z = (evEs P X as ρ h).W (fun us h => (biop b us h).W Q Z) Z := by
  rw [evE, if_pos hx, W_bind]
theorem e_isi {a : E} {ts : List Ty} : (evE P X (.isi a ts) ρ h).W Q Z = (evE P X a ρ h).W (fun u h => ∃ b, isiA P h u ts = some b ∧ Q (.bl b) h) Z := by
  rw [evE, W_bind]
  congr 1
  funext u h
  rw [W_opt]
  cases isiA P h u ts with
  | none => exact propext ⟨fun ⟨u, e, _⟩ => (nomatch e), fun ⟨c, e, _⟩ => nomatch e⟩
  | some c => exact propext ⟨fun ⟨u, e, q⟩ => ⟨c, rfl, by cases e; exact q⟩, fun ⟨c', e, q⟩ => ⟨_, rfl, by cases e; exact q⟩⟩
theorem e_xisi {C : Nm → List U → AH → Rs U} {c : Nm} {fs : List (Nm × U)} {ts : List Nm} : (evE P ⟨C, some (c, fs)⟩ (.xisi ts) ρ h).W Q Z = (ts.all P.exn = true ∧ Q (.bl (ts.any fun t => P.sub c t)) h) := by
  rw [evE]
  exact W_ifb
theorem e_fld {a : E} {f : Nm} : (evE P X (.fld a f) ρ h).W Q Z = (evE P X a ρ h).W (fun u h => ∃ n, u = .ref n ∧ ∃ cf, getI h n = some cf ∧ (P.flds cf.1).contains f = true ∧ ∃ v, cf.2.lookup f = some v ∧ Q v h) Z := by
  rw [evE, W_bind]
  congr 1
  funext u h
  cases u with
  | ref n =>
    cases e : getI h n with
    | none => exact propext ⟨fun q => by simp only [e] at q; exact q.elim, fun ⟨n', e1, cf, e2, _⟩ => by cases e1; rw [e] at e2; cases e2⟩
    | some cf =>
      obtain ⟨c, fs⟩ := cf
      simp only [e]
      rw [W_ifb, W_opt]
      exact propext ⟨fun ⟨q1, v, q2, q3⟩ => ⟨n, rfl, (c, fs), e, q1, v, q2, q3⟩, fun ⟨n', e1, cf', e2, q1, v, q2, q3⟩ => by cases e1; rw [e] at e2; cases e2; exact ⟨q1, v, q2, q3⟩⟩
  | _ => exact propext ⟨fun q => q.elim, fun ⟨n', e1, _⟩ => nomatch e1⟩
theorem e_sub {a b : E} : (evE P X (.sub a b) ρ h).W Q Z = (evE P X a ρ h).W (fun u h => (evE P X b ρ h).W (fun v h => ∃ w, subop u v h = some w ∧ Q w h) Z) Z := by
  rw [evE, W_bind]
  simp only [W_bind, W_opt]
theorem e_tup {as : List E} : (evE P X (.tup as) ρ h).W Q Z = (evEs P X as ρ h).W (fun us h => us.length ≤ sln ∧ Q (.tup us) h) Z := by
  rw [evE, W_bind]
  simp only [W_ifb, W_ok]
theorem e_lst {as : List E} : (evE P X (.lst as) ρ h).W Q Z = (evEs P X as ρ h).W (fun us h => us.length ≤ sln ∧ Q (.ref h.length) (h ++ [.lst us])) Z := by
  rw [evE, W_bind]
  simp only [W_ifb]
  rfl
/-- a comprehension without a test; with one -/
theorem e_comp {el : E} {t : Tg} {k : ItK} {its : List E} (hx : X.hx = none) : (evE P X (.comp el t k its []) ρ h).W Q Z = (evEs P X its ρ h).W (fun us h => ∃ p, itsU k us h = some p ∧ (compL (fun x h => match bindT t x ρ with
      | some ρ' => (evE P X el ρ' h).bind fun y h => .ok (some y) h
      | none => .bad) p.2 h.length p.1 [] (h ++ [.lst []])).W Q Z) Z := by
  rw [evE, if_pos hx, W_bind, W_bind]
  simp only [W_opt]
  all_goals rfl
theorem e_compIf {el c : E} {t : Tg} {k : ItK} {its : List E} (hx : X.hx = none) : (evE P X (.comp el t k its [c]) ρ h).W Q Z = (evEs P X its ρ h).W (fun us h => ∃ p, itsU k us h = some p ∧ (compL (fun x h => match bindT t x ρ with
      | some ρ' => (evE P X c ρ' h).bind fun u h => match u with
          | .bl true => (evE P X el ρ' h).bind fun y h => .ok (some y) h
          | .bl false => .ok none h
          | _ => .bad
      | none => .bad) p.2 h.length p.1 [] (h ++ [.lst []])).W Q Z) Z := by
  rw [evE, if_pos hx, W_bind, W_bind]
  simp only [W_opt]
  all_goals rfl
theorem e_slc {a : E} {lo hi : List E} : (evE P X (.slc a lo hi) ρ h).W Q Z = (evE P X a ρ h).W (fun u h => (evEs P X lo ρ h).W (fun l h => ∃ l', partU l = some l' ∧ (evEs P X hi ρ h).W (fun r h => ∃ r', partU r = some r' ∧ (slcop u l' r' h).W Q Z) Z) Z) Z := by
  rw [evE, W_bind]
  congr 1
  funext u h
  rw [W_bind]
  congr 1
  funext l h
  cases e : partU l with
  | none => exact propext ⟨fun q => q.elim, fun ⟨l', e, _⟩ => nomatch e⟩
  | some l' =>
    have ee : ∀ (r : List U) (h : AH), (match partU r with
        | some r => slcop u l' r h
        | none => Rs.bad).W Q Z = ∃ r', partU r = some r' ∧ (slcop u l' r' h).W Q Z := fun r h => by
      cases e : partU r with
      | none => exact propext ⟨fun q => q.elim, fun ⟨l', e, _⟩ => nomatch e⟩
      | some r' => exact propext ⟨fun q => ⟨r', rfl, q⟩, fun ⟨r'', e, q⟩ => by cases e; exact q⟩
    show ((evEs P X hi ρ h).bind fun r h => match partU r with
        | some r => slcop u l' r h
        | none => Rs.bad).W Q Z = _
    rw [W_bind]
    have e3 : (fun (r : List U) (h : AH) => (match partU r with
        | some r => slcop u l' r h
        | none => Rs.bad).W Q Z) = fun r h => ∃ r', partU r = some r' ∧ (slcop u l' r' h).W Q Z := funext fun r => funext fun h => ee r h
    rw [e3]
    exact propext ⟨fun q => ⟨l', rfl, q⟩, fun ⟨l'', e, q⟩ => by cases e; exact q⟩
theorem e_bi0 {C : Nm → List U → AH → Rs U} {b : Bi} {as : List E} : (evE P ⟨C, none⟩ (.bi b as) ρ h).W Q Z = (evEs P ⟨C, none⟩ as ρ h).W (fun us h => (biop b us h).W Q Z) Z := e_bi (.inl rfl)
theorem e_call0 {C : Nm → List U → AH → Rs U} {f : Nm} {as : List E} : (evE P ⟨C, none⟩ (.call f as) ρ h).W Q Z = (evEs P ⟨C, none⟩ as ρ h).W (fun us h => (P.fn f).isSome = true ∧ (C f us h).W Q Z) Z := by
  rw [evE, if_pos rfl, W_bind]
  simp only [W_ifb]
theorem e_new0 {C : Nm → List U → AH → Rs U} {c : Nm} {as : List E} : (evE P ⟨C, none⟩ (.new c as) ρ h).W Q Z = ∃ f, P.init c = some f ∧ (P.fn f).isSome = true ∧ (evEs P ⟨C, none⟩ as ρ h).W (fun us h => (C f (.ref h.length :: us) (h ++ [.ins c []])).W (fun u h' => u = .non ∧ Q (.ref h.length) h') Z) Z := by
  cases hi : P.init c with
  | none =>
    rw [evE, if_pos rfl, hi]
    exact propext ⟨fun q => q.elim, fun ⟨f, e, _⟩ => nomatch e⟩
  | some f =>
    by_cases hf : (P.fn f).isSome = true
    · rw [e_new rfl hi hf]
      exact propext ⟨fun q => ⟨f, rfl, hf, q⟩, fun ⟨f', e, _, q⟩ => by cases e; exact q⟩
    · rw [evE, if_pos rfl, hi]
      simp only [hf]
      exact propext ⟨fun q => q.elim, fun ⟨f', e, q, _⟩ => by cases e; exact absurd q hf⟩
theorem e_meth0 {C : Nm → List U → AH → Rs U} {o : E} {m : Nm} {as : List E} : (evE P ⟨C, none⟩ (.meth o m as) ρ h).W Q Z = (evE P ⟨C, none⟩ o ρ h).W (fun u h => ∃ a, u = .ref a ∧
    ((∃ c fs f, h[a]? = some (.ins c fs) ∧ fs.lookup m = none ∧ P.meth c m = some f ∧ (P.fn f).isSome = true ∧ (evEs P ⟨C, none⟩ as ρ h).W (fun us h => (C f (.ref a :: us) h).W Q Z) Z) ∨
      (∃ xs, h[a]? = some (.lst xs) ∧ isLm m = true ∧ (evEs P ⟨C, none⟩ as ρ h).W (fun us h => (mtL m a us h).W Q Z) Z))) Z := by
  rw [evE, W_bind]
  congr 1
  funext u h
  cases u with
  | ref a =>
    cases e : h[a]? with
    | none =>
      simp only [e]
      exact propext ⟨fun q => q.elim, fun ⟨a', e1, q⟩ => by
        cases e1
        rw [e] at q
        rcases q with ⟨_, _, _, q, _⟩ | ⟨_, q, _⟩ <;> cases q⟩
    | some ob =>
      cases ob with
      | frz xs =>
        simp only [e]
        exact propext ⟨fun q => q.elim, fun ⟨a', e1, q⟩ => by
          cases e1
          rw [e] at q
          rcases q with ⟨_, _, _, q, _⟩ | ⟨_, q, _⟩ <;> cases q⟩
      | lst xs =>
        simp only [e]
        rw [W_ifb, W_bind]
        exact propext ⟨fun q => ⟨a, rfl, .inr ⟨xs, e, q.1, q.2⟩⟩, fun ⟨a', e1, q⟩ => by
          cases e1
          rw [e] at q
          rcases q with ⟨_, _, _, q, _⟩ | ⟨_, q, q2, q3⟩
          · cases q
          · exact ⟨q2, q3⟩⟩
      | ins c fs =>
        simp only [e]
        cases e2 : fs.lookup m with
        | some z =>
          exact propext ⟨fun q => q.elim, fun ⟨a', e1, q⟩ => by
            cases e1
            rw [e] at q
            rcases q with ⟨_, _, _, q, q2, _⟩ | ⟨_, q, _⟩
            · cases q; rw [e2] at q2; cases q2
            · cases q⟩
        | none =>
          cases e3 : P.meth c m with
          | none =>
            exact propext ⟨fun q => q.elim, fun ⟨a', e1, q⟩ => by
              cases e1
              rw [e] at q
              rcases q with ⟨_, _, _, q, _, q2, _⟩ | ⟨_, q, _⟩
              · cases q; rw [e3] at q2; cases q2
              · cases q⟩
          | some f =>
            simp only
            rw [W_ifb, W_bind]
            exact propext ⟨fun q => ⟨a, rfl, .inl ⟨c, fs, f, e, e2, e3, q.1, q.2⟩⟩, fun ⟨a', e1, q⟩ => by
              cases e1
              rw [e] at q
              rcases q with ⟨_, _, _, q, _, q2, q3, q4⟩ | ⟨_, q, _⟩
              · cases q; rw [e3] at q2; cases q2; exact ⟨q3, q4⟩
              · cases q⟩
  | _ => exact propext ⟨fun q => q.elim, fun ⟨a, e, _⟩ => nomatch e⟩
/-! statements -/
theorem s_asg {t : Tg} {e : E} : (evS P X (.asg t e) ρ h).W D = (evE P X e ρ h).W (fun u h => ∃ ρ', bindT t u ρ = some ρ' ∧ D.nx ρ' h) (fun c fs h => D.xc c fs ρ h) := by
  rw [evS, S_go]
  congr 1
  funext u h
  cases e : bindT t u ρ with
  | none => exact propext ⟨fun q => q.elim, fun ⟨l', e, _⟩ => nomatch e⟩
  | some ρ' => exact propext ⟨fun q => ⟨ρ', rfl, q⟩, fun ⟨r'', e, q⟩ => by cases e; exact q⟩
theorem s_one {i : Nat} {e : E} : (evS P X (.asg (.one i) e) ρ h).W D = (evE P X e ρ h).W (fun u h => D.nx (ρ.set i (some u)) h) (fun c fs h => D.xc c fs ρ h) := by
  rw [evS, S_go]
  rfl
theorem s_fld {o e : E} {f : Nm} : (evS P X (.fld o f e) ρ h).W D = (evE P X e ρ h).W (fun u h => (evE P X o ρ h).W (fun v h => ∃ n, v = .ref n ∧ ∃ cf, getI h n = some cf ∧ cf.2.length < 1000 ∧ (P.flds cf.1).contains f = true ∧ D.nx ρ (h.set n (.ins cf.1 (setF f u cf.2)))) (fun c fs h => D.xc c fs ρ h)) (fun c fs h => D.xc c fs ρ h) := by
  rw [evS, S_go]
  congr 1
  funext u h
  rw [S_go]
  congr 1
  funext v h
  cases v with
  | ref n =>
    cases e : getI h n with
    | none => exact propext ⟨fun q => by simp only [e] at q; exact q.elim, fun ⟨n', e1, cf, e2, _⟩ => by cases e1; rw [e] at e2; cases e2⟩
    | some cf =>
      obtain ⟨c, fs⟩ := cf
      simp only [e]
      by_cases z : fs.length < 1000 ∧ (P.flds c).contains f = true
      · rw [if_pos z]
        exact propext ⟨fun q => ⟨n, rfl, (c, fs), e, z.1, z.2, q⟩, fun ⟨n', e1, cf', e2, _, _, q⟩ => by cases e1; rw [e] at e2; cases e2; exact q⟩
      · rw [if_neg z]
        exact propext ⟨fun q => q.elim, fun ⟨n', e1, cf', e2, q1, q2, q⟩ => by cases e1; rw [e] at e2; cases e2; exact absurd ⟨q1, q2⟩ z⟩
  | _ => exact propext ⟨fun q => q.elim, fun ⟨n', e1, _⟩ => nomatch e1⟩
theorem s_sub {o i e : E} : (evS P X (.sub o i e) ρ h).W D = (evE P X e ρ h).W (fun u h => (evE P X o ρ h).W (fun v h => (evE P X i ρ h).W (fun k h => ∃ n, v = .ref n ∧ ∃ j, k = .int j ∧ ∃ xs, getM h n = some xs ∧ ∃ m, L2.ixN xs.length j = some m ∧ D.nx ρ (h.set n (.lst (xs.set m u)))) (fun c fs h => D.xc c fs ρ h)) (fun c fs h => D.xc c fs ρ h)) (fun c fs h => D.xc c fs ρ h) := by
  rw [evS, S_go]
  congr 1
  funext u h
  rw [S_go]
  congr 1
  funext v h
  rw [S_go]
  congr 1
  funext k h
  cases v with
  | ref n =>
    cases k with
    | int j =>
      cases e : getM h n with
      | none => exact propext ⟨fun q => by simp only [e] at q; exact q.elim, fun ⟨n', e1, j', _, xs, e2, _⟩ => by cases e1; rw [e] at e2; cases e2⟩
      | some xs =>
        simp only [e]
        cases e3 : L2.ixN xs.length j with
        | none => exact propext ⟨fun q => q.elim, fun ⟨n', e1, j', e4, xs', e2, m, e5, _⟩ => by cases e1; cases e4; rw [e] at e2; cases e2; rw [e3] at e5; cases e5⟩
        | some m => exact propext ⟨fun q => ⟨n, rfl, j, rfl, xs, e, m, e3, q⟩, fun ⟨n', e1, j', e4, xs', e2, m', e5, q⟩ => by cases e1; cases e4; rw [e] at e2; cases e2; rw [e3] at e5; cases e5; exact q⟩
    | _ => exact propext ⟨fun q => q.elim, fun ⟨n', _, j', e1, _⟩ => nomatch e1⟩
  | _ => exact propext ⟨fun q => by cases k <;> exact q.elim, fun ⟨n', e1, _⟩ => nomatch e1⟩
theorem s_ex {e : E} : (evS P X (.ex e) ρ h).W D = (evE P X e ρ h).W (fun _ h => D.nx ρ h) (fun c fs h => D.xc c fs ρ h) := by rw [evS, S_go]; rfl
theorem s_ret {e : E} : (evS P X (.ret e) ρ h).W D = (evE P X e ρ h).W (fun u h => D.rt u h) (fun c fs h => D.xc c fs ρ h) := by rw [evS, S_go]; rfl
theorem s_brk : (evS P X .brk ρ h).W D = D.bk ρ h := by rw [evS]; rfl
theorem s_cnt : (evS P X .cnt ρ h).W D = D.ct ρ h := by rw [evS]; rfl
theorem s_pass : (evS P X .pass ρ h).W D = D.nx ρ h := by rw [evS]; rfl
theorem s_raise {c : Nm} (hx : X.hx = none) (hc : P.exn c = true) : (evS P X (.raise c) ρ h).W D = D.xc c [] ρ h := by rw [evS, if_pos ⟨hx, hc⟩]; rfl
theorem s_ite {c : E} {a b : List S} : (evS P X (.ite c a b) ρ h).W D = (evE P X c ρ h).W (fun u h => ∃ k, u = .bl k ∧ (k = true → (evSs P X a ρ h).W D) ∧ (k = false → (evSs P X b ρ h).W D)) (fun c fs h => D.xc c fs ρ h) := by
  rw [evS, S_go]
  congr 1
  funext u h
  cases u with
  | bl b =>
    cases b with
    | true => exact propext ⟨fun q => ⟨true, rfl, fun _ => q, fun z => nomatch z⟩, fun ⟨b, e, q, _⟩ => by cases e; exact q rfl⟩
    | false => exact propext ⟨fun q => ⟨false, rfl, (fun z => nomatch z), fun _ => q⟩, fun ⟨b, e, _, q⟩ => by cases e; exact q rfl⟩
  | _ => exact propext ⟨fun q => q.elim, fun ⟨b, e, _⟩ => nomatch e⟩
theorem s_for {t : Tg} {k : ItK} {its : List E} {b : List S} (hx : X.hx = none) : (evS P X (.for_ t k its b) ρ h).W D = (evEs P X its ρ h).W (fun us h => ∃ p, itsU k us h = some p ∧ (forL (fun x ρ h => match bindT t x ρ with
      | some ρ' => evSs P X b ρ' h
      | none => .bad) p.2 p.1 ρ h).W D) (fun c fs h => D.xc c fs ρ h) := by
  rw [evS, if_pos hx, S_go, W_bind]
  simp only [W_opt]
  all_goals rfl
theorem e_comp0 {C : Nm → List U → AH → Rs U} {el : E} {t : Tg} {k : ItK} {its : List E} : (evE P ⟨C, none⟩ (.comp el t k its []) ρ h).W Q Z = (evEs P ⟨C, none⟩ its ρ h).W (fun us h => ∃ p, itsU k us h = some p ∧ (compL (fun x h => match bindT t x ρ with
      | some ρ' => (evE P ⟨C, none⟩ el ρ' h).bind fun y h => .ok (some y) h
      | none => .bad) p.2 h.length p.1 [] (h ++ [.lst []])).W Q Z) Z := e_comp rfl
theorem e_compIf0 {C : Nm → List U → AH → Rs U} {el c : E} {t : Tg} {k : ItK} {its : List E} : (evE P ⟨C, none⟩ (.comp el t k its [c]) ρ h).W Q Z = (evEs P ⟨C, none⟩ its ρ h).W (fun us h => ∃ p, itsU k us h = some p ∧ (compL (fun x h => match bindT t x ρ with
      | some ρ' => (evE P ⟨C, none⟩ c ρ' h).bind fun u h => match u with
          | .bl true => (evE P ⟨C, none⟩ el ρ' h).bind fun y h => .ok (some y) h
          | .bl false => .ok none h
          | _ => .bad
      | none => .bad) p.2 h.length p.1 [] (h ++ [.lst []])).W Q Z) Z := e_compIf rfl
theorem s_for0 {C : Nm → List U → AH → Rs U} {t : Tg} {k : ItK} {its : List E} {b : List S} : (evS P ⟨C, none⟩ (.for_ t k its b) ρ h).W D = (evEs P ⟨C, none⟩ its ρ h).W (fun us h => ∃ p, itsU k us h = some p ∧ (forL (fun x ρ h => match bindT t x ρ with
      | some ρ' => evSs P ⟨C, none⟩ b ρ' h
      | none => .bad) p.2 p.1 ρ h).W D) (fun c fs h => D.xc c fs ρ h) := s_for rfl
theorem s_try {b : List S} {c : Nm} {i : Option Nat} {s : List S} (hx : X.hx = none) (hc : P.exn c = true) (w : (evSs P X b ρ h).W { D with xc := fun k fs ρ' h' => P.exn k = true ∧ (P.sub k c = true → (evSs P { X with hx := some (k, fs) } s (clr i ρ') h').W { nx := fun ρ h => D.nx (clr i ρ) h, rt := D.rt, xc := fun _ _ _ _ => False, bk := fun ρ h => D.bk (clr i ρ) h, ct := fun ρ h => D.ct (clr i ρ) h }) ∧ (P.sub k c = false → D.xc k fs ρ' h') }) :
    (evS P X (.try_ b c i s) ρ h).W D := by
  rw [evS, if_pos ⟨hx, hc⟩]
  cases e : evSs P X b ρ h with
  | xc k fs ρ' h' =>
    rw [e] at w
    obtain ⟨w1, w2, w3⟩ := w
    simp only
    rw [if_pos w1]
    cases e2 : P.sub k c with
    | true =>
      rw [if_pos rfl]
      have q := w2 e2
      cases e3 : evSs P { X with hx := some (k, fs) } s (clr i ρ') h' with
      | nx ρ2 h2 => rw [e3] at q; exact q
      | bk ρ2 h2 => rw [e3] at q; exact q
      | ct ρ2 h2 => rw [e3] at q; exact q
      | rt u h2 => rw [e3] at q; exact q
      | xc k2 fs2 ρ2 h2 => rw [e3] at q; exact q.elim
      | bad => rw [e3] at q; exact q
    | false =>
      rw [if_neg Bool.false_ne_true]
      exact w3 e2
  | nx ρ2 h2 => rw [e] at w; exact w
  | bk ρ2 h2 => rw [e] at w; exact w
  | ct ρ2 h2 => rw [e] at w; exact w
  | rt u h2 => rw [e] at w; exact w
  | bad => rw [e] at w; exact w
end
end Pl

namespace Pl
open PySem
/-! ### operations by their values -/
section
variable {h : AH} {Q : U → AH → Prop} {Z : XW} {i j : Int} {a b : Nat} {xs ys : List U} {u v : U}
theorem b_add : (binop .add (.int i) (.int j) h).W Q Z = Q (.int (i + j)) h := rfl
theorem b_sub : (binop .sub (.int i) (.int j) h).W Q Z = Q (.int (i - j)) h := rfl
theorem b_mul : (binop .mul (.int i) (.int j) h).W Q Z = (((-(2 ^ 64) < i ∧ i < 2 ^ 64) ∨ (-(2 ^ 64) < j ∧ j < 2 ^ 64)) ∧ Q (.int (i * j)) h) := W_ifb
theorem b_div : (binop .div (.int i) (.int j) h).W Q Z = ((0 < j ∧ j.natAbs.log2 < big) ∧ Q (.int (i / j)) h) := W_ifb
theorem b_mod : (binop .mod (.int i) (.int j) h).W Q Z = (0 < j ∧ Q (.int (i % j)) h) := W_ifb
theorem b_pow : (binop .pow (.int i) (.int j) h).W Q Z = ((0 ≤ j ∧ j ≤ 1000000 ∧ i.natAbs < 2 ^ 64) ∧ Q (.int (i ^ j.toNat)) h) := W_ifb
theorem b_cat (ha : getL h a = some xs) (hb : getL h b = some ys) (hz : xs.length + ys.length ≤ sln) (q : Q (.ref h.length) (h ++ [.lst (xs ++ ys)])) : (binop .add (.ref a) (.ref b) h).W Q Z := by
  simp only [binop, ha, hb]
  rw [if_pos hz]
  exact q
theorem sub_tup : subop (.tup xs) (.int i) h = L2.atI xs i := rfl
theorem sub_ref : subop (.ref a) (.int i) h = (getL h a).bind fun xs => L2.atI xs i := by
  show (match getL h a with
    | some xs => L2.atI xs i
    | none => none) = _
  cases getL h a <;> rfl
theorem at_0 {x : U} : L2.atI (x :: xs) 0 = some x := by
  unfold L2.atI L2.ixN
  simp
theorem at_1 {x y : U} : L2.atI (x :: y :: xs) 1 = some y := by
  unfold L2.atI L2.ixN
  have : (1 : Int) < ((x :: y :: xs).length : Nat) := by simp only [List.length_cons]; omega
  simp only [this]
  rfl
theorem at_2 {x y z : U} : L2.atI (x :: y :: z :: xs) 2 = some z := by
  unfold L2.atI L2.ixN
  have : (2 : Int) < ((x :: y :: z :: xs).length : Nat) := by simp only [List.length_cons]; omega
  simp only [this]
  rfl
theorem at_nat {n : Nat} : L2.atI xs (n : Int) = xs[n]? := by
  unfold L2.atI L2.ixN
  rw [if_pos (Int.natCast_nonneg n)]
  by_cases z : n < xs.length
  · rw [if_pos (by omega)]; rfl
  · rw [if_neg (by omega), List.getElem?_eq_none (by omega)]; rfl
theorem at_int (h0 : 0 ≤ i) : L2.atI xs i = xs[i.toNat]? := by
  have := at_nat (xs := xs) (n := i.toNat)
  rw [Int.toNat_of_nonneg h0] at this
  exact this
theorem ix_nat {m n : Nat} (hn : n < m) : L2.ixN m (n : Int) = some n := by
  unfold L2.ixN
  rw [if_pos (Int.natCast_nonneg n), if_pos (by omega)]
  rfl
theorem ix_lt {m : Nat} (h0 : 0 ≤ i) (h1 : i < m) : L2.ixN m i = some i.toNat := by
  unfold L2.ixN
  rw [if_pos h0, if_pos h1]
theorem ix_1_0 : L2.ixN (0 + 1) 0 = some 0 := rfl
theorem ix_2_0 : L2.ixN (0 + 1 + 1) 0 = some 0 := rfl
theorem ix_2_1 : L2.ixN (0 + 1 + 1) 1 = some 1 := rfl
theorem ix_3_0 : L2.ixN (0 + 1 + 1 + 1) 0 = some 0 := rfl
theorem ix_3_1 : L2.ixN (0 + 1 + 1 + 1) 1 = some 1 := rfl
theorem ix_3_2 : L2.ixN (0 + 1 + 1 + 1) 2 = some 2 := rfl
theorem ix_4_0 : L2.ixN (0 + 1 + 1 + 1 + 1) 0 = some 0 := rfl
theorem ix_4_1 : L2.ixN (0 + 1 + 1 + 1 + 1) 1 = some 1 := rfl
theorem ix_4_2 : L2.ixN (0 + 1 + 1 + 1 + 1) 2 = some 2 := rfl
theorem ix_4_3 : L2.ixN (0 + 1 + 1 + 1 + 1) 3 = some 3 := rfl
theorem ix_5_0 : L2.ixN (0 + 1 + 1 + 1 + 1 + 1) 0 = some 0 := rfl
theorem ix_5_1 : L2.ixN (0 + 1 + 1 + 1 + 1 + 1) 1 = some 1 := rfl
theorem ix_5_2 : L2.ixN (0 + 1 + 1 + 1 + 1 + 1) 2 = some 2 := rfl
theorem ix_5_3 : L2.ixN (0 + 1 + 1 + 1 + 1 + 1) 3 = some 3 := rfl
theorem ix_5_4 : L2.ixN (0 + 1 + 1 + 1 + 1 + 1) 4 = some 4 := rfl
theorem ix_6_0 : L2.ixN (0 + 1 + 1 + 1 + 1 + 1 + 1) 0 = some 0 := rfl
theorem ix_6_1 : L2.ixN (0 + 1 + 1 + 1 + 1 + 1 + 1) 1 = some 1 := rfl
theorem ix_6_2 : L2.ixN (0 + 1 + 1 + 1 + 1 + 1 + 1) 2 = some 2 := rfl
theorem ix_6_3 : L2.ixN (0 + 1 + 1 + 1 + 1 + 1 + 1) 3 = some 3 := rfl
theorem ix_6_4 : L2.ixN (0 + 1 + 1 + 1 + 1 + 1 + 1) 4 = some 4 := rfl
theorem ix_6_5 : L2.ixN (0 + 1 + 1 + 1 + 1 + 1 + 1) 5 = some 5 := rfl
theorem i_len_ref (ha : getL h a = some xs) : (biop .len [.ref a] h).W Q Z = Q (.int xs.length) h := by
  simp only [biop, seqU, ha, W_ok]
theorem i_len_tup : (biop .len [.tup xs] h).W Q Z = Q (.int xs.length) h := rfl
theorem i_max : (biop .max [.int i, .int j] h).W Q Z = Q (.int (if j > i then j else i)) h := rfl
theorem i_min : (biop .min [.int i, .int j] h).W Q Z = Q (.int (if j < i then j else i)) h := rfl
theorem i_abs : (biop .abs [.int i] h).W Q Z = Q (.int (if i < 0 then -i else i)) h := rfl
theorem i_int : (biop .int [.int i] h).W Q Z = Q (.int i) h := rfl
theorem i_intb {k : Bool} : (biop .int [.bl k] h).W Q Z = Q (.int (if k then 1 else 0)) h := rfl
theorem i_list (ha : seqU h u = some xs) : (biop .list [u] h).W Q Z = Q (.ref h.length) (h ++ [.lst xs]) := by
  cases u <;> simp only [biop, ha] <;> rfl
theorem i_tuple (ha : seqU h u = some xs) : (biop .tuple [u] h).W Q Z = Q (.tup xs) h := by
  cases u <;> simp only [biop, ha] <;> rfl
/-! ### the heap -/
theorem getM_L (e : getM h a = some xs) : getL h a = some xs := by
  unfold getM at e
  unfold getL
  split at e
  · rename_i ys q
    rw [q]
    exact e
  · cases e
theorem getM_o (e : getM h a = some xs) : h[a]? = some (.lst xs) := by
  unfold getM at e
  split at e
  · rename_i ys q
    cases e
    exact q
  · cases e
theorem getM_of (e : h[a]? = some (.lst xs)) : getM h a = some xs := by
  unfold getM
  rw [e]
theorem getL_of (e : h[a]? = some (.lst xs)) : getL h a = some xs := by
  unfold getL
  rw [e]
theorem getI_of {c : Nm} {fs : List (Nm × U)} (e : h[a]? = some (.ins c fs)) : getI h a = some (c, fs) := by
  unfold getI
  rw [e]
theorem lt_of_at {o : Ob} (e : h[a]? = some o) : a < h.length := (List.getElem?_eq_some_iff.mp e).1
theorem at_set {o o' : Ob} (e : h[a]? = some o) : (h.set a o')[a]? = some o' := List.getElem?_set_self (lt_of_at e)
theorem at_set_ne {o o' : Ob} (e : h[b]? = some o) (n : a ≠ b) : (h.set a o')[b]? = some o := by rw [List.getElem?_set_ne n]; exact e
theorem at_app {o : Ob} {l : AH} (e : h[a]? = some o) : (h ++ l)[a]? = some o := by rw [List.getElem?_append_left (lt_of_at e)]; exact e
theorem at_new {o : Ob} : (h ++ [o])[h.length]? = some o := by rw [List.getElem?_append_right (Nat.le_refl _), Nat.sub_self]; rfl
theorem ne_new {o : Ob} (e : h[a]? = some o) : a ≠ h.length := Nat.ne_of_lt (lt_of_at e)
end
/-! ### a heap that keeps all but some -/
structure Fr (S : Nat → Prop) (h h' : AH) : Prop where
  len : h.length ≤ h'.length
  same : ∀ n o, ¬ S n → h[n]? = some o → h'[n]? = some o
section
variable {S T : Nat → Prop} {h h' h'' : AH} {a : Nat} {o : Ob}
theorem Fr.rfl' : Fr S h h := ⟨Nat.le_refl _, fun _ _ _ e => e⟩
theorem Fr.trans (f : Fr S h h') (g : Fr S h' h'') : Fr S h h'' := ⟨Nat.le_trans f.len g.len, fun n o hn e => g.same n o hn (f.same n o hn e)⟩
theorem Fr.sub (f : Fr S h h') (hs : ∀ n, n < h.length → S n → T n) : Fr T h h' := ⟨f.len, fun n o hn e => f.same n o (fun z => hn (hs n (lt_of_at e) z)) e⟩
theorem Fr.set (hS : S a) : Fr S h (h.set a o) := ⟨by rw [List.length_set]; exact Nat.le_refl _, fun n o' hn e => at_set_ne e fun z => hn (z ▸ hS)⟩
theorem Fr.app {l : AH} : Fr S h (h ++ l) := ⟨by rw [List.length_append]; exact Nat.le_add_right _ _, fun n o' _ e => at_app e⟩
/-- with what is new -/
theorem Fr.then (f : Fr S h h') (g : Fr T h' h'') (hT : ∀ n, n < h.length → T n → S n) : Fr S h h'' := ⟨Nat.le_trans f.len g.len, fun n o hn e => g.same n o (fun z => hn (hT n (lt_of_at e) z)) (f.same n o hn e)⟩
end
end Pl

namespace Pl
open PySem PySem.W PyProof.Rows
/-! ### order and equality of small data -/
theorem lexAll_cons {x y : PyData} {xs ys : List PyData} (h : alike x y = true) : PyProof.Rows.lexLt itemOrd (keyToksAll (x :: xs)) (keyToksAll (y :: ys)) = if PyData.eqv x y = true then PyProof.Rows.lexLt itemOrd (keyToksAll xs) (keyToksAll ys) else dataLt x y := by
  cases e : PyData.eqv x y with
  | true => rw [if_pos rfl]; exact dataLt_all_yes h e
  | false => rw [if_neg Bool.false_ne_true]; exact dataLt_all_no h e
theorem lexAll_nil : PyProof.Rows.lexLt itemOrd (keyToksAll []) (keyToksAll []) = false := lex_irrefl (O := itemOrd) _
theorem eqv_int {i j : Int} : PyData.eqv (.int i) (.int j) = decide (i = j) := by
  rw [PyData.eqv]
  rfl
theorem eqv_tup {xs ys : List PyData} : PyData.eqv (.tuple xs) (.tuple ys) = PyData.eqvAll xs ys := by rw [PyData.eqv]
theorem eqv_nil : PyData.eqvAll [] [] = true := by rw [PyData.eqvAll]
theorem eqv_cons {x y : PyData} {xs ys : List PyData} : PyData.eqvAll (x :: xs) (y :: ys) = (PyData.eqv x y && PyData.eqvAll xs ys) := eqv_all_cons x y xs ys
/-- a pair (number, number); a pair (number, (number, number)) -/
abbrev En := Int × Int × Int
def ent (k : Bool) (e : En) : U := if k = true then .tup [.int e.1, .tup [.int e.2.1, .int e.2.2]] else .tup [.int e.1, .int e.2.1]
def entD (k : Bool) (e : En) : PyData := if k = true then .tuple [.int e.1, .tuple [.int e.2.1, .int e.2.2]] else .tuple [.int e.1, .int e.2.1]
def GoodE (k : Bool) (e : En) : Prop := k = false → e.2.2 = 0
def ltE (e f : En) : Prop := e.1 < f.1 ∨ e.1 = f.1 ∧ (e.2.1 < f.2.1 ∨ e.2.1 = f.2.1 ∧ e.2.2 < f.2.2)
instance (e f : En) : Decidable (ltE e f) := by unfold ltE; infer_instance
theorem ent_dat {k : Bool} {e : En} {h : AH} : (ent k e).dat h DD = some (entD k e) := by
  cases k <;> rfl
theorem ent_dats {k : Bool} {h : AH} : ∀ L : List En, mapO (U.dat h DD) (L.map (ent k)) = some (L.map (entD k))
  | [] => rfl
  | e :: L => by
    show mapO (U.dat h DD) (ent k e :: L.map (ent k)) = _
    rw [mapO, ent_dat]
    simp only
    rw [ent_dats L]
    rfl
theorem entD_alike {k : Bool} {e f : En} : alike (entD k e) (entD k f) = true := by
  cases k <;> rfl
theorem entD_eqv {k : Bool} {e f : En} (he : GoodE k e) (hf : GoodE k f) : PyData.eqv (entD k e) (entD k f) = decide (e = f) := by
  obtain ⟨a, b, c⟩ := e
  obtain ⟨a', b', c'⟩ := f
  cases k with
  | true =>
    show PyData.eqv (.tuple [.int a, .tuple [.int b, .int c]]) (.tuple [.int a', .tuple [.int b', .int c']]) = _
    simp only [eqv_tup, eqv_cons, eqv_nil, eqv_int, Bool.and_true, Prod.mk.injEq, Bool.decide_and]
  | false =>
    have e1 : c = 0 := he rfl
    have e2 : c' = 0 := hf rfl
    subst e1 e2
    show PyData.eqv (.tuple [.int a, .int b]) (.tuple [.int a', .int b']) = _
    simp only [eqv_tup, eqv_cons, eqv_nil, eqv_int, Bool.and_true, Prod.mk.injEq, Bool.decide_and, decide_true]
theorem entD_lt {k : Bool} {e f : En} (he : GoodE k e) (hf : GoodE k f) : dataLt (entD k e) (entD k f) = decide (ltE e f) := by
  obtain ⟨a, b, c⟩ := e
  obtain ⟨a', b', c'⟩ := f
  have two : ∀ x y x' y' : Int, PyProof.Rows.lexLt itemOrd (keyToksAll [.int x, .int y]) (keyToksAll [.int x', .int y']) = decide (x < x' ∨ x = x' ∧ y < y') := fun x y x' y' => by
    rw [lexAll_cons rfl, lexAll_cons rfl, lexAll_nil, eqv_int, eqv_int, dataLt_int, dataLt_int]
    by_cases h1 : x = x'
    · by_cases h2 : y = y'
      · simp [h1, h2]
      · simp [h1, h2]
    · simp [h1]
  cases k with
  | true =>
    show dataLt (.tuple [.int a, .tuple [.int b, .int c]]) (.tuple [.int a', .tuple [.int b', .int c']]) = _
    rw [dataLt_tuple, lexAll_cons rfl, lexAll_cons rfl, lexAll_nil, eqv_int, dataLt_int, dataLt_tuple, two, eqv_tup, eqv_cons, eqv_cons, eqv_nil, eqv_int, eqv_int]
    unfold ltE
    by_cases h1 : a = a'
    · by_cases h2 : b = b'
      · by_cases h3 : c = c' <;> simp [h1, h2, h3]
      · simp [h1, h2]
    · simp [h1]
  | false =>
    have e1 : c = 0 := he rfl
    have e2 : c' = 0 := hf rfl
    subst e1 e2
    show dataLt (.tuple [.int a, .int b]) (.tuple [.int a', .int b']) = _
    rw [dataLt_tuple, two]
    unfold ltE
    simp
theorem ltE_irrefl (e : En) : ¬ ltE e e := by unfold ltE; omega
theorem ltE_trans {e f g : En} (h1 : ltE e f) (h2 : ltE f g) : ltE e g := by unfold ltE at *; omega
theorem ltE_total {e f : En} (h1 : ¬ ltE e f) (h2 : ¬ ltE f e) : e = f := by
  unfold ltE at *
  obtain ⟨a, b, c⟩ := e
  obtain ⟨a', b', c'⟩ := f
  simp only [Prod.mk.injEq] at *
  omega
section
variable {k : Bool} {e f : En} {h : AH} (he : GoodE k e) (hf : GoodE k f)
include he hf
theorem ent_eq : eqU h (ent k e) (ent k f) = some (decide (e = f)) := by
  unfold eqU
  rw [ent_dat, ent_dat]
  simp only
  rw [entD_eqv he hf]
theorem ent_cmp_eq : cmpop .eq (ent k e) (ent k f) h = some (decide (e = f)) := ent_eq he hf
theorem ent_cmp_lt : cmpop .lt (ent k e) (ent k f) h = some (decide (ltE e f)) := by
  show ordU W.dataLt h _ _ = _
  unfold ordU
  rw [ent_dat, ent_dat]
  simp only
  have hn : notN (entD k e) = true := by cases k <;> rfl
  rw [if_pos ⟨entD_alike, hn⟩, entD_lt he hf]
end
theorem ent_in {k : Bool} {e : En} {h : AH} {L : List En} (he : GoodE k e) (hL : ∀ f ∈ L, GoodE k f) : inU h (ent k e) (L.map (ent k)) = some (decide (e ∈ L)) := by
  unfold inU
  rw [ent_dat, ent_dats]
  simp only
  congr 1
  induction L with
  | nil => rfl
  | cons f L ih =>
    rw [List.map_cons, List.any_cons, ih fun g hg => hL g (List.mem_cons_of_mem _ hg), entD_eqv (hL f List.mem_cons_self) he]
    by_cases z : f = e
    · subst z; simp
    · have z2 : e ≠ f := fun q => z q.symm
      simp [z, z2]
theorem ent_inj {k : Bool} {e f : En} (he : GoodE k e) (hf : GoodE k f) (h : ent k e = ent k f) : e = f := by
  obtain ⟨a, b, c⟩ := e
  obtain ⟨a', b', c'⟩ := f
  cases k with
  | true =>
    unfold ent at h
    simp only [if_true, U.tup.injEq, List.cons.injEq, U.int.injEq, and_true] at h
    simp only [Prod.mk.injEq]
    exact ⟨h.1, h.2.1, h.2.2⟩
  | false =>
    unfold ent at h
    simp only [Bool.false_eq_true, if_false, U.tup.injEq, List.cons.injEq, U.int.injEq, and_true] at h
    have e1 : c = 0 := he rfl
    have e2 : c' = 0 := hf rfl
    simp only [Prod.mk.injEq]
    exact ⟨h.1, h.2, e1.trans e2.symm⟩
/-- sorted data -/
theorem dataLe_eq {β : Type} {k : β → PyData} {a b : β} : dataLe false k a b = !dataLt (k b) (k a) := rfl
theorem ent_sortOk {k : Bool} (L : List En) : srtOk (L.map (entD k)) = true := by
  unfold srtOk
  have h1 : ((L.map (entD k)).all fun d => (L.map (entD k)).all fun e => W.alike d e) = true := by
    rw [List.all_eq_true]
    intro d hd
    rw [List.all_eq_true]
    intro e he
    obtain ⟨x, _, rfl⟩ := List.mem_map.mp hd
    obtain ⟨y, _, rfl⟩ := List.mem_map.mp he
    exact entD_alike
  rw [h1]
  rw [Bool.true_and]
  refine Bool.or_eq_true_iff.mpr (.inl ?_)
  rw [List.all_eq_true]
  intro d hd
  obtain ⟨x, _, rfl⟩ := List.mem_map.mp hd
  cases k <;> rfl
/-- sorted, as pairs -/
def sortE (L : List En) : List En := L.mergeSort fun e f => !decide (ltE f e)
theorem ent_sort {k : Bool} {h : AH} {L : List En} (hL : ∀ f ∈ L, GoodE k f) : sortU h (L.map (ent k)) = (sortE L).map (ent k) := by
  unfold sortU sortE
  symm
  apply List.map_mergeSort
  intro e he f hf
  rw [dataLe_eq]
  unfold keyD
  rw [ent_dat, ent_dat]
  simp only [Option.getD_some]
  rw [entD_lt (hL f hf) (hL e he)]
theorem sortE_perm (L : List En) : (sortE L).Perm L := List.mergeSort_perm _ _
theorem sortE_sorted (L : List En) : (sortE L).Pairwise fun e f => ¬ ltE f e := by
  have := List.pairwise_mergeSort (le := fun e f : En => !decide (ltE f e)) (fun a b c h1 h2 => by
    simp only [Bool.not_eq_true', decide_eq_false_iff_not] at *
    intro z
    unfold ltE at *
    omega) (fun a b => by
    simp only [Bool.or_eq_true, Bool.not_eq_true', decide_eq_false_iff_not]
    by_cases z : ltE b a
    · exact .inr fun q => ltE_irrefl _ (ltE_trans z q)
    · exact .inl z) L
  exact this.imp fun h => by simpa using h
/-- strictly in order: one way only -/
theorem sorted_uniq : ∀ {L M : List En}, L.Pairwise ltE → M.Pairwise (fun e f => ¬ ltE f e) → M.Perm L → M = L
  | [], M, _, _, p => List.Perm.eq_nil p
  | e :: L, [], _, _, p => absurd p.symm (by intro z; have := z.length_eq; simp at this)
  | e :: L, f :: M, h1, h2, p => by
    have hf : f ∈ e :: L := p.subset List.mem_cons_self
    have he : e ∈ f :: M := p.symm.subset List.mem_cons_self
    have ef : e = f := by
      rcases List.mem_cons.mp hf with z | z
      · exact z.symm
      · rcases List.mem_cons.mp he with z2 | z2
        · exact z2
        · exact absurd (List.rel_of_pairwise_cons h1 z) (List.rel_of_pairwise_cons h2 z2)
    subst ef
    rw [sorted_uniq (List.Pairwise.of_cons h1) (List.Pairwise.of_cons h2) ((List.perm_cons e).mp p)]
end Pl

namespace Pl
open PySem
/-! ### comprehensions that leave the heap; more -/
theorem set_last {h : AH} {o o' : Ob} : (h ++ [o]).set h.length o' = h ++ [o'] := by
  rw [List.set_append_right _ _ (Nat.le_refl _), Nat.sub_self]
  rfl
theorem getL_app {h l : AH} {a : Nat} {xs : List U} (e : getL h a = some xs) : getL (h ++ l) a = some xs := by
  unfold getL at *
  cases q : h[a]? with
  | none => rw [q] at e; cases e
  | some o => rw [at_app q]; rw [q] at e; exact e
theorem stands_one {a : Nat} {xs : List U} {h : AH} (e : getL h a = some xs) : stands [(a, xs)] h = true := by
  unfold stands
  simp only [List.all_cons, List.all_nil, Bool.and_true, decide_eq_true_eq]
  exact e
theorem comp_map {f : U → AH → Rs (Option U)} {g : List (Nat × List U)} {Q : U → AH → Prop} {Z : XW} {h0 : AH} {xs : List U} (R : U → Option U) (hlen : xs.length ≤ sln) (hst : ∀ acc, stands g (h0 ++ [.lst acc]) = true)
    (step : ∀ x ∈ xs, ∀ acc, (f x (h0 ++ [.lst acc])).W (fun z h => z = R x ∧ h = h0 ++ [.lst acc]) noX) (q : Q (.ref h0.length) (h0 ++ [.lst (xs.filterMap R)])) : (compL f g h0.length xs [] (h0 ++ [.lst []])).W Q Z := by
  refine comp_W (fun ys acc h => (∃ zs, zs ++ ys = xs ∧ acc = zs.filterMap R) ∧ h = h0 ++ [.lst acc]) ?_ ?_ ?_ xs [] _ ⟨⟨[], rfl, rfl⟩, rfl⟩
  · rintro ys acc h ⟨_, rfl⟩
    exact hst acc
  · rintro acc h ⟨⟨zs, e, rfl⟩, rfl⟩
    rw [List.append_nil] at e
    subst e
    exact q
  · rintro x ys acc h ⟨⟨zs, e, rfl⟩, rfl⟩
    have hx : x ∈ xs := by rw [← e]; simp
    refine W_no (step x hx _) ?_
    rintro z h ⟨rfl, rfl⟩
    refine ⟨getM_of at_new, ?_⟩
    cases hR : R x with
    | none => exact ⟨⟨zs ++ [x], by rw [← e]; simp, by rw [List.filterMap_append]; simp [hR]⟩, rfl⟩
    | some y =>
      refine ⟨?_, ⟨zs ++ [x], by rw [← e]; simp, by rw [List.filterMap_append]; simp [hR]⟩, by rw [set_last]⟩
      have h1 := List.length_filterMap_le R zs
      have h2 : zs.length + (ys.length + 1) = xs.length := by rw [← e]; simp
      omega
theorem filterMap_ent {k : Bool} {p : En → Bool} {R : U → Option U} (hR : ∀ f, R (ent k f) = if p f = true then some (ent k f) else none) : ∀ L : List En, (L.map (ent k)).filterMap R = (L.filter p).map (ent k)
  | [] => rfl
  | f :: L => by
    rw [List.map_cons, List.filterMap_cons, hR f, filterMap_ent hR L]
    by_cases z : p f = true
    · rw [if_pos z, List.filter_cons_of_pos z]; rfl
    · rw [if_neg z, List.filter_cons_of_neg z]
theorem filterMap_all {k : Bool} {v : En → U} {R : U → Option U} (hR : ∀ f, R (ent k f) = some (v f)) : ∀ L : List En, (L.map (ent k)).filterMap R = L.map v
  | [] => rfl
  | f :: L => by
    rw [List.map_cons, List.filterMap_cons, hR f, filterMap_all hR L]
    rfl
theorem i_sorted {k : Bool} {h : AH} {a : Nat} {M : List En} {Q : U → AH → Prop} {Z : XW} (ha : getL h a = some (M.map (ent k))) (hM : ∀ f ∈ M, GoodE k f) : (biop .sorted [.ref a] h).W Q Z = Q (.ref h.length) (h ++ [.lst ((sortE M).map (ent k))]) := by
  unfold biop
  simp only [ha, ent_dats]
  rw [if_pos (ent_sortOk M), ent_sort hM]
  rfl
/-- two lists of such pairs -/
theorem ent_datn {k : Bool} {e : En} {h : AH} {n : Nat} : (ent k e).dat h (n + 3) = some (entD k e) := by
  cases k <;> rfl
theorem ent_datsn {k : Bool} {h : AH} {n : Nat} : ∀ L : List En, mapO (U.dat h (n + 3)) (L.map (ent k)) = some (L.map (entD k))
  | [] => rfl
  | e :: L => by
    show mapO (U.dat h (n + 3)) (ent k e :: L.map (ent k)) = _
    rw [mapO, ent_datn]
    simp only
    rw [ent_datsn L]
    rfl
theorem dat_list {k : Bool} {h : AH} {a : Nat} {L : List En} (e : getL h a = some (L.map (ent k))) : U.dat h DD (.ref a) = some (.list (L.map (entD k))) := by
  show U.dat h (99 + 1) (.ref a) = _
  rw [U.dat]
  simp only [e]
  rw [show (99 : Nat) = 96 + 3 from rfl, ent_datsn]
  rfl
theorem eqvAll_same {k : Bool} : ∀ {L M : List En}, (∀ f ∈ L, GoodE k f) → (∀ f ∈ M, GoodE k f) → PyData.eqvAll (L.map (entD k)) (M.map (entD k)) = decide (L = M)
  | [], [], _, _ => by rw [List.map_nil, eqv_nil]; rfl
  | [], _ :: _, _, _ => by rw [List.map_nil, List.map_cons, PyData.eqvAll]; rfl
  | _ :: _, [], _, _ => by rw [List.map_nil, List.map_cons, PyData.eqvAll]; rfl
  | f :: L, g :: M, h1, h2 => by
    rw [List.map_cons, List.map_cons, eqv_cons, entD_eqv (h1 f List.mem_cons_self) (h2 g List.mem_cons_self), eqvAll_same (fun x hx => h1 x (List.mem_cons_of_mem _ hx)) fun x hx => h2 x (List.mem_cons_of_mem _ hx)]
    simp only [List.cons.injEq, Bool.decide_and]
theorem eq_lists {k : Bool} {h : AH} {a b : Nat} {L M : List En} (ea : getL h a = some (L.map (ent k))) (eb : getL h b = some (M.map (ent k))) (h1 : ∀ f ∈ L, GoodE k f) (h2 : ∀ f ∈ M, GoodE k f) : eqU h (.ref a) (.ref b) = some (decide (L = M)) := by
  unfold eqU
  rw [dat_list ea, dat_list eb]
  simp only
  rw [PyData.eqv, eqvAll_same h1 h2]
theorem isi_list {P : Prog} {h : AH} {a : Nat} {xs : List U} (e : h[a]? = some (.lst xs)) : isiA P h (.ref a) [.list] = some true := by
  have e1 : kindU h (.ref a) = some (.inl .lst) := by
    show (match h[a]? with
      | some (.lst _) => some (Sum.inl BK.lst)
      | some (.ins c _) => some (Sum.inr c)
      | _ => none) = _
    rw [e]
  show isiTs P h (.ref a) [.list] = _
  unfold isiTs isiT
  rw [e1]
  rfl
theorem isi_ent {P : Prog} {h : AH} {k : Bool} {f : En} : isiA P h (ent k f) [.tuple] = some true := by cases k <;> rfl
theorem i_all {h : AH} {a : Nat} {bs : List Bool} {Q : U → AH → Prop} {Z : XW} (e : getL h a = some (bs.map U.bl)) : (biop .all [.ref a] h).W Q Z = Q (.bl (bs.all id)) h := by
  have : ∀ bs : List Bool, blsU (bs.map U.bl) = some bs := by
    intro bs
    induction bs with
    | nil => rfl
    | cons b bs ih =>
      show mapO _ (U.bl b :: bs.map U.bl) = _
      rw [mapO]
      simp only
      unfold blsU at ih
      rw [ih]
  unfold biop
  simp only [e, this]
  rfl
theorem bool_val {b : Bool} : U.bl b = U.bl b := rfl
/-- where the first such pair stands -/
theorem find_ent {k : Bool} {x : En} (hx : GoodE k x) : ∀ {M : List En}, (∀ f ∈ M, GoodE k f) → x ∈ M → ∃ j, (M.map (entD k)).findIdx? (fun z => PyData.eqv z (entD k x)) = some j ∧ M[j]? = some x
  | [], _, h => by cases h
  | f :: M, hM, h => by
    rw [List.map_cons, List.findIdx?_cons, entD_eqv (hM f List.mem_cons_self) hx]
    by_cases z : f = x
    · subst z
      exact ⟨0, by simp, rfl⟩
    · obtain ⟨j, h1, h2⟩ := find_ent hx (fun g hg => hM g (List.mem_cons_of_mem _ hg)) ((List.mem_cons.mp h).resolve_left fun q => z q.symm)
      refine ⟨j + 1, ?_, by simpa using h2⟩
      rw [h1]
      simp [z]
theorem erase_perm {M : List En} {j : Nat} {x : En} (e : M[j]? = some x) : M.Perm (x :: M.eraseIdx j) := by
  obtain ⟨hn, hne⟩ := List.getElem?_eq_some_iff.mp e
  have := (List.perm_middle (a := M[j]) (l₁ := M.take j) (l₂ := M.drop (j + 1)))
  rw [← List.drop_eq_getElem_cons hn, List.take_append_drop, ← List.eraseIdx_eq_take_drop_succ, hne] at this
  exact this
end Pl

namespace Pl
open PySem PySem.Spec PyProof.Rows L2
/-! ### the relation between the two heaps -/
/-- an abstract state's place in a true one: the addresses, how many, the abstract heap of the layer -/
structure Wd where
  μ : Nat → Addr
  N : Nat
  H : Hp
def KT (K : PySem.W.Frag) (a : Addr) (xs : List V) : Prop :=
  ∃ (o : Obj) (its : Array Value) (n : Nat), K.lookup a = some o ∧ o.cls = .type "tuple" ∧ o.data = .seq its n ∧ its.size ≤ sizeLine ∧ Vals xs its.toList
def TpA (K : PySem.W.Frag) (H : Hp) (a : Addr) (xs : List V) : Prop := H a = some (.tup xs) ∨ KT K a xs
theorem TpA.sq {K : PySem.W.Frag} {H : Hp} {a : Addr} {xs : List V} (h : TpA K H a xs) : SqT K H a xs := h.elim (fun h => .inl (.inl h)) .inr
mutual
def RelU (K : PySem.W.Frag) (w : Wd) : U → V → Prop
  | .non, v => v = .non
  | .bl b, v => v = .bl b
  | .int i, v => v = .int i
  | .str s, v => v = .str s
  | .ref n, v => n < w.N ∧ v = .ref (w.μ n)
  | .tup xs, v => ∃ a vs, v = .ref a ∧ TpA K w.H a vs ∧ RelUs K w xs vs
def RelUs (K : PySem.W.Frag) (w : Wd) : List U → List V → Prop
  | [], vs => vs = []
  | x :: xs, vs => ∃ v ws, vs = v :: ws ∧ RelU K w x v ∧ RelUs K w xs ws
end
structure Ext (w w' : Wd) : Prop where
  le : w.N ≤ w'.N
  mu : ∀ n, n < w.N → w'.μ n = w.μ n
  tup : ∀ a xs, w.H a = some (.tup xs) → w'.H a = some (.tup xs)
theorem Ext.rfl' {w : Wd} : Ext w w := ⟨Nat.le_refl _, fun _ _ => rfl, fun _ _ h => h⟩
theorem Ext.trans {a b c : Wd} (h : Ext a b) (g : Ext b c) : Ext a c :=
  ⟨Nat.le_trans h.le g.le, fun n hn => (g.mu n (Nat.lt_of_lt_of_le hn h.le)).trans (h.mu n hn), fun a xs q => g.tup a xs (h.tup a xs q)⟩
theorem TpA.mono {K : PySem.W.Frag} {w w' : Wd} {a : Addr} {xs : List V} (e : Ext w w') (h : TpA K w.H a xs) : TpA K w'.H a xs := h.imp (e.tup a xs) id
mutual
theorem RelU.mono {K : PySem.W.Frag} {w w' : Wd} (e : Ext w w') : ∀ {u : U} {v : V}, RelU K w u v → RelU K w' u v
  | .non, _, h => h
  | .bl _, _, h => h
  | .int _, _, h => h
  | .str _, _, h => h
  | .ref n, _, h => ⟨Nat.lt_of_lt_of_le h.1 e.le, h.2.trans (congrArg V.ref (e.mu n h.1).symm)⟩
  | .tup _, _, ⟨a, vs, h1, h2, h3⟩ => ⟨a, vs, h1, h2.mono e, RelUs.mono e h3⟩
theorem RelUs.mono {K : PySem.W.Frag} {w w' : Wd} (e : Ext w w') : ∀ {u : List U} {v : List V}, RelUs K w u v → RelUs K w' u v
  | [], _, h => h
  | _ :: _, _, ⟨v, ws, h1, h2, h3⟩ => ⟨v, ws, h1, h2.mono e, RelUs.mono e h3⟩
end
section
variable {K : PySem.W.Frag} {w w' : Wd}
theorem RelUs.length : ∀ {us : List U} {vs : List V}, RelUs K w us vs → us.length = vs.length
  | [], _, h => by cases h; rfl
  | _ :: _, _, ⟨_, _, h1, _, h3⟩ => by subst h1; simp [h3.length]
theorem RelUs.get : ∀ {us : List U} {vs : List V} {i : Nat} {u : U}, RelUs K w us vs → us[i]? = some u → ∃ v, vs[i]? = some v ∧ RelU K w u v
  | [], _, _, _, _, e => by simp at e
  | _ :: _, _, 0, _, ⟨v, _, h1, h2, _⟩, e => by subst h1; simp at e; subst e; exact ⟨v, rfl, h2⟩
  | _ :: _, _, i + 1, _, ⟨_, _, h1, _, h3⟩, e => by subst h1; simpa using h3.get (by simpa using e)
theorem RelUs.append : ∀ {us us' : List U} {vs vs' : List V}, RelUs K w us vs → RelUs K w us' vs' → RelUs K w (us ++ us') (vs ++ vs')
  | [], _, _, _, h, g => by cases h; exact g
  | _ :: _, _, _, _, ⟨v, ws, h1, h2, h3⟩, g => by subst h1; exact ⟨v, ws ++ _, rfl, h2, h3.append g⟩
theorem RelUs.take : ∀ {us : List U} {vs : List V} (n : Nat), RelUs K w us vs → RelUs K w (us.take n) (vs.take n)
  | _, _, 0, _ => by simp [RelUs]
  | [], _, _ + 1, h => by cases h; simp [RelUs]
  | _ :: _, _, n + 1, ⟨v, ws, h1, h2, h3⟩ => by subst h1; exact ⟨v, ws.take n, rfl, h2, h3.take n⟩
theorem RelUs.drop : ∀ {us : List U} {vs : List V} (n : Nat), RelUs K w us vs → RelUs K w (us.drop n) (vs.drop n)
  | _, _, 0, h => h
  | [], _, _ + 1, h => by cases h; simp [RelUs]
  | _ :: _, _, n + 1, ⟨_, _, h1, _, h3⟩ => by subst h1; exact h3.drop n
theorem RelUs.reverse : ∀ {us : List U} {vs : List V}, RelUs K w us vs → RelUs K w us.reverse vs.reverse
  | [], _, h => by cases h; simp [RelUs]
  | _ :: _, _, ⟨v, ws, h1, h2, h3⟩ => by
    subst h1
    rw [List.reverse_cons, List.reverse_cons]
    exact h3.reverse.append ⟨v, [], rfl, h2, rfl⟩
theorem RelUs.set : ∀ {us : List U} {vs : List V} {u : U} {v : V} (i : Nat), RelUs K w us vs → RelU K w u v → RelUs K w (us.set i u) (vs.set i v)
  | [], _, _, _, _, h, _ => by cases h; exact rfl
  | _ :: _, _, _, _, 0, ⟨_, _, h1, _, h3⟩, r => by subst h1; exact ⟨_, _, rfl, r, h3⟩
  | _ :: _, _, _, _, i + 1, ⟨_, _, h1, h2, h3⟩, r => by subst h1; exact ⟨_, _, rfl, h2, h3.set i r⟩
theorem RelUs.eraseIdx : ∀ {us : List U} {vs : List V} (i : Nat), RelUs K w us vs → RelUs K w (us.eraseIdx i) (vs.eraseIdx i)
  | [], _, _, h => by cases h; exact rfl
  | _ :: _, _, 0, ⟨_, _, h1, _, h3⟩ => by subst h1; exact h3
  | _ :: _, _, i + 1, ⟨_, _, h1, h2, h3⟩ => by subst h1; exact ⟨_, _, rfl, h2, h3.eraseIdx i⟩
theorem RelUs.cons {u : U} {v : V} {us : List U} {vs : List V} (h : RelU K w u v) (g : RelUs K w us vs) : RelUs K w (u :: us) (v :: vs) := ⟨v, vs, rfl, h, g⟩
theorem RelUs.nil : RelUs K w [] [] := rfl
theorem RelUs.one {u : U} {vs : List V} (h : RelUs K w [u] vs) : ∃ v, vs = [v] ∧ RelU K w u v := by
  obtain ⟨v, ws, rfl, h2, h3⟩ := h
  cases h3
  exact ⟨v, rfl, h2⟩
theorem RelUs.two {u u' : U} {vs : List V} (h : RelUs K w [u, u'] vs) : ∃ v v', vs = [v, v'] ∧ RelU K w u v ∧ RelU K w u' v' := by
  obtain ⟨v, ws, rfl, h2, h3⟩ := h
  obtain ⟨v', rfl, h4⟩ := h3.one
  exact ⟨v, v', rfl, h2, h4⟩
end
/-! ### objects -/
def RelF (K : PySem.W.Frag) (w : Wd) : List (Nm × U) → List (Str × V) → Prop
  | [], fs => fs = []
  | (f, u) :: r, fs => ∃ v gs, fs = (nstr f, v) :: gs ∧ RelU K w u v ∧ RelF K w r gs
def RelOb (K : PySem.W.Frag) (mg : Str → Option Value) (w : Wd) (a : Addr) : Ob → Prop
  | .lst xs => ∃ vs, w.H a = some (.lst vs) ∧ RelUs K w xs vs
  | .frz xs => ∃ vs, ((∃ o, w.H a = some (.frz o (.lst vs))) ∨
      ∃ (o : Obj) (its : Array Value) (n : Nat), K.lookup a = some o ∧ o.cls = .type "list" ∧ o.dict = none ∧ o.data = .seq its n ∧ its.size ≤ sizeLine ∧ Vals vs its.toList) ∧ RelUs K w xs vs
  | .ins c fs => ∃ C dx gs, w.H a = some (.ins C dx gs) ∧ mg (nstr c) = some (.ref C) ∧ RelF K w fs gs
def isFz : Ob → Bool
  | .frz _ => true
  | _ => false
structure Sim (K : PySem.W.Frag) (mg : Str → Option Value) (w : Wd) (h : AH) : Prop where
  len : h.length = w.N
  obj : ∀ n o, h[n]? = some o → RelOb K mg w (w.μ n) o
  inj : ∀ m n o u, h[m]? = some o → h[n]? = some u → isFz o = false → isFz u = false → w.μ m = w.μ n → m = n
theorem RelF.mono {K : PySem.W.Frag} {w w' : Wd} (e : Ext w w') : ∀ {fs : List (Nm × U)} {gs : List (Str × V)}, RelF K w fs gs → RelF K w' fs gs
  | [], _, h => h
  | (_, _) :: _, _, ⟨v, g, h1, h2, h3⟩ => ⟨v, g, h1, h2.mono e, h3.mono e⟩
section
variable {K : PySem.W.Frag} {mg : Str → Option Value} {w w' : Wd} {h : AH} {n : Nat} {o : Ob} {p : Addr}
theorem RelOb.there (r : RelOb K mg w p o) (hf : isFz o = false) : ∃ u, w.H p = some u ∧ (∀ xs, u ≠ .tup xs) ∧ ∀ ob v, u ≠ .frz ob v := by
  cases o with
  | lst xs => obtain ⟨vs, e, _⟩ := r; exact ⟨_, e, (fun _ z => nomatch z), (fun _ _ z => nomatch z)⟩
  | frz xs => cases hf
  | ins c fs => obtain ⟨C, dx, gs, e, _⟩ := r; exact ⟨_, e, (fun _ z => nomatch z), (fun _ _ z => nomatch z)⟩
/-- the heap changes at a place where this object does not stand -/
theorem RelOb.keep (e : Ext w w') (r : RelOb K mg w p o) (k : ∀ u, w.H p = some u → w'.H p = some u) : RelOb K mg w' p o := by
  cases o with
  | lst xs => obtain ⟨vs, e1, r1⟩ := r; exact ⟨vs, k _ e1, r1.mono e⟩
  | frz xs =>
    obtain ⟨vs, e1, r1⟩ := r
    refine ⟨vs, ?_, r1.mono e⟩
    rcases e1 with ⟨ob, e1⟩ | e1
    · exact .inl ⟨ob, k _ e1⟩
    · exact .inr e1
  | ins c fs => obtain ⟨C, dx, gs, e1, e2, r1⟩ := r; exact ⟨C, dx, gs, k _ e1, e2, r1.mono e⟩
/-- the layer's heap grows by what is not told here -/
theorem Sim.grow (S : Sim K mg w h) {a : Addr} {ho : HO} (hn : w.H a = none) : Sim K mg ⟨w.μ, w.N, upd w.H a ho⟩ h ∧ Ext w ⟨w.μ, w.N, upd w.H a ho⟩ := by
  have e : Ext w ⟨w.μ, w.N, upd w.H a ho⟩ := ⟨Nat.le_refl _, fun _ _ => rfl, fun b xs q => by
    show upd w.H a ho b = _
    rw [upd_ne (ne_of_none q hn)]; exact q⟩
  refine ⟨⟨S.len, fun n o q => (S.obj n o q).keep e fun u r => ?_, S.inj⟩, e⟩
  show upd w.H a ho (w.μ n) = _
  rw [upd_ne (ne_of_none r hn)]; exact r
/-- a new object -/
theorem Sim.new (S : Sim K mg w h) {a : Addr} {ho : HO} {o : Ob} (hn : w.H a = none) (hf : isFz o = false) (hho : ∀ w' : Wd, Ext w w' → w'.H a = some ho → RelOb K mg w' a o) :
    Sim K mg ⟨fun n => if n = w.N then a else w.μ n, w.N + 1, upd w.H a ho⟩ (h ++ [o]) ∧ Ext w ⟨fun n => if n = w.N then a else w.μ n, w.N + 1, upd w.H a ho⟩ := by
  have e : Ext w ⟨fun n => if n = w.N then a else w.μ n, w.N + 1, upd w.H a ho⟩ := ⟨Nat.le_succ _, fun n hn' => if_neg (Nat.ne_of_lt hn'), fun b xs q => by
    show upd w.H a ho b = _
    rw [upd_ne (ne_of_none q hn)]; exact q⟩
  have old : ∀ {n : Nat} {u : Ob}, n ≠ w.N → (h ++ [o])[n]? = some u → h[n]? = some u := fun {n u} ne q => by
    by_cases hl : n < h.length
    · rwa [List.getElem?_append_left hl] at q
    · have : n ≠ h.length := by rw [S.len]; exact ne
      rw [List.getElem?_eq_none (by simp; omega)] at q; cases q
  have last : (h ++ [o])[w.N]? = some o := by rw [← S.len]; simp
  have off : ∀ {n : Nat} {u : Ob}, h[n]? = some u → isFz u = false → w.μ n ≠ a := fun {n u} q hu z => by
    obtain ⟨x, e1, _⟩ := (S.obj n u q).there hu
    rw [z, hn] at e1; cases e1
  refine ⟨⟨by simp [S.len], fun n u q => ?_, fun m n u u' q q' f f' ee => ?_⟩, e⟩
  · by_cases ne : n = w.N
    · subst ne
      rw [last] at q; cases q
      show RelOb K mg _ (if w.N = w.N then a else _) o
      rw [if_pos rfl]
      exact hho _ e upd_same
    · show RelOb K mg _ (if n = w.N then a else w.μ n) u
      rw [if_neg ne]
      refine (S.obj n u (old ne q)).keep e fun x r => ?_
      show upd w.H a ho (w.μ n) = _
      rw [upd_ne (ne_of_none r hn)]; exact r
  · have ee : (if m = w.N then a else w.μ m) = (if n = w.N then a else w.μ n) := ee
    by_cases em : m = w.N
    · by_cases en : n = w.N
      · rw [em, en]
      · rw [if_pos em, if_neg en] at ee
        exact absurd ee.symm (off (old en q') f')
    · by_cases en : n = w.N
      · rw [if_neg em, if_pos en] at ee
        exact absurd ee (off (old em q) f)
      · rw [if_neg em, if_neg en] at ee
        exact S.inj m n u u' (old em q) (old en q') f f' ee
/-- an object is changed -/
theorem Sim.write (S : Sim K mg w h) {n : Nat} {o o' : Ob} {ho : HO} (q : h[n]? = some o) (hf : isFz o = false) (hf' : isFz o' = false) (hho : ∀ w' : Wd, Ext w w' → w'.H (w.μ n) = some ho → RelOb K mg w' (w.μ n) o') :
    Sim K mg ⟨w.μ, w.N, upd w.H (w.μ n) ho⟩ (h.set n o') ∧ Ext w ⟨w.μ, w.N, upd w.H (w.μ n) ho⟩ := by
  obtain ⟨x, ex, nt, nf⟩ := (S.obj n o q).there hf
  have e : Ext w ⟨w.μ, w.N, upd w.H (w.μ n) ho⟩ := ⟨Nat.le_refl _, fun _ _ => rfl, fun b xs r => by
    show upd w.H (w.μ n) ho b = _
    have : b ≠ w.μ n := fun z => by rw [z, ex] at r; cases r; exact nt _ rfl
    rw [upd_ne this]; exact r⟩
  have hl : n < h.length := by
    by_cases hl : n < h.length
    · exact hl
    · rw [List.getElem?_eq_none (by omega)] at q; cases q
  have old : ∀ {m : Nat} {u : Ob}, m ≠ n → (h.set n o')[m]? = some u → h[m]? = some u := fun {m u} ne r => by rwa [List.getElem?_set_ne (Ne.symm ne)] at r
  have at' : (h.set n o')[n]? = some o' := by rw [List.getElem?_set_self hl]
  refine ⟨⟨by simp [S.len], fun m u r => ?_, fun m m' u u' r r' f f' ee => ?_⟩, e⟩
  · by_cases em : m = n
    · subst em
      rw [at'] at r; cases r
      exact hho _ e upd_same
    · have ro := S.obj m u (old em r)
      by_cases ea : w.μ m = w.μ n
      · cases u with
        | frz xs =>
          obtain ⟨vs, e1, r1⟩ := ro
          refine ⟨vs, ?_, r1.mono e⟩
          rcases e1 with ⟨ob, e1⟩ | e1
          · rw [ea, ex] at e1; cases e1; exact absurd rfl (nf _ _)
          · exact .inr e1
        | lst xs => exact absurd (S.inj m n _ _ (old em r) q rfl hf ea) em
        | ins c fs => exact absurd (S.inj m n _ _ (old em r) q rfl hf ea) em
      · refine ro.keep e fun y r' => ?_
        show upd w.H (w.μ n) ho (w.μ m) = _
        rw [upd_ne ea]; exact r'
  · have wf : ∀ {m : Nat} {u : Ob}, (h.set n o')[m]? = some u → isFz u = false → ∃ u', h[m]? = some u' ∧ isFz u' = false := fun {m u} r f => by
      by_cases em : m = n
      · subst em; exact ⟨o, q, hf⟩
      · exact ⟨u, old em r, f⟩
    obtain ⟨a, h1, h2⟩ := wf r f
    obtain ⟨b, h3, h4⟩ := wf r' f'
    exact S.inj m m' a b h1 h3 h2 h4 ee
end
/-! ### a list, a tuple that is read -/
section
variable {K : PySem.W.Frag} {mg : Str → Option Value} {w : Wd} {h : AH} {n : Nat} {xs : List U}
theorem getL_rel (S : Sim K mg w h) (q : getL h n = some xs) : n < w.N ∧ ∃ vs, SqL K w.H (w.μ n) vs ∧ RelUs K w xs vs := by
  unfold getL at q
  cases e : h[n]? with
  | none => rw [e] at q; cases q
  | some o =>
    have hl : n < w.N := by
      rw [← S.len]
      by_cases hl : n < h.length
      · exact hl
      · rw [List.getElem?_eq_none (by omega)] at e; cases e
    refine ⟨hl, ?_⟩
    rw [e] at q
    cases o with
    | lst ys =>
      cases q
      obtain ⟨vs, e1, r⟩ := S.obj n _ e
      exact ⟨vs, .inl (.inl e1), r⟩
    | frz ys =>
      cases q
      obtain ⟨vs, e1, r⟩ := S.obj n _ e
      refine ⟨vs, ?_, r⟩
      rcases e1 with ⟨ob, e1⟩ | e1
      · exact .inl (.inr ⟨ob, e1⟩)
      · exact .inr e1
    | ins c fs => cases q
theorem getM_at {h : AH} (q : getM h n = some xs) : h[n]? = some (.lst xs) := by
  unfold getM at q
  cases e : h[n]? with
  | none => rw [e] at q; cases q
  | some o =>
    rw [e] at q
    cases o with
    | lst ys => cases q; rfl
    | frz ys => cases q
    | ins c fs => cases q
theorem getM_rel (S : Sim K mg w h) (q : getM h n = some xs) : n < w.N ∧ ∃ vs, w.H (w.μ n) = some (.lst vs) ∧ RelUs K w xs vs := by
  have e := getM_at q
  have hl : n < w.N := by
    rw [← S.len]
    by_cases hl : n < h.length
    · exact hl
    · rw [List.getElem?_eq_none (by omega)] at e; cases e
  exact ⟨hl, S.obj n _ e⟩
theorem getI_at {h : AH} {c : Nm} {fs : List (Nm × U)} (q : getI h n = some (c, fs)) : h[n]? = some (.ins c fs) := by
  unfold getI at q
  cases e : h[n]? with
  | none => rw [e] at q; cases q
  | some o =>
    rw [e] at q
    cases o with
    | lst ys => cases q
    | frz ys => cases q
    | ins c fs => cases q; rfl
end
/-! ### data -/
section
variable {K : PySem.W.Frag} {mg : Str → Option Value} {w : Wd} {h : AH}
theorem mapO_dp {f : U → Option PyData} : ∀ {xs : List U} {vs : List V} {ds : List PyData}, (∀ u v d, RelU K w u v → f u = some d → Dp K w.H v d) → RelUs K w xs vs → mapO f xs = some ds → DpAll K w.H vs ds
  | [], _, _, _, r, e => by cases r; cases e; exact .nil
  | x :: xs, _, _, g, ⟨v, ws, h1, h2, h3⟩, e => by
    subst h1
    unfold mapO at e
    cases e1 : f x with
    | none => rw [e1] at e; cases e
    | some y =>
      rw [e1] at e
      cases e2 : mapO f xs with
      | none => rw [e2] at e; cases e
      | some ys =>
        rw [e2] at e; cases e
        exact .cons (g x v y h2 e1) (mapO_dp g h3 e2)
theorem dat_dp (S : Sim K mg w h) : ∀ (n : Nat) (u : U) (v : V) (d : PyData), RelU K w u v → u.dat h n = some d → Dp K w.H v d
  | 0, _, _, _, _, e => by cases e
  | n + 1, u, v, d, r, e => by
    cases u with
    | non => cases e; cases r; exact .non
    | bl b => cases e; cases r; exact .bl b
    | int i => cases e; cases r; exact .int i
    | str s => cases e; cases r; exact .str s
    | tup xs =>
      obtain ⟨a, vs, rfl, t, r⟩ := r
      simp only [U.dat] at e
      cases e1 : mapO (U.dat h n) xs with
      | none => rw [e1] at e; cases e
      | some ds =>
        rw [e1] at e; cases e
        exact .tup t.sq (mapO_dp (fun u v d => dat_dp S n u v d) r e1)
    | ref a =>
      obtain ⟨_, rfl⟩ := r
      simp only [U.dat] at e
      cases e0 : getL h a with
      | none => rw [e0] at e; cases e
      | some xs =>
        rw [e0] at e
        obtain ⟨_, vs, q, r⟩ := getL_rel S e0
        cases e1 : mapO (U.dat h n) xs with
        | none => simp only [e1] at e; cases e
        | some ds =>
          simp only [e1] at e; cases e
          exact .lst q (mapO_dp (fun u v d => dat_dp S n u v d) r e1)
mutual
theorem dp_plain {K : PySem.W.Frag} {H : Hp} : ∀ {d : PyData} {v : V}, Dp K H v d → d.plain = true
  | .none, _, _ => rfl
  | .bool _, _, _ => rfl
  | .int _, _, _ => rfl
  | .str _, _, _ => rfl
  | .list ds, _, q => by
    cases q with
    | lst _ ha => simpa [PyData.plain] using dps_plain ha
  | .tuple ds, _, q => by
    cases q with
    | tup _ ha => simpa [PyData.plain] using dps_plain ha
  | .dict _, _, q => by cases q
theorem dps_plain {K : PySem.W.Frag} {H : Hp} : ∀ {ds : List PyData} {vs : List V}, DpAll K H vs ds → PyData.plainAll ds = true
  | [], _, _ => rfl
  | d :: ds, _, q => by
    cases q with
    | cons h1 h2 => simp [PyData.plainAll, dp_plain h1, dps_plain h2]
end
end
end Pl

namespace Pl
open PySem PySem.Spec PyProof.Rows L2
/-! ### readings of the mini-language -/
def RelX (mg : Str → Option Value) (c : Nm) (fs : List (Nm × U)) (cls : Value) (d : Option Addr) : Prop := ∃ C, cls = .ref C ∧ mg (nstr c) = some (.ref C) ∧ fs = [] ∧ d = none
def RelL (K : PySem.W.Frag) (w : Wd) (ρ : Loc) (σ : L2.St) : Prop := ρ.length = σ.length ∧ ∀ (i : Nat) (u : U), ρ[i]? = some (some u) → ∃ v, σ[i]? = some (some v) ∧ RelU K w u v
theorem RelL.mono {K : PySem.W.Frag} {w w' : Wd} {ρ : Loc} {σ : L2.St} (e : Ext w w') (r : RelL K w ρ σ) : RelL K w' ρ σ :=
  ⟨r.1, fun i u q => let ⟨v, h1, h2⟩ := r.2 i u q; ⟨v, h1, h2.mono e⟩⟩
theorem RelL.set {K : PySem.W.Frag} {w : Wd} {ρ : Loc} {σ : L2.St} {u : U} {v : V} (r : RelL K w ρ σ) (i : Nat) (q : RelU K w u v) : RelL K w (ρ.set i (some u)) (σ.set i (some v)) := by
  refine ⟨by simp [r.1], fun j u' e => ?_⟩
  by_cases hj : i = j
  · subst hj
    by_cases hl : i < ρ.length
    · rw [List.getElem?_set_self hl] at e
      cases e
      exact ⟨v, by rw [List.getElem?_set_self (by rw [← r.1]; exact hl)], q⟩
    · rw [List.getElem?_eq_none (by simp; omega)] at e; cases e
  · rw [List.getElem?_set_ne hj] at e
    obtain ⟨v', h1, h2⟩ := r.2 j u' e
    exact ⟨v', by rw [List.getElem?_set_ne hj]; exact h1, h2⟩
section
variable (K : PySem.W.Frag) (mg : Str → Option Value)
def OutG {α β : Type} (R : Wd → α → β → Prop) (W : WX) (σ : L2.St) (w : Wd) (Q : β → Hp → Prop) : Rs α → Prop
  | .ok u h' => ∀ (w' : Wd) (v : β), Sim K mg w' h' → Ext w w' → R w' u v → Q v w'.H
  | .exc c fs h' => ∀ (w' : Wd) (cls : Value) (d : Option Addr), Sim K mg w' h' → Ext w w' → RelX mg c fs cls d → W cls d σ w'.H
  | .bad => False
def tG {α β : Type} (R : Wd → α → β → Prop) (Φ : L2.St → Prop) (W : WX) (m : Loc → AH → Rs α) : L2.St → Hp → (β → Hp → Prop) → Prop := fun σ H Q =>
  ∃ (w : Wd) (h : AH) (ρ : Loc), w.H = H ∧ Sim K mg w h ∧ RelL K w ρ σ ∧ Φ σ ∧ OutG K mg R W σ w Q (m ρ h)
abbrev tE (Φ : L2.St → Prop) (W : WX) (m : Loc → AH → Rs U) : TE := tG K mg (RelU K) Φ W m
abbrev tA (Φ : L2.St → Prop) (W : WX) (m : Loc → AH → Rs (List U)) : TA := tG K mg (RelUs K) Φ W m
def OutT (W : WX) (σ : L2.St) (w : Wd) (Q : Bool → Hp → Prop) : Rs U → Prop
  | .ok u h' => ∃ b, u = .bl b ∧ ∀ (w' : Wd), Sim K mg w' h' → Ext w w' → Q b w'.H
  | .exc c fs h' => ∀ (w' : Wd) (cls : Value) (d : Option Addr), Sim K mg w' h' → Ext w w' → RelX mg c fs cls d → W cls d σ w'.H
  | .bad => False
def tT (Φ : L2.St → Prop) (W : WX) (m : Loc → AH → Rs U) : TT := fun σ H Q =>
  ∃ (w : Wd) (h : AH) (ρ : Loc), w.H = H ∧ Sim K mg w h ∧ RelL K w ρ σ ∧ Φ σ ∧ OutT K mg W σ w Q (m ρ h)
end
section
variable {K : PySem.W.Frag} {mg : Str → Option Value} {W : WX} {σ : L2.St} {w w' : Wd} {α β γ δ : Type} {R : Wd → α → β → Prop} {R' : Wd → γ → δ → Prop}
theorem OutG.mono {Q : β → Hp → Prop} {r : Rs α} (e : Ext w w') (o : OutG K mg R W σ w Q r) : OutG K mg R W σ w' Q r := by
  cases r with
  | ok u h' => exact fun w2 v S E => o w2 v S (e.trans E)
  | exc c fs h' => exact fun w2 cls d S E => o w2 cls d S (e.trans E)
  | bad => exact o
theorem OutG.imp {Q Q' : β → Hp → Prop} {r : Rs α} (o : OutG K mg R W σ w Q r) (h : ∀ v H, Q v H → Q' v H) : OutG K mg R W σ w Q' r := by
  cases r with
  | ok u h' => exact fun w2 v S E r => h _ _ (o w2 v S E r)
  | exc c fs h' => exact o
  | bad => exact o
/-- one thing behind another -/
theorem OutG.bind {Q : δ → Hp → Prop} {r : Rs α} {f : α → AH → Rs γ} (o : OutG K mg R' W σ w Q (r.bind f)) :
    OutG K mg R W σ w (fun v H1 => ∃ w1 h1 u, w1.H = H1 ∧ Sim K mg w1 h1 ∧ Ext w w1 ∧ R w1 u v ∧ OutG K mg R' W σ w1 Q (f u h1)) r := by
  cases r with
  | ok u h' => exact fun w2 v S E r => ⟨w2, h', u, rfl, S, E, r, OutG.mono E o⟩
  | exc c fs h' => exact o
  | bad => exact o
theorem OutT.mono {Q : Bool → Hp → Prop} {r : Rs U} (e : Ext w w') (o : OutT K mg W σ w Q r) : OutT K mg W σ w' Q r := by
  cases r with
  | ok u h' => obtain ⟨b, h1, h2⟩ := o; exact ⟨b, h1, fun w2 S E => h2 w2 S (e.trans E)⟩
  | exc c fs h' => exact fun w2 cls d S E => o w2 cls d S (e.trans E)
  | bad => exact o
theorem OutT.imp {Q Q' : Bool → Hp → Prop} {r : Rs U} (o : OutT K mg W σ w Q r) (h : ∀ v H, Q v H → Q' v H) : OutT K mg W σ w Q' r := by
  cases r with
  | ok u h' => obtain ⟨b, h1, h2⟩ := o; exact ⟨b, h1, fun w2 S E => h _ _ (h2 w2 S E)⟩
  | exc c fs h' => exact o
  | bad => exact o
/-- a test's outcome, from the value's -/
theorem OutT.val {Q : Bool → Hp → Prop} {r : Rs U} (o : OutT K mg W σ w Q r) : OutG K mg (RelU K) W σ w (fun x H1 => ∃ c, x = .bl c ∧ Q c H1) r := by
  cases r with
  | ok u h' =>
    obtain ⟨b, rfl, h2⟩ := o
    intro w2 v S E r
    cases r
    exact ⟨b, rfl, h2 w2 S E⟩
  | exc c fs h' => exact o
  | bad => exact o
theorem OutT.bind {Q : Bool → Hp → Prop} {r : Rs α} {f : α → AH → Rs U} (o : OutT K mg W σ w Q (r.bind f)) :
    OutG K mg R W σ w (fun v H1 => ∃ w1 h1 u, w1.H = H1 ∧ Sim K mg w1 h1 ∧ Ext w w1 ∧ R w1 u v ∧ OutT K mg W σ w1 Q (f u h1)) r := by
  cases r with
  | ok u h' => exact fun w2 v S E r => ⟨w2, h', u, rfl, S, E, r, OutT.mono E o⟩
  | exc c fs h' => exact o
  | bad => exact o
/-- a bool's outcome, then what hangs on it -/
theorem OutG.test {Q : δ → Hp → Prop} {r : Rs U} {f : U → AH → Rs γ} (hb : ∀ u h, (∀ b, u ≠ .bl b) → f u h = .bad) (o : OutG K mg R' W σ w Q (r.bind f)) :
    OutT K mg W σ w (fun b H1 => ∃ w1 h1, w1.H = H1 ∧ Sim K mg w1 h1 ∧ Ext w w1 ∧ OutG K mg R' W σ w1 Q (f (.bl b) h1)) r := by
  cases r with
  | ok u h' =>
    by_cases q : ∃ b, u = .bl b
    · obtain ⟨b, rfl⟩ := q
      exact ⟨b, rfl, fun w2 S E => ⟨w2, h', rfl, S, E, OutG.mono E o⟩⟩
    · have e := hb u h' fun b z => q ⟨b, z⟩
      rw [Rs.bind_ok, e] at o
      exact o.elim
  | exc c fs h' => exact o
  | bad => exact o
theorem OutT.test {Q : Bool → Hp → Prop} {r : Rs U} {f : U → AH → Rs U} (hb : ∀ u h, (∀ b, u ≠ .bl b) → f u h = .bad) (o : OutT K mg W σ w Q (r.bind f)) :
    OutT K mg W σ w (fun b H1 => ∃ w1 h1, w1.H = H1 ∧ Sim K mg w1 h1 ∧ Ext w w1 ∧ OutT K mg W σ w1 Q (f (.bl b) h1)) r := by
  cases r with
  | ok u h' =>
    by_cases q : ∃ b, u = .bl b
    · obtain ⟨b, rfl⟩ := q
      exact ⟨b, rfl, fun w2 S E => ⟨w2, h', rfl, S, E, OutT.mono E o⟩⟩
    · have e := hb u h' fun b z => q ⟨b, z⟩
      rw [Rs.bind_ok, e] at o
      exact o.elim
  | exc c fs h' => exact o
  | bad => exact o
/-- an answer that leaves the heap -/
theorem OutG.here {Q : V → Hp → Prop} {u : U} {v : V} {h : AH} (o : OutG K mg (RelU K) W σ w Q (.ok u h)) (S : Sim K mg w h) (r : RelU K w u v) : Q v w.H := o w v S Ext.rfl' r
/-- an answer that is a new object -/
theorem OutG.new {Q : V → Hp → Prop} {h : AH} {ob : Ob} {ho : HO} (o : OutG K mg (RelU K) W σ w Q (newOb ob h)) (S : Sim K mg w h) (hf : isFz ob = false) (hho : ∀ (a : Addr) (w' : Wd), Ext w w' → w'.H a = some ho → RelOb K mg w' a ob) : ∀ p, w.H p = none → Q (.ref p) (upd w.H p ho) := fun p hp => by
  obtain ⟨S2, E2⟩ := S.new (o := ob) hp hf (hho p)
  refine o _ (.ref p) S2 E2 ⟨?_, ?_⟩
  · show h.length < w.N + 1
    rw [S.len]; exact Nat.lt_succ_self _
  · show V.ref p = .ref (if h.length = w.N then p else _)
    rw [if_pos S.len]
/-- an answer that is a new tuple -/
theorem OutG.newT {Q : V → Hp → Prop} {h : AH} {us : List U} {vs : List V} (o : OutG K mg (RelU K) W σ w Q (.ok (.tup us) h)) (S : Sim K mg w h) (r : RelUs K w us vs) : ∀ p, w.H p = none → Q (.ref p) (upd w.H p (.tup vs)) := fun p hp => by
  obtain ⟨S2, E2⟩ := S.grow (a := p) (ho := .tup vs) hp
  exact o _ (.ref p) S2 E2 ⟨p, vs, rfl, .inl upd_same, r.mono E2⟩
end
/-! ### rules by values that are not in the layer -/
section
variable {X : Cx}
theorem OpR.imp {f : Value → Value → Sem Value} {r r' : R2} (h : OpR X f r) (g : ∀ x y H Q, r' x y H Q → r x y H Q) : OpR X f r' := fun pins s σ H x y v u Q I rx ry q => h pins s σ H x y v u Q I rx ry (g _ _ _ _ q)
def rCatL (K : PySem.W.Frag) : R2 := fun x y H Q => ∃ l b xs zs, x = .ref l ∧ y = .ref b ∧ SqL K H l xs ∧ SqL K H b zs ∧ xs.length + zs.length ≤ sizeLine ∧ ∀ p, H p = none → Q (.ref p) (upd H p (.lst (xs ++ zs)))
theorem op_catL : OpR X (binaryOp .Add) (rCatL X.K) := by
  intro pins s σ H x y v u Q I rx ry h
  obtain ⟨l, b, xs, zs, rfl, rfl, hl, hb, hz, q⟩ := h
  cases rx
  cases ry
  obtain ⟨its, r, ⟨o1, n1, e1, c1, d1, t1⟩, _⟩ := I.list hl
  obtain ⟨its2, r2, ⟨o2, n2, e2, c2, d2, t2⟩, _⟩ := I.list hb
  obtain ⟨oc, od, dt, sl⟩ := o1
  obtain ⟨oc2, od2, dt2, sl2⟩ := o2
  simp only at c1 d1 t1 c2 d2 t2
  subst c1 d1 t1 c2 d2 t2
  have hsz : its.toArray.size + its2.toArray.size ≤ sizeLine := by
    rw [List.size_toArray, List.size_toArray, ← r.length, ← r2.length]; exact hz
  have ea : its.toArray ++ its2.toArray = (its ++ its2).toArray := by simp
  refine PySem.concat_meets ⟨_, e1, rfl⟩ ⟨_, e2, rfl⟩ PySem.noFill_list_add PySem.seq_list_add PySem.F.slot_list_add PySem.F.entry_list_add (PySem.F.args_list_add_2 _ _) (PyProof.Rows.list_addW l b its.toArray its2.toArray n1 n2 _ _ _ _ hsz) ⟨e1, e2, ?_⟩
  rw [ea]
  exact ⟨.ref _, _, I.lnew (t' := s.toks) (r.append r2) (by rw [List.length_append]; omega), rfl, q _ I.fresh⟩
/-- the comparisons of data -/
def rCmpD (K : PySem.W.Frag) (ok : PyData → PyData → Prop) (g : PyData → PyData → Bool) : R2 := fun x y H Q => ∃ d e, Dp K H x d ∧ Dp K H y e ∧ d.depth ≤ 100 ∧ ok d e ∧ Q (.bl (g d e)) H
theorem min_room {A : Around} {d e : PyData} (hu : A.units + 102 < cLine) (h : d.depth ≤ 100) : A.units + min d.depth e.depth < cLine := by
  have := Nat.min_le_left d.depth e.depth
  omega
theorem op_eqP (hu : X.A.units + 102 < cLine) : OpR X (compareOp .Eq) (rCmpD X.K (fun _ _ => True) PyData.eqv) := by
  intro pins s σ H x y v u Q I rx ry h
  obtain ⟨d, e, hd, he, hz, _, q⟩ := h
  obtain ⟨as, r1⟩ := Dp.reads I d x v hd rx
  obtain ⟨bs, r2⟩ := Dp.reads I e y u he ry
  exact SeqAt.eq_plain r1 r2 (dp_plain hd) (dp_plain he) (min_room hu hz) ⟨.bl _, H, I, rfl, q⟩
theorem op_neP (hu : X.A.units + 102 < cLine) : OpR X (compareOp .NotEq) (rCmpD X.K (fun _ _ => True) fun d e => !PyData.eqv d e) := by
  intro pins s σ H x y v u Q I rx ry h
  obtain ⟨d, e, hd, he, hz, _, q⟩ := h
  obtain ⟨as, r1⟩ := Dp.reads I d x v hd rx
  obtain ⟨bs, r2⟩ := Dp.reads I e y u he ry
  exact SeqAt.ne_plain r1 r2 (dp_plain hd) (dp_plain he) (min_room hu hz) ⟨.bl _, H, I, rfl, q⟩
def okLt (d e : PyData) : Prop := PySem.W.alike d e = true ∧ notN d = true
theorem okLt.ne {d e : PyData} (h : okLt d e) : d ≠ .none := by
  rintro rfl
  exact absurd h.2 (by simp [notN])
theorem op_ltP (hu : X.A.units + 102 < cLine) : OpR X (compareOp .Lt) (rCmpD X.K okLt PySem.W.dataLt) := by
  intro pins s σ H x y v u Q I rx ry h
  obtain ⟨d, e, hd, he, hz, hk, q⟩ := h
  obtain ⟨as, r1⟩ := Dp.reads I d x v hd rx
  obtain ⟨bs, r2⟩ := Dp.reads I e y u he ry
  exact PySem.W.lt_data r1 r2 hk.1 hk.ne (min_room hu hz) ⟨.bl _, H, I, rfl, q⟩
theorem op_gtP (hu : X.A.units + 102 < cLine) : OpR X (compareOp .Gt) (rCmpD X.K okLt fun d e => PySem.W.dataLt e d) := by
  intro pins s σ H x y v u Q I rx ry h
  obtain ⟨d, e, hd, he, hz, hk, q⟩ := h
  obtain ⟨as, r1⟩ := Dp.reads I d x v hd rx
  obtain ⟨bs, r2⟩ := Dp.reads I e y u he ry
  exact PySem.W.gt_data r1 r2 hk.1 hk.ne (min_room hu hz) ⟨.bl _, H, I, rfl, q⟩
theorem op_leP (hu : X.A.units + 102 < cLine) : OpR X (compareOp .LtE) (rCmpD X.K okLt fun d e => !PySem.W.dataLt e d) := by
  intro pins s σ H x y v u Q I rx ry h
  obtain ⟨d, e, hd, he, hz, hk, q⟩ := h
  obtain ⟨as, r1⟩ := Dp.reads I d x v hd rx
  obtain ⟨bs, r2⟩ := Dp.reads I e y u he ry
  exact PySem.W.le_data r1 r2 hk.1 hk.ne (min_room hu hz) ⟨.bl _, H, I, rfl, q⟩
theorem op_geP (hu : X.A.units + 102 < cLine) : OpR X (compareOp .GtE) (rCmpD X.K okLt fun d e => !PySem.W.dataLt d e) := by
  intro pins s σ H x y v u Q I rx ry h
  obtain ⟨d, e, hd, he, hz, hk, q⟩ := h
  obtain ⟨as, r1⟩ := Dp.reads I d x v hd rx
  obtain ⟨bs, r2⟩ := Dp.reads I e y u he ry
  exact PySem.W.ge_data r1 r2 hk.1 hk.ne (min_room hu hz) ⟨.bl _, H, I, rfl, q⟩
/-- x in xs, a list or a tuple of data -/
def rInP (K : PySem.W.Frag) (neg : Bool) : R2 := fun x y H Q => ∃ d ds, Dp K H x d ∧ (Dp K H y (.list ds) ∨ Dp K H y (.tuple ds)) ∧ d.depth ≤ 100 ∧ Q (.bl (neg ^^ (ds.any fun z => PyData.eqv z d))) H
theorem min_room1 {A : Around} {n m : Nat} (hu : A.units + 102 < cLine) (h : m ≤ 100) : A.units + 1 + min n m < cLine := by
  have := Nat.min_le_right n m
  omega
theorem op_inP (hu : X.A.units + 102 < cLine) : OpR X (compareOp .In) (rInP X.K false) := by
  intro pins s σ H x y v u Q I rx ry h
  obtain ⟨d, ds, hd, hs, hz, q⟩ := h
  rw [Bool.false_xor] at q
  obtain ⟨as, r1⟩ := Dp.reads I d x v hd rx
  rcases hs with hs | hs
  · obtain ⟨bs, r2⟩ := Dp.reads I _ y u hs ry
    exact SeqAt.in_list_data r2 r1 (by simpa [PyData.plain] using dp_plain hs) (dp_plain hd) (min_room1 hu hz) ⟨.bl _, H, I, rfl, q⟩
  · obtain ⟨bs, r2⟩ := Dp.reads I _ y u hs ry
    exact SeqAt.in_tuple_data r2 r1 (by simpa [PyData.plain] using dp_plain hs) (dp_plain hd) (min_room1 hu hz) ⟨.bl _, H, I, rfl, q⟩
theorem op_ninP (hu : X.A.units + 102 < cLine) : OpR X (compareOp .NotIn) (rInP X.K true) := by
  intro pins s σ H x y v u Q I rx ry h
  obtain ⟨d, ds, hd, hs, hz, q⟩ := h
  rw [Bool.true_xor] at q
  obtain ⟨as, r1⟩ := Dp.reads I d x v hd rx
  rcases hs with hs | hs
  · obtain ⟨bs, r2⟩ := Dp.reads I _ y u hs ry
    exact SeqAt.notIn_list_data r2 r1 (by simpa [PyData.plain] using dp_plain hs) (dp_plain hd) (min_room1 hu hz) ⟨.bl _, H, I, rfl, q⟩
  · obtain ⟨bs, r2⟩ := Dp.reads I _ y u hs ry
    exact SeqAt.notIn_tuple_data r2 r1 (by simpa [PyData.plain] using dp_plain hs) (dp_plain hd) (min_room1 hu hz) ⟨.bl _, H, I, rfl, q⟩
end
end Pl

namespace Pl
open PySem PySem.Spec PyProof.Rows L2
/-! ### how deep data are -/
theorem mapO_depth {f : U → Option PyData} {n : Nat} (hf : ∀ u d, f u = some d → d.depth ≤ n) : ∀ {xs : List U} {ds : List PyData}, mapO f xs = some ds → PyData.depthAll ds ≤ n
  | [], ds, e => by cases e; exact Nat.zero_le _
  | x :: xs, ds, e => by
    unfold mapO at e
    cases e1 : f x with
    | none => rw [e1] at e; cases e
    | some y =>
      rw [e1] at e
      cases e2 : mapO f xs with
      | none => rw [e2] at e; cases e
      | some ys =>
        rw [e2] at e; cases e
        show max (PyData.depth y) (PyData.depthAll ys) ≤ n
        exact Nat.max_le.mpr ⟨hf x y e1, mapO_depth hf e2⟩
theorem dat_depth {h : AH} : ∀ (n : Nat) (u : U) (d : PyData), u.dat h n = some d → d.depth ≤ n
  | 0, _, _, e => by cases e
  | n + 1, u, d, e => by
    cases u with
    | non => cases e; exact Nat.zero_le _
    | bl b => cases e; exact Nat.zero_le _
    | int i => cases e; exact Nat.zero_le _
    | str s => cases e; exact Nat.zero_le _
    | tup xs =>
      simp only [U.dat] at e
      cases e1 : mapO (U.dat h n) xs with
      | none => rw [e1] at e; cases e
      | some ds => rw [e1] at e; cases e; exact Nat.succ_le_succ (mapO_depth (fun u d => dat_depth n u d) e1)
    | ref a =>
      simp only [U.dat] at e
      cases e0 : getL h a with
      | none => rw [e0] at e; cases e
      | some xs =>
        rw [e0] at e
        cases e1 : mapO (U.dat h n) xs with
        | none => simp only [e1] at e; cases e
        | some ds => simp only [e1] at e; cases e; exact Nat.succ_le_succ (mapO_depth (fun u d => dat_depth n u d) e1)
theorem dat_100 {h : AH} {u : U} {d : PyData} (e : u.dat h DD = some d) : d.depth ≤ 100 := dat_depth 100 u d e
theorem mapO_length {α β : Type} {f : α → Option β} : ∀ {xs : List α} {ys : List β}, mapO f xs = some ys → ys.length = xs.length
  | [], _, e => by cases e; rfl
  | x :: xs, ys, e => by
    unfold mapO at e
    cases e1 : f x with
    | none => rw [e1] at e; cases e
    | some y =>
      rw [e1] at e
      cases e2 : mapO f xs with
      | none => rw [e2] at e; cases e
      | some zs => rw [e2] at e; cases e; simp [mapO_length e2]
theorem mapO_mem {α β : Type} {f : α → Option β} : ∀ {xs : List α} {ys : List β} {y : β}, mapO f xs = some ys → y ∈ ys → ∃ x, x ∈ xs ∧ f x = some y
  | [], _, _, e, h => by cases e; cases h
  | x :: xs, ys, y, e, h => by
    unfold mapO at e
    cases e1 : f x with
    | none => rw [e1] at e; cases e
    | some z =>
      rw [e1] at e
      cases e2 : mapO f xs with
      | none => rw [e2] at e; cases e
      | some zs =>
        rw [e2] at e; cases e
        rcases List.mem_cons.mp h with rfl | h
        · exact ⟨x, List.mem_cons_self, e1⟩
        · obtain ⟨x', h1, h2⟩ := mapO_mem e2 h
          exact ⟨x', List.mem_cons_of_mem _ h1, h2⟩
/-! ### operators -/
def astBo : Bo → Operator
  | .add => .Add | .sub => .Sub | .mul => .Mult | .div => .FloorDiv | .mod => .Mod | .pow => .Pow
def rAddS : R2 := fun x y H Q => ∃ i j, x = .str i ∧ y = .str j ∧ i.length + j.length ≤ sizeLine ∧ Q (.str (i ++ j)) H
def rBin (K : PySem.W.Frag) : Bo → R2
  | .add => fun x y H Q => rI0 (fun i j => .int (i + j)) x y H Q ∨ (rAddS x y H Q ∨ (rCatA K x y H Q ∨ rCatL K x y H Q))
  | .sub => rI0 fun i j => .int (i - j)
  | .mul => rI CMul fun i j => .int (i * j)
  | .div => rI CDivW fun i j => .int (i / j)
  | .mod => rI (fun _ j => 0 < j) fun i j => .int (i % j)
  | .pow => rI CPow fun i j => .int (i ^ j.toNat)
theorem op_bin {X : Cx} : ∀ o : Bo, OpR X (binaryOp (astBo o)) (rBin X.K o)
  | .add => op_add.or (op_add_str.or (op_catA.or op_catL))
  | .sub => op_sub
  | .mul => op_mul
  | .div => op_fdivW
  | .mod => op_mod
  | .pow => op_pow
section
variable {K : PySem.W.Frag} {mg : Str → Option Value} {W : WX} {σ : L2.St} {w : Wd} {h : AH} {Q : V → Hp → Prop} {x y : V} {u v : U}
theorem bin_ok (S : Sim K mg w h) (ru : RelU K w u x) (rv : RelU K w v y) (o : Bo) (q : OutG K mg (RelU K) W σ w Q (binop o u v h)) : rBin K o x y w.H Q := by
  cases o with
  | add =>
    cases u with
    | int i =>
      cases v with
      | int j => cases ru; cases rv; exact .inl ⟨i, j, rfl, rfl, q.here (v := .int (i + j)) S rfl⟩
      | _ => exact q.elim
    | str a =>
      cases v with
      | str b =>
        cases ru; cases rv
        simp only [binop] at q
        split at q
        · rename_i hz
          exact .inr (.inl ⟨a, b, rfl, rfl, hz, q.here (v := .str (a ++ b)) S rfl⟩)
        · exact q.elim
      | _ => exact q.elim
    | tup xs =>
      cases v with
      | tup ys =>
        obtain ⟨a, vs, rfl, ta, ra⟩ := ru
        obtain ⟨b, ws, rfl, tb, rb⟩ := rv
        simp only [binop] at q
        split at q
        · rename_i hz
          refine .inr (.inr (.inl ⟨a, b, vs, ws, rfl, rfl, ta.sq, tb.sq, ?_, fun hv => ?_, fun _ hw => ?_, fun _ _ => q.newT S (ra.append rb)⟩))
          · rw [← ra.length, ← rb.length]; exact hz
          · subst hv
            have : xs = [] := by have := ra.length; simpa using this
            subst this
            exact q.here (v := .ref b) S ⟨b, ws, rfl, tb, by simpa using rb⟩
          · subst hw
            have : ys = [] := by have := rb.length; simpa using this
            subst this
            exact q.here (v := .ref a) S ⟨a, vs, rfl, ta, by simpa using ra⟩
        · exact q.elim
      | _ => exact q.elim
    | ref a =>
      cases v with
      | ref b =>
        obtain ⟨_, rfl⟩ := ru
        obtain ⟨_, rfl⟩ := rv
        simp only [binop] at q
        cases e1 : getL h a with
        | none => rw [e1] at q; exact q.elim
        | some xs =>
          rw [e1] at q
          cases e2 : getL h b with
          | none => rw [e2] at q; exact q.elim
          | some ys =>
            rw [e2] at q
            simp only at q
            split at q
            · rename_i hz
              obtain ⟨_, vs, sa, ra⟩ := getL_rel S e1
              obtain ⟨_, ws, sb, rb⟩ := getL_rel S e2
              refine .inr (.inr (.inr ⟨_, _, vs, ws, rfl, rfl, sa, sb, ?_, ?_⟩))
              · rw [← ra.length, ← rb.length]; exact hz
              · exact q.new S rfl fun p w' E e => ⟨_, e, (ra.append rb).mono E⟩
            · exact q.elim
      | _ => exact q.elim
    | _ => cases v <;> exact q.elim
  | sub =>
    cases u with
    | int i =>
      cases v with
      | int j => cases ru; cases rv; exact ⟨i, j, rfl, rfl, q.here (v := .int (i - j)) S rfl⟩
      | _ => exact q.elim
    | _ => cases v <;> exact q.elim
  | mul =>
    cases u with
    | int i =>
      cases v with
      | int j =>
        cases ru; cases rv
        simp only [binop] at q
        split at q
        · rename_i hz
          exact ⟨i, j, rfl, rfl, hz, q.here (v := .int (i * j)) S rfl⟩
        · exact q.elim
      | _ => exact q.elim
    | _ => cases v <;> exact q.elim
  | div =>
    cases u with
    | int i =>
      cases v with
      | int j =>
        cases ru; cases rv
        simp only [binop] at q
        split at q
        · rename_i hz
          exact ⟨i, j, rfl, rfl, hz, q.here (v := .int (i / j)) S rfl⟩
        · exact q.elim
      | _ => exact q.elim
    | _ => cases v <;> exact q.elim
  | mod =>
    cases u with
    | int i =>
      cases v with
      | int j =>
        cases ru; cases rv
        simp only [binop] at q
        split at q
        · rename_i hz
          exact ⟨i, j, rfl, rfl, hz, q.here (v := .int (i % j)) S rfl⟩
        · exact q.elim
      | _ => exact q.elim
    | _ => cases v <;> exact q.elim
  | pow =>
    cases u with
    | int i =>
      cases v with
      | int j =>
        cases ru; cases rv
        simp only [binop] at q
        split at q
        · rename_i hz
          exact ⟨i, j, rfl, rfl, hz, q.here (v := .int (i ^ j.toNat)) S rfl⟩
        · exact q.elim
      | _ => exact q.elim
    | _ => cases v <;> exact q.elim
end
/-! ### comparisons -/
def astCo : Co → CmpOp
  | .eq => .Eq | .ne => .NotEq | .lt => .Lt | .le => .LtE | .gt => .Gt | .ge => .GtE | .is_ => .Is | .isnot => .IsNot | .in_ => .In | .notin => .NotIn
def rCmp (K : PySem.W.Frag) : Co → R2
  | .eq => rCmpD K (fun _ _ => True) PyData.eqv
  | .ne => rCmpD K (fun _ _ => True) fun d e => !PyData.eqv d e
  | .lt => rCmpD K okLt PySem.W.dataLt
  | .gt => rCmpD K okLt fun d e => PySem.W.dataLt e d
  | .le => rCmpD K okLt fun d e => !PySem.W.dataLt e d
  | .ge => rCmpD K okLt fun d e => !PySem.W.dataLt d e
  | .is_ => fun x y H Q => y = .non ∧ Q (.bl (decide (x = .non))) H
  | .isnot => fun x y H Q => y = .non ∧ Q (.bl (!decide (x = .non))) H
  | .in_ => rInP K false
  | .notin => rInP K true
theorem op_cmp {X : Cx} (hu : X.A.units + 102 < cLine) : ∀ o : Co, OpR X (compareOp (astCo o)) (rCmp X.K o)
  | .eq => op_eqP hu
  | .ne => op_neP hu
  | .lt => op_ltP hu
  | .gt => op_gtP hu
  | .le => op_leP hu
  | .ge => op_geP hu
  | .is_ => op_isN
  | .isnot => op_notN
  | .in_ => op_inP hu
  | .notin => op_ninP hu
section
variable {K : PySem.W.Frag} {mg : Str → Option Value} {W : WX} {σ : L2.St} {w : Wd} {h : AH} {Q : V → Hp → Prop} {x y : V} {u v : U}
theorem relU_non (r : RelU K w u x) : decide (x = .non) = decide (u = .non) := by
  cases u with
  | non => cases r; rfl
  | bl b => cases r; rfl
  | int b => cases r; rfl
  | str b => cases r; rfl
  | ref b => obtain ⟨_, rfl⟩ := r; rfl
  | tup b => obtain ⟨_, _, rfl, _⟩ := r; rfl
theorem cmp_dat (S : Sim K mg w h) (ru : RelU K w u x) (rv : RelU K w v y) {g : PyData → PyData → Bool} {ok : PyData → PyData → Prop} {d e : PyData} (hd : u.dat h DD = some d) (he : v.dat h DD = some e) (k : ok d e)
    (q : Q (.bl (g d e)) w.H) : rCmpD K ok g x y w.H Q := ⟨d, e, dat_dp S _ _ _ _ ru hd, dat_dp S _ _ _ _ rv he, dat_100 hd, k, q⟩
theorem ord_ok (S : Sim K mg w h) (ru : RelU K w u x) (rv : RelU K w v y) {g : PyData → PyData → Bool} {b : Bool} (e : ordU g h u v = some b) (q : Q (.bl b) w.H) : rCmpD K okLt g x y w.H Q := by
  unfold ordU at e
  split at e
  · rename_i d d' hd he
    split at e
    · rename_i hk
      cases e
      exact cmp_dat S ru rv hd he hk q
    · cases e
  · cases e
theorem in_ok (S : Sim K mg w h) (ru : RelU K w u x) {xs : List U} {b n : Bool} (hy : ∀ ds, mapO (U.dat h DD) xs = some ds → Dp K w.H y (.list ds) ∨ Dp K w.H y (.tuple ds)) (e : inU h u xs = some b) (q : Q (.bl (n ^^ b)) w.H) : rInP K n x y w.H Q := by
  unfold inU at e
  split at e
  · rename_i d ds hd hs
    cases e
    exact ⟨d, ds, dat_dp S _ _ _ _ ru hd, hy ds hs, dat_100 hd, q⟩
  · cases e
theorem eq_of {b : Bool} (e : eqU h u v = some b) : ∃ d d', u.dat h DD = some d ∧ v.dat h DD = some d' ∧ b = PyData.eqv d d' := by
  unfold eqU at e
  split at e
  · rename_i d d' hd he
    cases e
    exact ⟨d, d', hd, he, rfl⟩
  · cases e
theorem cmp_ok (S : Sim K mg w h) (ru : RelU K w u x) (rv : RelU K w v y) (o : Co) {b : Bool} (e : cmpop o u v h = some b) (q : Q (.bl b) w.H) : rCmp K o x y w.H Q := by
  have seqs : ∀ {xs : List U} {ds : List PyData}, v = .tup xs → mapO (U.dat h DD) xs = some ds → Dp K w.H y (.list ds) ∨ Dp K w.H y (.tuple ds) := fun {xs ds} hv hs => by
    subst hv
    obtain ⟨a, vs, rfl, t, r⟩ := rv
    exact .inr (.tup t.sq (mapO_dp (fun u v d => dat_dp S DD u v d) r hs))
  have refs : ∀ {a : Nat} {xs : List U} {ds : List PyData}, v = .ref a → getL h a = some xs → mapO (U.dat h DD) xs = some ds → Dp K w.H y (.list ds) ∨ Dp K w.H y (.tuple ds) := fun {a xs ds} hv hg hs => by
    subst hv
    obtain ⟨_, rfl⟩ := rv
    obtain ⟨_, vs, s, r⟩ := getL_rel S hg
    exact .inl (.lst s (mapO_dp (fun u v d => dat_dp S DD u v d) r hs))
  cases o with
  | eq =>
    obtain ⟨d, d', h1, h2, rfl⟩ := eq_of e
    exact cmp_dat S ru rv h1 h2 trivial q
  | ne =>
    cases e1 : eqU h u v with
    | none => simp only [cmpop, e1] at e; cases e
    | some c =>
      simp only [cmpop, e1] at e
      cases e
      obtain ⟨d, d', h1, h2, rfl⟩ := eq_of e1
      exact cmp_dat S ru rv h1 h2 trivial q
  | lt => exact ord_ok S ru rv e q
  | gt => exact ord_ok S ru rv e q
  | le => exact ord_ok S ru rv e q
  | ge => exact ord_ok S ru rv e q
  | is_ =>
    simp only [cmpop] at e
    split at e
    · rename_i hv
      subst hv
      cases rv
      cases e
      exact ⟨rfl, by rw [relU_non ru]; exact q⟩
    · cases e
  | isnot =>
    simp only [cmpop] at e
    split at e
    · rename_i hv
      subst hv
      cases rv
      cases e
      exact ⟨rfl, by rw [relU_non ru]; exact q⟩
    · cases e
  | in_ =>
    cases v with
    | tup xs => exact in_ok S ru (fun ds => seqs rfl) e (by rw [Bool.false_xor]; exact q)
    | ref a =>
      cases e1 : getL h a with
      | none => simp only [cmpop, e1] at e; cases e
      | some xs =>
        simp only [cmpop, e1] at e
        exact in_ok S ru (fun ds => refs rfl e1) e (by rw [Bool.false_xor]; exact q)
    | _ => cases e
  | notin =>
    cases v with
    | tup xs =>
      cases e2 : inU h u xs with
      | none => simp only [cmpop, e2] at e; cases e
      | some c =>
        simp only [cmpop, e2] at e
        cases e
        exact in_ok S ru (fun ds => seqs rfl) e2 (by rw [Bool.true_xor]; exact q)
    | ref a =>
      cases e1 : getL h a with
      | none => simp only [cmpop, e1] at e; cases e
      | some xs =>
        cases e2 : inU h u xs with
        | none => simp only [cmpop, e1, e2] at e; cases e
        | some c =>
          simp only [cmpop, e1, e2] at e
          cases e
          exact in_ok S ru (fun ds => refs rfl e1) e2 (by rw [Bool.true_xor]; exact q)
    | _ => cases e
/-! ### subscripts, slices -/
theorem RelUs.atI {us : List U} {vs : List V} {i : Int} {u : U} (r : RelUs K w us vs) (e : L2.atI us i = some u) : ∃ v, L2.atI vs i = some v ∧ RelU K w u v := by
  unfold L2.atI at e ⊢
  rw [r.length] at e
  cases e1 : ixN vs.length i with
  | none => rw [e1] at e; cases e
  | some j =>
    rw [e1] at e
    obtain ⟨v, h1, h2⟩ := r.get e
    exact ⟨v, h1, h2⟩
def rSub (K : PySem.W.Frag) : R2 := fun x y H Q => rIxL K x y H Q ∨ rIxT K x y H Q
theorem ix_sub {X : Cx} : IxR X (rSub X.K) := ix_list.or ix_tup
theorem sub_ok (S : Sim K mg w h) (ru : RelU K w u x) (rv : RelU K w v y) {z : U} (e : subop u v h = some z) (q : OutG K mg (RelU K) W σ w Q (.ok z h)) : rSub K x y w.H Q := by
  cases v with
  | int i =>
    cases rv
    cases u with
    | tup xs =>
      obtain ⟨a, vs, rfl, t, r⟩ := ru
      obtain ⟨v, h1, h2⟩ := r.atI e
      exact .inr ⟨a, vs, i, v, rfl, rfl, t.sq, h1, q.here S h2⟩
    | ref a =>
      obtain ⟨_, rfl⟩ := ru
      cases e1 : getL h a with
      | none => simp only [subop, e1] at e; cases e
      | some xs =>
        simp only [subop, e1] at e
        obtain ⟨_, vs, s, r⟩ := getL_rel S e1
        obtain ⟨v, h1, h2⟩ := r.atI e
        exact .inl ⟨_, vs, i, v, rfl, rfl, s, h1, q.here S h2⟩
    | _ => cases e
  | _ => cases u <;> cases e
theorem RelUs.cut {us : List U} {vs : List V} (r : RelUs K w us vs) (lo hi : Option Int) : RelUs K w (cutU us lo hi) (L2.cutV vs lo hi) := by
  unfold cutU L2.cutV
  rw [r.length]
  exact (r.drop _).take _
def rSlc (K : PySem.W.Frag) : V → Option Int → Option Int → Hp → VK → Prop := fun x lo hi H Q => rSlA K x lo hi H Q ∨ rSlL K x lo hi H Q
theorem sl_slc {X : Cx} : SlR X (rSlc X.K) := sl_tupA.or sl_list
theorem slc_ok (S : Sim K mg w h) (ru : RelU K w u x) {lo hi : Option Int} (q : OutG K mg (RelU K) W σ w Q (slcop u lo hi h)) : rSlc K x lo hi w.H Q := by
  unfold slcop at q
  cases u with
  | tup xs =>
    obtain ⟨a, vs, rfl, t, r⟩ := ru
    refine .inl ⟨a, vs, rfl, t.sq, fun e => ?_, fun _ => q.newT S (r.cut lo hi)⟩
    have : cutU xs lo hi = xs := by
      unfold cutU
      rw [r.length, e.1, e.2, List.drop_zero, Nat.sub_zero, ← r.length, List.take_length]
    simp only [this] at q
    exact q.here S ⟨a, vs, rfl, t, r⟩
  | ref a =>
    obtain ⟨_, rfl⟩ := ru
    cases e1 : getL h a with
    | none => simp only [e1] at q; exact q.elim
    | some xs =>
      simp only [e1] at q
      obtain ⟨_, vs, s, r⟩ := getL_rel S e1
      exact .inr ⟨_, vs, rfl, s, q.new S rfl fun p w' E e => ⟨_, e, (r.cut lo hi).mono E⟩⟩
  | _ => exact q.elim
end
end Pl

namespace Pl
open PySem PySem.Spec PyProof.Rows L2
/-! ### sorted, over data -/
def rSortP (K : PySem.W.Frag) : List V → Hp → VK → Prop := fun vs H Q => ∃ (a : Addr) (ys : List V) (ds : List PyData), vs = [V.ref a] ∧ SqL K H a ys ∧ DpAll K H ys ds ∧ srtOk ds = true ∧ (∀ d, d ∈ ds → d.depth ≤ 100) ∧
  ∀ p, H p = none → Q (.ref p) (upd H p (.lst (((ys.zip ds).mergeSort (PySem.W.dataLe false (·.2))).map (·.1))))
section
variable {X : Cx}
theorem dps_len {K : PySem.W.Frag} {H : Hp} : ∀ {ys : List V} {ds : List PyData}, DpAll K H ys ds → ys.length = ds.length
  | _, _, .nil => rfl
  | _, _, .cons _ t => congrArg Nat.succ (dps_len t)
theorem vals_zip {β : Type} : ∀ {ys : List V} {bs : List β} {us : List Value}, ys.length = bs.length → Vals ys us → PySem.W.EachIs (fun (u : Value) (b : V × β) => RelV b.1 u) us (ys.zip bs)
  | [], _, _, _, .nil => .nil
  | _ :: _, _ :: _, _, h, .cons r t => .cons r (vals_zip (Nat.succ.inj h) t)
theorem each_vals {β : Type} : ∀ {us : List Value} {bs : List (V × β)}, PySem.W.EachIs (fun (u : Value) (b : V × β) => RelV b.1 u) us bs → Vals (bs.map (·.1)) us
  | _, _, .nil => .nil
  | _, _, .cons r t => .cons r (each_vals t)
theorem zip_reads {pins : List (Addr × Obj)} {σ : L2.St} {H : Hp} {s : Shared} (I : Inv X pins σ H s) : ∀ {ys : List V} {ds : List PyData} {us : List Value}, DpAll X.K H ys ds → Vals ys us →
    PySem.W.EachIs (fun (u : Value) (b : V × PyData) => ∃ as, Reads s.heap u b.2 as) us (ys.zip ds)
  | _, _, _, .nil, .nil => .nil
  | _, _, _, .cons h t, .cons r q => .cons (Dp.reads I _ _ _ h r) (zip_reads I t q)
theorem srt_alike {ds : List PyData} (h : srtOk ds = true) : PySem.W.AllAlike ds := fun d hd e he => by
  unfold srtOk at h
  exact List.all_eq_true.mp (List.all_eq_true.mp (Bool.and_eq_true_iff.mp h).1 d hd) e he
theorem srt_sortable {ds : List PyData} (h : srtOk ds = true) : PySem.W.Sortable ds := by
  unfold srtOk at h
  rcases Bool.or_eq_true_iff.mp (Bool.and_eq_true_iff.mp h).2 with q | q
  · refine .inl fun d hd => ?_
    have := List.all_eq_true.mp q d hd
    cases d with
    | tuple xs =>
      cases xs with
      | nil => cases this
      | cons x r => exact ⟨x, r, rfl⟩
    | _ => cases this
  · refine .inr fun d hd => ?_
    have := List.all_eq_true.mp q d hd
    cases d with
    | none => cases this
    | tuple xs => cases this
    | _ => exact ⟨(fun z => nomatch z), (fun xs z => nomatch z)⟩
theorem zip_snd {ys : List V} {ds : List PyData} (h : ys.length = ds.length) : (ys.zip ds).map (fun p => p.2) = ds := List.map_snd_zip (by omega)
theorem cr_sortP (hu : X.A.units + 103 < cLine) : CallR X (.builtin "sorted") (rSortP X.K) := by
  intro pins s σ H vs us Q I r h
  obtain ⟨a, ys, ds, rfl, hs, hd, hk, hz, q⟩ := h
  obtain ⟨its, rv, hl, hlen⟩ := I.list hs
  rw [Vals.ref1 r]
  have el := dps_len hd
  refine PySem.W.sorted_data (bs := ys.zip ds) (enc := fun p => p.2) hl.isList (vals_zip el rv) (zip_reads I hd rv) (by rw [zip_snd el]; exact srt_alike hk) (by rw [zip_snd el]; exact srt_sortable hk) ?_ (fun b hb => ?_) fun out h1 h2 => ?_
  · rw [List.length_zip, ← el, Nat.min_self]; exact hlen
  · have := hz b.2 (List.of_mem_zip hb).2
    omega
  · obtain ⟨ep, he'⟩ := PyProof.Rows.sortedAll_at s.heap its (List.toArray out)
    refine ⟨.ref _, upd H (s.heap.objs.size + 1) (.lst (((ys.zip ds).mergeSort (PySem.W.dataLe false (·.2))).map (·.1))), I.laid (t' := s.toks) (fun _ _ => PyProof.Rows.sortedAll_old) (Nat.le_succ _) ⟨?_, out, ep, each_vals h2, he'⟩, rfl, q _ (I.hok.fresh (Nat.le_succ _))⟩
    rw [List.length_map, List.length_mergeSort, List.length_zip, ← el, Nat.min_self]; exact hlen
/-! ### list.remove of data -/
def rRemP (K : PySem.W.Frag) : V → List V → Hp → VK → Prop := fun x vs H Q => ∃ l xs y d ds j, x = .ref l ∧ vs = [y] ∧ H l = some (.lst xs) ∧ Dp K H y d ∧ DpAll K H xs ds ∧ d.depth ≤ 100 ∧ (ds.findIdx? fun z => PyData.eqv z d) = some j ∧
  Q .non (upd H l (.lst (xs.eraseIdx j)))
theorem mt_remP (hu : X.A.units + 102 < cLine) : MtR X "list.remove" (rRemP X.K) := by
  intro pins s σ H x vs v us Q I rx rv h
  obtain ⟨l, xs, y, d, ds, j, rfl, rfl, hH, hd, hs, hz, hj, q⟩ := h
  cases rx
  obtain ⟨u, rfl, ru⟩ := rv.one
  obtain ⟨z, its, n, r, hl, e⟩ := I.lstM hH
  obtain ⟨as, r1⟩ := Dp.readsAll I ds xs its hs r
  obtain ⟨bs, r2⟩ := Dp.reads I d y u hd ru
  refine PySem.SeqAt.remove_list_data (vs := its.toArray) (xs := ds) (d := d) (j := j) ⟨_, e, rfl, _, rfl⟩ r1 r2 (dps_plain hs) (dp_plain hd) (min_room1 hu hz) hj (by rw [List.size_toArray]; omega) ?_
  refine ⟨.non, _, I.lset (its' := its.eraseIdx j) hH e (by simp) (r.eraseIdx j) ?_, rfl, q⟩
  exact Nat.le_trans (len_erase xs j) z
end
/-! ### built-ins -/
def biVal : Bi → Value
  | .len => .builtin "len" | .max => .builtin "max" | .min => .builtin "min" | .abs => .builtin "abs" | .int => .type "int" | .str => .type "str" | .sorted => .builtin "sorted" | .all => .builtin "all" | .any => .builtin "any"
  | .sum => .builtin "sum" | .list => .type "list" | .tuple => .type "tuple"
def biName : Bi → Str
  | .len => "len" | .max => "max" | .min => "min" | .abs => "abs" | .int => "int" | .str => "str" | .sorted => "sorted" | .all => "all" | .any => "any" | .sum => "sum" | .list => "list" | .tuple => "tuple"
def rBi (K : PySem.W.Frag) : Bi → List V → Hp → VK → Prop
  | .len => fun xs H Q => ∃ x n, xs = [x] ∧ LenV K x H n ∧ Q (.int n) H
  | .max => fun xs H Q => ∃ i j, xs = [.int i, .int j] ∧ Q (.int (if j > i then j else i)) H
  | .min => fun xs H Q => ∃ i j, xs = [.int i, .int j] ∧ Q (.int (if j < i then j else i)) H
  | .abs => fun xs H Q => ∃ i, xs = [.int i] ∧ Q (.int (if i < 0 then -i else i)) H
  | .int => fun xs H Q => (∃ i, xs = [.int i] ∧ Q (.int i) H) ∨ ∃ k, xs = [.bl k] ∧ Q (.int (if k then 1 else 0)) H
  | .sorted => rSortP K
  | .all => rAll K
  | .any => rAny K
  | .list => fun xs H Q => ∃ p ys, xs = [.ref p] ∧ (SqL K H p ys ∨ SqT K H p ys) ∧ ∀ l, H l = none → Q (.ref l) (upd H l (.lst ys))
  | .tuple => fun xs H Q => ∃ p ys, xs = [.ref p] ∧ ((SqL K H p ys ∧ ∀ l, H l = none → Q (.ref l) (upd H l (.tup ys))) ∨ (SqT K H p ys ∧ Q (.ref p) H))
  | _ => fun _ _ _ => False
theorem call_bi {X : Cx} (hu : X.A.units + 103 < cLine) (b : Bi) (hc : X.calm = true ∨ b = .int) : CallR X (biVal b) (rBi X.K b) := by
  have hc' : b ≠ .int → X.calm = true := fun h => hc.elim id fun z => absurd z h
  cases b
  case len => exact call_len
  case max => exact call_max2 (hc' (by decide))
  case min => exact call_min2 (hc' (by decide))
  case abs => exact call_abs
  case int => exact call_int1
  case sorted => exact cr_sortP hu
  case all => exact cr_all (hc' (by decide))
  case any => exact cr_any (hc' (by decide))
  case list => exact call_list_of
  case tuple => exact call_tuple_of
  case str => exact fun _ _ _ _ _ _ _ _ _ h => h.elim
  case sum => exact fun _ _ _ _ _ _ _ _ _ h => h.elim
section
variable {K : PySem.W.Frag} {mg : Str → Option Value} {W : WX} {σ : L2.St} {w : Wd} {h : AH} {Q : V → Hp → Prop} {x y : V} {u v : U} {us : List U} {vs : List V}
theorem seqU_rel (S : Sim K mg w h) (r : RelU K w u x) {xs : List U} (e : seqU h u = some xs) : ∃ p ys, x = .ref p ∧ ((∃ n, u = .ref n ∧ SqL K w.H p ys) ∨ (u = .tup xs ∧ SqT K w.H p ys)) ∧ RelUs K w xs ys := by
  cases u with
  | tup ys => cases e; obtain ⟨a, vs, rfl, t, r⟩ := r; exact ⟨a, vs, rfl, .inr ⟨rfl, t.sq⟩, r⟩
  | ref n =>
    obtain ⟨_, rfl⟩ := r
    obtain ⟨_, vs, s, r⟩ := getL_rel S e
    exact ⟨_, vs, rfl, .inl ⟨n, rfl, s⟩, r⟩
  | _ => cases e
theorem bls_rel : ∀ {us : List U} {vs : List V} {bs : List Bool}, RelUs K w us vs → blsU us = some bs → vs = bs.map V.bl
  | [], _, bs, r, e => by cases e; cases r; rfl
  | u :: us, _, bs, ⟨v, ws, h1, h2, h3⟩, e => by
    subst h1
    unfold blsU mapO at e
    cases u with
    | bl b =>
      simp only at e
      cases e2 : blsU us with
      | none => unfold blsU at e2; rw [e2] at e; cases e
      | some cs =>
        have q := bls_rel h3 e2
        unfold blsU at e2
        rw [e2] at e
        cases e
        cases h2
        rw [q] <;> rfl
    | _ => cases e
theorem rel_key {f : U → PyData} : ∀ {us : List U} {vs : List V} {ds : List PyData}, us.length = vs.length → ds = us.map f → ((us.zip vs).map fun p => (p.2, f p.1)) = vs.zip ds
  | [], [], _, _, e => by subst e; rfl
  | u :: us, v :: vs, _, h, e => by
    subst e
    exact congrArg (List.cons (v, f u)) (rel_key (f := f) (ds := us.map f) (Nat.succ.inj h) rfl)
theorem rel_of_zip {us : List U} {vs : List V} : ∀ {ps : List (U × V)}, (∀ p, p ∈ ps → RelU K w p.1 p.2) → RelUs K w (ps.map (·.1)) (ps.map (·.2))
  | [], _ => rfl
  | p :: ps, h => ⟨p.2, _, rfl, h p List.mem_cons_self, rel_of_zip (us := us) (vs := vs) fun q hq => h q (List.mem_cons_of_mem _ hq)⟩
theorem zip_rel : ∀ {us : List U} {vs : List V}, RelUs K w us vs → ∀ p, p ∈ us.zip vs → RelU K w p.1 p.2
  | [], _, _, p, hp => by cases hp
  | _ :: _, _, ⟨v, ws, h1, h2, h3⟩, p, hp => by
    subst h1
    rcases List.mem_cons.mp hp with rfl | hp
    · exact h2
    · exact zip_rel h3 p hp
theorem mapO_map {f : U → Option PyData} : ∀ {us : List U} {ds : List PyData}, mapO f us = some ds → ds = us.map fun u => (f u).getD .none
  | [], _, e => by cases e; rfl
  | u :: us, ds, e => by
    unfold mapO at e
    cases e1 : f u with
    | none => rw [e1] at e; cases e
    | some d =>
      rw [e1] at e
      cases e2 : mapO f us with
      | none => rw [e2] at e; cases e
      | some es =>
        rw [e2] at e; cases e
        rw [List.map_cons, e1, ← mapO_map e2]
        rfl
/-- the two sorted lists agree -/
theorem sort_rel (r : RelUs K w us vs) {ds : List PyData} (e : mapO (U.dat h DD) us = some ds) : RelUs K w (sortU h us) (((vs.zip ds).mergeSort (PySem.W.dataLe false (·.2))).map (·.1)) := by
  have ed := mapO_map e
  have el := r.length
  have k1 : (vs.zip ds) = (us.zip vs).map fun p => (p.2, keyD h p.1) := (rel_key (f := keyD h) el ed).symm
  have k2 : (us.zip vs).map (·.1) = us := List.map_fst_zip (by omega)
  have s1 : ((us.zip vs).mergeSort fun p q => PySem.W.dataLe false (keyD h) p.1 q.1).map (fun p => (p.2, keyD h p.1)) = ((us.zip vs).map fun p => (p.2, keyD h p.1)).mergeSort (PySem.W.dataLe false (·.2)) :=
    List.map_mergeSort fun a _ b _ => rfl
  have s2 : ((us.zip vs).mergeSort fun p q => PySem.W.dataLe false (keyD h) p.1 q.1).map (fun p => p.1) = ((us.zip vs).map fun p => p.1).mergeSort (PySem.W.dataLe false (keyD h)) :=
    List.map_mergeSort fun a _ b _ => rfl
  rw [k1, ← s1, List.map_map]
  have e3 : sortU h us = ((us.zip vs).mergeSort fun p q => PySem.W.dataLe false (keyD h) p.1 q.1).map (fun p => p.1) := by
    rw [s2, k2]; rfl
  rw [e3]
  exact rel_of_zip (us := us) (vs := vs) fun p hp => zip_rel r p ((List.mergeSort_perm _ _).mem_iff.mp hp)
theorem bi_ok (S : Sim K mg w h) (r : RelUs K w us vs) (b : Bi) (q : OutG K mg (RelU K) W σ w Q (biop b us h)) : rBi K b vs w.H Q := by
  have one : ∀ {u : U} {z : Rs U}, us = [u] → ∃ v, vs = [v] ∧ RelU K w u v := fun {u z} e => by subst e; exact r.one
  cases b with
  | len =>
    cases us with
    | nil => exact q.elim
    | cons u us =>
      cases us with
      | cons u' us => cases u <;> exact q.elim
      | nil =>
        obtain ⟨v, rfl, rv⟩ := r.one
        by_cases hs : ∃ s, u = .str s
        · obtain ⟨s, rfl⟩ := hs
          cases rv
          simp only [biop] at q
          split at q
          · rename_i hz
            exact ⟨_, s.length, rfl, ⟨hz, rfl⟩, q.here S rfl⟩
          · exact q.elim
        · have eb : biop .len [u] h = match seqU h u with
            | some xs => .ok (.int xs.length) h
            | none => .bad := by
            cases u with
            | str s => exact absurd ⟨s, rfl⟩ hs
            | _ => rfl
          rw [eb] at q
          cases e : seqU h u with
          | none => rw [e] at q; exact q.elim
          | some xs =>
            rw [e] at q
            obtain ⟨p, ys, rfl, hq, rr⟩ := seqU_rel S rv e
            refine ⟨_, ys.length, rfl, ?_, by rw [← rr.length]; exact q.here S rfl⟩
            rcases hq with ⟨_, _, s⟩ | ⟨_, s⟩
            · exact .inl ⟨ys, s, rfl⟩
            · exact .inr ⟨ys, s, rfl⟩
  | max =>
    cases us with
    | nil => exact q.elim
    | cons u us =>
      cases us with
      | nil => cases u <;> exact q.elim
      | cons u' us =>
        cases us with
        | cons _ _ => cases u <;> first | exact q.elim | (cases u' <;> exact q.elim)
        | nil =>
          cases u with
          | int i =>
            cases u' with
            | int j =>
              obtain ⟨v, v', rfl, r1, r2⟩ := r.two
              cases r1; cases r2
              exact ⟨i, j, rfl, q.here S rfl⟩
            | _ => exact q.elim
          | _ => cases u' <;> exact q.elim
  | min =>
    cases us with
    | nil => exact q.elim
    | cons u us =>
      cases us with
      | nil => cases u <;> exact q.elim
      | cons u' us =>
        cases us with
        | cons _ _ => cases u <;> first | exact q.elim | (cases u' <;> exact q.elim)
        | nil =>
          cases u with
          | int i =>
            cases u' with
            | int j =>
              obtain ⟨v, v', rfl, r1, r2⟩ := r.two
              cases r1; cases r2
              exact ⟨i, j, rfl, q.here S rfl⟩
            | _ => exact q.elim
          | _ => cases u' <;> exact q.elim
  | abs =>
    cases us with
    | nil => exact q.elim
    | cons u us =>
      cases us with
      | cons _ _ => cases u <;> exact q.elim
      | nil =>
        cases u with
        | int i => obtain ⟨v, rfl, rv⟩ := r.one; cases rv; exact ⟨i, rfl, q.here S rfl⟩
        | _ => exact q.elim
  | int =>
    cases us with
    | nil => exact q.elim
    | cons u us =>
      cases us with
      | cons _ _ => cases u <;> exact q.elim
      | nil =>
        cases u with
        | int i => obtain ⟨v, rfl, rv⟩ := r.one; cases rv; exact .inl ⟨i, rfl, q.here S rfl⟩
        | bl k => obtain ⟨v, rfl, rv⟩ := r.one; cases rv; exact .inr ⟨k, rfl, q.here S rfl⟩
        | _ => exact q.elim
  | sorted =>
    cases us with
    | nil => exact q.elim
    | cons u us =>
      cases us with
      | cons _ _ => cases u <;> exact q.elim
      | nil =>
        cases u with
        | ref a =>
          obtain ⟨v, rfl, rv⟩ := r.one
          obtain ⟨_, rfl⟩ := rv
          simp only [biop] at q
          cases e1 : getL h a with
          | none => rw [e1] at q; exact q.elim
          | some xs =>
            rw [e1] at q
            simp only at q
            cases e2 : mapO (U.dat h DD) xs with
            | none => rw [e2] at q; exact q.elim
            | some ds =>
              rw [e2] at q
              simp only at q
              split at q
              · rename_i hk
                obtain ⟨_, ys, s, rr⟩ := getL_rel S e1
                refine ⟨_, ys, ds, rfl, s, mapO_dp (fun u v d => dat_dp S DD u v d) rr e2, hk, fun d hd => ?_, ?_⟩
                · obtain ⟨x, _, hx⟩ := mapO_mem e2 hd
                  exact dat_100 hx
                · exact q.new S rfl fun p w' E e => ⟨_, e, (sort_rel rr e2).mono E⟩
              · exact q.elim
        | _ => exact q.elim
  | all =>
    cases us with
    | nil => exact q.elim
    | cons u us =>
      cases us with
      | cons _ _ => cases u <;> exact q.elim
      | nil =>
        cases u with
        | ref a =>
          obtain ⟨v, rfl, rv⟩ := r.one
          obtain ⟨_, rfl⟩ := rv
          simp only [biop] at q
          cases e1 : getL h a with
          | none => rw [e1] at q; exact q.elim
          | some xs =>
            rw [e1] at q
            simp only at q
            cases e2 : blsU xs with
            | none => rw [e2] at q; exact q.elim
            | some bs =>
              rw [e2] at q
              obtain ⟨_, ys, s, rr⟩ := getL_rel S e1
              have := bls_rel rr e2
              subst this
              exact ⟨_, bs, rfl, s, q.here S rfl⟩
        | _ => exact q.elim
  | any =>
    cases us with
    | nil => exact q.elim
    | cons u us =>
      cases us with
      | cons _ _ => cases u <;> exact q.elim
      | nil =>
        cases u with
        | ref a =>
          obtain ⟨v, rfl, rv⟩ := r.one
          obtain ⟨_, rfl⟩ := rv
          simp only [biop] at q
          cases e1 : getL h a with
          | none => rw [e1] at q; exact q.elim
          | some xs =>
            rw [e1] at q
            simp only at q
            cases e2 : blsU xs with
            | none => rw [e2] at q; exact q.elim
            | some bs =>
              rw [e2] at q
              obtain ⟨_, ys, s, rr⟩ := getL_rel S e1
              have := bls_rel rr e2
              subst this
              exact ⟨_, bs, rfl, s, q.here S rfl⟩
        | _ => exact q.elim
  | list =>
    cases us with
    | nil => exact q.elim
    | cons u us =>
      cases us with
      | cons _ _ => cases u <;> exact q.elim
      | nil =>
        obtain ⟨v, rfl, rv⟩ := r.one
        simp only [biop] at q
        cases e : seqU h u with
        | none => rw [e] at q; exact q.elim
        | some xs =>
          rw [e] at q
          obtain ⟨p, ys, rfl, hq, rr⟩ := seqU_rel S rv e
          refine ⟨p, ys, rfl, ?_, q.new S rfl fun p w' E e => ⟨_, e, rr.mono E⟩⟩
          rcases hq with ⟨_, _, s⟩ | ⟨_, s⟩
          · exact .inl s
          · exact .inr s
  | tuple =>
    cases us with
    | nil => exact q.elim
    | cons u us =>
      cases us with
      | cons _ _ => cases u <;> exact q.elim
      | nil =>
        obtain ⟨v, rfl, rv⟩ := r.one
        simp only [biop] at q
        cases e : seqU h u with
        | none => rw [e] at q; exact q.elim
        | some xs =>
          rw [e] at q
          obtain ⟨p, ys, rfl, hq, rr⟩ := seqU_rel S rv e
          refine ⟨p, ys, rfl, ?_⟩
          rcases hq with ⟨_, _, s⟩ | ⟨rfl, s⟩
          · exact .inl ⟨s, q.newT S rr⟩
          · exact .inr ⟨s, q.here S rv⟩
  | str => exact q.elim
  | sum => exact q.elim
end
end Pl

namespace Pl
open PySem PySem.Spec PyProof.Rows L2
/-! ### methods of lists -/
def lmId : Nm → Option String
  | .append => some "list.append" | .reverse => some "list.reverse" | .pop => some "list.pop" | .insert => some "list.insert" | .remove => some "list.remove" | _ => none
def rMt (K : PySem.W.Frag) : Nm → V → List V → Hp → VK → Prop
  | .append => rAppend
  | .reverse => rReverse
  | .pop => rPopAt
  | .insert => fun x vs H Q => ∃ (l : Addr) (xs : List V) (i : Int) (y : V), x = .ref l ∧ vs = [.int i, y] ∧ H l = some (.lst xs) ∧ xs.length < sizeLine ∧ 0 ≤ i ∧ i < 2 ^ 63 ∧ Q .non (upd H l (.lst (xs.take i.toNat ++ [y] ++ xs.drop i.toNat)))
  | .remove => rRemP K
  | _ => fun _ _ _ _ => False
structure LMt (X : Cx) (m : Nm) (id : String) : Prop where
  slot : Slot "list" (nstr m) id
  ty : typeOf (.builtin id) = pure (.type "method_descriptor")
  run : MtR X id (rMt X.K m)
theorem lm_ok {X : Cx} (hu : X.A.units + 102 < cLine) {m : Nm} {id : String} (e : lmId m = some id) : LMt X m id := by
  cases m
  case append => cases e; exact ⟨PySem.F.slot_list_append, PySem.F.type_list_append, mt_append⟩
  case reverse => cases e; exact ⟨PySem.F.slot_list_reverse, PySem.F.type_list_reverse, mt_reverse⟩
  case pop => cases e; exact ⟨PySem.F.slot_list_pop, PySem.F.type_list_pop, mt_popAt⟩
  case insert => cases e; exact ⟨PySem.F.slot_list_insert, PySem.F.type_list_insert, mt_insert⟩
  case remove => cases e; exact ⟨PySem.F.slot_list_remove, PySem.F.type_list_remove, mt_remP hu⟩
  all_goals cases e
section
variable {K : PySem.W.Frag} {mg : Str → Option Value} {W : WX} {σ : L2.St} {w : Wd} {h : AH} {Q : V → Hp → Prop} {us : List U} {vs : List V} {a : Nat}
/-- None, and a list is another one -/
theorem OutG.wr {xs ys : List U} {zs : List V} {u : U} {v : V} (o : OutG K mg (RelU K) W σ w Q (.ok u (h.set a (.lst ys)))) (S : Sim K mg w h) (e : h[a]? = some (.lst xs)) (r : RelUs K w ys zs) (ru : RelU K w u v) : Q v (upd w.H (w.μ a) (.lst zs)) := by
  obtain ⟨S2, E2⟩ := S.write (o' := .lst ys) (ho := .lst zs) e rfl rfl fun w' E q => ⟨zs, q, r.mono E⟩
  exact o _ v S2 E2 (ru.mono E2)
theorem mt_ok (S : Sim K mg w h) (r : RelUs K w us vs) (m : Nm) (ha : a < w.N) (q : OutG K mg (RelU K) W σ w Q (mtL m a us h)) : rMt K m (.ref (w.μ a)) vs w.H Q := by
  unfold mtL at q
  cases e : getM h a with
  | none => rw [e] at q; exact q.elim
  | some xs =>
    rw [e] at q
    simp only at q
    obtain ⟨_, ys, hy, ry⟩ := getM_rel S e
    have ea := getM_at e
    cases m
    case append =>
      cases us with
      | nil => exact q.elim
      | cons u us =>
        cases us with
        | cons _ _ => exact q.elim
        | nil =>
          obtain ⟨v, rfl, rv⟩ := r.one
          simp only at q
          split at q
          · rename_i hz
            refine ⟨_, ys, v, rfl, rfl, hy, ?_, q.wr S ea (ry.append (.cons rv .nil)) rfl⟩
            rw [← ry.length]; exact hz
          · exact q.elim
    case reverse =>
      cases us with
      | cons _ _ => exact q.elim
      | nil =>
        cases r
        exact ⟨_, ys, rfl, rfl, hy, q.wr S ea ry.reverse rfl⟩
    case pop =>
      cases us with
      | nil => exact q.elim
      | cons u us =>
        cases us with
        | cons _ _ => cases u <;> exact q.elim
        | nil =>
          cases u with
          | int i =>
            obtain ⟨v, rfl, rv⟩ := r.one
            cases rv
            simp only at q
            split at q
            · rename_i hi
              cases e1 : L2.ixN xs.length i with
              | none => rw [e1] at q; exact q.elim
              | some k =>
                rw [e1] at q
                simp only at q
                cases e2 : xs[k]? with
                | none => rw [e2] at q; exact q.elim
                | some y =>
                  rw [e2] at q
                  obtain ⟨z, hz, rz⟩ := ry.get e2
                  rw [ry.length] at e1
                  exact ⟨_, ys, i, k, z, rfl, rfl, hy, hi.1, hi.2, (ixN_seq e1).1, hz, q.wr S ea (ry.eraseIdx k) rz⟩
            · exact q.elim
          | _ => exact q.elim
    case insert =>
      cases us with
      | nil => exact q.elim
      | cons u us =>
        cases us with
        | nil => cases u <;> exact q.elim
        | cons u' us =>
          cases us with
          | cons _ _ => cases u <;> exact q.elim
          | nil =>
            cases u with
            | int i =>
              obtain ⟨v, v', rfl, r1, r2⟩ := r.two
              cases r1
              simp only at q
              split at q
              · rename_i hi
                have hz : ys.length < sizeLine := by rw [← ry.length]; exact hi.2.2
                have hs : sizeLine = 16777216 := sizeLine_eq
                have hi2 := hi.2.1
                rw [ry.length] at hi2
                refine ⟨_, ys, i, v', rfl, rfl, hy, hz, hi.1, by omega, ?_⟩
                have rr : RelUs K w (xs.take i.toNat ++ u' :: xs.drop i.toNat) (ys.take i.toNat ++ [v'] ++ ys.drop i.toNat) := by
                  rw [List.append_assoc]
                  exact (ry.take _).append (.cons r2 (ry.drop _))
                exact q.wr S ea rr rfl
              · exact q.elim
            | _ => exact q.elim
    case remove =>
      cases us with
      | nil => exact q.elim
      | cons u us =>
        cases us with
        | cons _ _ => exact q.elim
        | nil =>
          obtain ⟨v, rfl, rv⟩ := r.one
          simp only at q
          cases e1 : u.dat h DD with
          | none => rw [e1] at q; exact q.elim
          | some d =>
            cases e2 : mapO (U.dat h DD) xs with
            | none => rw [e1, e2] at q; exact q.elim
            | some ds =>
              rw [e1, e2] at q
              simp only at q
              cases e3 : ds.findIdx? fun z => PyData.eqv z d with
              | none => rw [e3] at q; exact q.elim
              | some j =>
                rw [e3] at q
                exact ⟨_, ys, v, d, ds, j, rfl, rfl, hy, dat_dp S _ _ _ _ rv e1, mapO_dp (fun u v d => dat_dp S DD u v d) ry e2, dat_100 e1, e3, q.wr S ea (ry.eraseIdx j) rfl⟩
    all_goals exact q.elim
end
/-! ### what is known of the module -/
/-- what is known of a class of the program -/
structure CF (K : PySem.W.Frag) (C : Addr) : Prop where
  cls : Cls K C
  ga : PySem.W.findIn K (.ref C) "__class__" = some (some (.builtin "object.__class__"))
  gs : PySem.W.specialIn K (.builtin "object.__class__") "__get__" = some (some (.builtin "getset_descriptor.__get__"))
  tk : PySem.W.takesIn K (.builtin "object.__class__") = some true
  mro : PySem.W.mroIn K C (.type "object") = some true
/-- what is known of an exception class of the program -/
structure EF (K : PySem.W.Frag) (C : Addr) : Prop where
  keep : PySem.W.keepIn K (.ref C) = true
  exi : ∃ (bmB : List Value) (B newId initId : String), ExcBaseFacts B newId initId bmB ∧ PySem.W.excIn K C bmB newId = true
  sub : PySem.W.subIn K (.ref C) (.type "BaseException") = some true
  ty : PySem.W.typeIn K (.ref C) = some (.type "type")
  isc : ExcC K C
def tyVal (mg : Str → Option Value) : Ty → Option Value
  | .int => some (.type "int") | .bool => some (.type "bool") | .str => some (.type "str") | .tuple => some (.type "tuple") | .list => some (.type "list") | .dict => some (.type "dict")
  | .own c => mg (nstr c)
def bTys : List String := ["NoneType", "int", "bool", "str", "tuple", "list", "dict"]
structure Facts (P : Prog) (K : PySem.W.Frag) (mg : Str → Option Value) (A : Nm → Addr) (G : Nm → Bool) : Prop where
  bi : ∀ b, mg (biName b) = none
  isi : mg "isinstance" = none
  rng : mg "range" = none
  zip : mg "zip" = none
  tys : mg "dict" = none ∧ mg "bool" = none
  glob : ∀ f, G f = true → mg (nstr f) = some (.ref (A f)) ∧ PySem.W.keepIn K (.ref (A f)) = true
  meth : ∀ c m f, P.meth c m = some f → ∃ C, mg (nstr c) = some (.ref C) ∧ CF K C ∧ Meth K C (nstr m) (A f)
  init : ∀ c f, P.init c = some f → ∃ C, mg (nstr c) = some (.ref C) ∧ CF K C ∧ Mk K C (A f)
  flds : ∀ c f, (P.flds c).contains f = true → ∃ C, mg (nstr c) = some (.ref C) ∧ Cls K C ∧ NoAttr K C (nstr f)
  kitO : ∀ c d C D, (P.init c).isSome = true → mg (nstr c) = some (.ref C) → mg (nstr d) = some (.ref D) → CF K D → PySem.W.kitOne K (.ref C) (.ref D) = some (P.sub c d)
  kitT : ∀ c C T, (P.init c).isSome = true → mg (nstr c) = some (.ref C) → T ∈ bTys → PySem.W.kitOne K (.ref C) (.type T) = some false
  kitB : ∀ d D T, mg (nstr d) = some (.ref D) → CF K D → T ∈ bTys → PySem.W.kitOne K (.type T) (.ref D) = some false
  exc : ∀ c, P.exn c = true → ∃ C, mg (nstr c) = some (.ref C) ∧ EF K C
  exm : ∀ c d C D, P.exn c = true → P.exn d = true → mg (nstr c) = some (.ref C) → mg (nstr d) = some (.ref D) → PySem.W.exmOne K (.ref C) (.ref D) = some (P.sub c d)
  kitX : ∀ c d C D, P.exn c = true → P.exn d = true → mg (nstr c) = some (.ref C) → mg (nstr d) = some (.ref D) → PySem.W.kitOne K (.ref C) (.ref D) = some (P.sub c d)
  con : ∀ g u, P.con g = some u → ∃ v y, mg (nstr g) = some v ∧ RelV y v ∧ ∀ w, RelU K w u y
/-- the promise of a def -/
def spF (P : Prog) (K : PySem.W.Frag) (mg : Str → Option Value) (d : Nat) (f : Nm) : Sp := fun vs H Q E =>
  ∃ (w : Wd) (h : AH) (us : List U), w.H = H ∧ Sim K mg w h ∧ RelUs K w us vs ∧ (∃ F, P.fn f = some F ∧ us.length = F.n) ∧ OutG K mg (RelU K) (fun cls d _ H => E cls d H) [] w Q (call P d f us h)
structure FnF (P : Prog) (A : Nm → Addr) (X : Cx) (d : Nat) : Prop where
  ok : ∀ f F, P.fn f = some F → ∃ fd ps, FnOk X.prog X.w X.K X.mg X.base (L2.CX X.prog X.w) (2 * d) (A f) fd ps (spF P X.K X.mg d f) ∧ Binds X.K fd ps [] ∧ ps.length = F.n
section
variable {P : Prog} {A : Nm → Addr} {X : Cx} {d : Nat} {W : WX}
/-- a def's call by values -/
theorem run_f (F : FnF P A X d) (hr : Room (2 * d) X.A) (tk : Takes X W) {pins : List (Addr × Obj)} {σ : L2.St} {s : Shared} {Q : VK} {f : Nm} {F0 : Fn} {us : List U} {vs : List V} {rs : List Value} {w : Wd} {h : AH} (I : Inv X pins σ w.H s)
    (e : P.fn f = some F0) (S : Sim X.K X.mg w h) (r : RelUs X.K w us vs) (rv : Vals vs rs) (o : OutG X.K X.mg (RelU X.K) W σ w Q (call P d f us h)) : wpAny (model X.prog X.w) X.A (PySem.call (.ref (A f)) rs) (EP X pins σ Q) X.xe s := by
  obtain ⟨fd, ps, ok, hb, hl⟩ := F.ok f F0 e
  have hn : us.length = F0.n := by
    cases d with
    | zero => exact o.elim
    | succ d =>
      unfold Pl.call at o
      rw [e] at o
      simp only at o
      split at o
      · assumption
      · exact o.elim
  refine run_fnS (E := WE W) ok hr hb (passAt tk σ) I rv ⟨w, h, us, rfl, S, r, ⟨F0, e, hn⟩, ?_⟩
  cases e1 : Pl.call P d f us h with
  | ok u h' => rw [e1] at o; exact o
  | exc c fs h' => rw [e1] at o; exact o
  | bad => rw [e1] at o; exact o
end
end Pl

namespace Pl
open PySem PySem.Spec PyProof.Rows L2
/-! ### from the row's trees to the mini-language -/
inductive Gk where | fn (f : Nm) | cls (c : Nm) | con (g : Nm) | exc (c : Nm)
structure TC where
  gk : Str → Option Gk
  nm : Str → Option Nm
  sc : Scope
  N : List Str
  hv : Option Str
  asg : Str → Bool
def visB (sc : Scope) (x : Str) : Bool := match sc.names.lookup x with
  | some .local => true
  | some .cell => true
  | some .free => true
  | _ => false
def locB (sc : Scope) (x : Str) : Bool := match sc.names.lookup x with
  | some .local => true
  | some .cell => true
  | _ => false
def gloB (sc : Scope) (x : Str) : Bool := match sc.names.lookup x with
  | some .globalImplicit => true
  | _ => false
theorem visB_ok {sc : Scope} {x : Str} (h : visB sc x = true) : Vis sc x := by
  unfold visB at h
  split at h <;> first | exact .inl (by assumption) | exact .inr (.inl (by assumption)) | exact .inr (.inr (by assumption)) | cases h
theorem locB_ok {sc : Scope} {x : Str} (h : locB sc x = true) : L2.Loc sc x := by
  unfold locB at h
  split at h <;> first | exact .inl (by assumption) | exact .inr (by assumption) | cases h
theorem gloB_ok {sc : Scope} {x : Str} (h : gloB sc x = true) : sc.names.lookup x = some .globalImplicit := by
  unfold gloB at h
  split at h <;> first | assumption | cases h
def idxN : List Str → Str → Option Nat
  | [], _ => none
  | y :: ys, x => if x = y then some 0 else (idxN ys x).map (· + 1)
theorem idxN_ok : ∀ {N : List Str} {x : Str} {i : Nat}, idxN N x = some i → N[i]? = some x
  | [], _, _, h => by cases h
  | y :: ys, x, i, h => by
    unfold idxN at h
    split at h
    · rename_i e
      cases h
      rw [e]; rfl
    · cases e : idxN ys x with
      | none => rw [e] at h; cases h
      | some j => rw [e] at h; cases h; simpa using idxN_ok e
def plainN (x : Str) : Bool := !(x == "__debug__") && !(x == "__classdict__") && !(x == "__name__")
def boOf : Operator → Option Bo
  | .Add => some .add | .Sub => some .sub | .Mult => some .mul | .FloorDiv => some .div | .Mod => some .mod | .Pow => some .pow | _ => none
def coOf : CmpOp → Co
  | .Eq => .eq | .NotEq => .ne | .Lt => .lt | .LtE => .le | .Gt => .gt | .GtE => .ge | .Is => .is_ | .IsNot => .isnot | .In => .in_ | .NotIn => .notin
def allBi : List Bi := [.len, .max, .min, .abs, .int, .str, .sorted, .all, .any, .sum, .list, .tuple]
def biOf (x : Str) : Option Bi := allBi.find? fun b => biName b = x
theorem biOf_ok {x : Str} {b : Bi} (h : biOf x = some b) : biName b = x := by
  have := List.find?_some h
  simpa using this
def tyOf (c : TC) : Expr → Option Ty
  | .Name x _ => if (idxN c.N x).isNone && gloB c.sc x && plainN x then
      (if x = "int" then some .int else if x = "bool" then some .bool else if x = "str" then some .str else if x = "tuple" then some .tuple else if x = "list" then some .list else if x = "dict" then some .dict else
      match c.gk x with
      | some (.cls k) => some (.own k)
      | _ => none) else none
  | _ => none
def excOf (c : TC) : Expr → Option Nm
  | .Name x _ => if (idxN c.N x).isNone && gloB c.sc x && plainN x then match c.gk x with
      | some (.exc k) => some k
      | _ => none
    else none
  | _ => none
def notSlice : Expr → Bool
  | .Slice .. => false
  | _ => true
def notCall0 : Expr → Bool
  | .Call (.Name _ _) [] [] _ => false
  | _ => true
def slotOf (c : TC) (x : Str) : Option Nat := match idxN c.N x with
  | some i => if locB c.sc x && c.asg x && plainN x && !(c.hv == some x) then some i else none
  | none => none
def nameSlot (c : TC) : Expr → Option Nat
  | .Name x _ => slotOf c x
  | _ => none
def nameOf : Expr → Option Str
  | .Name x _ => some x
  | _ => none
def tgOf (c : TC) : Expr → Option Tg
  | .Name x _ => (slotOf c x).map .one
  | .Tuple es _ _ => (mapO (nameSlot c) es).map .tup
  | _ => none
def tgNames : Expr → List Str
  | .Name x _ => [x]
  | .Tuple es _ _ => es.filterMap nameOf
  | _ => []
def ownOf (N : List Str) (xs : List Str) : List (Str × Nat) := xs.filterMap fun x => (idxN N x).map fun i => (x, i)
def isIf : Expr → Bool
  | .IfExp .. => true
  | _ => false
def trB (f : Expr → Option E) (g : E → E → E) : List Expr → Option E
  | [] => none
  | [a] => f a
  | a :: b :: r => match f a, trB f g (b :: r) with
    | some x, some y => some (g x y)
    | _, _ => none
def trO (f : Expr → Option E) : Option Expr → Option (List E)
  | none => some []
  | some e => (f e).map fun e => [e]
def trIt (c : TC) (f : Expr → Option E) : Expr → Option (ItK × List E)
  | .Call (.Name x p) es [] q => if (idxN c.N x).isNone && gloB c.sc x && (x = "range" || x = "zip") then
      match es with
      | [a] => if x = "range" then (f a).map fun a => (.range1, [a]) else none
      | [a, b] => match f a, f b with
        | some a, some b => if x = "range" then some (.range2, [a, b]) else some (.zip, [a, b])
        | _, _ => none
      | _ => none
    else (f (.Call (.Name x p) es [] q)).map fun e => (.val, [e])
  | e => (f e).map fun e => (.val, [e])
def zipOk : ItK → Expr → Bool
  | .zip, .Tuple .. => true
  | .zip, _ => false
  | _, _ => true
def trE (c : TC) : Nat → Expr → Option E
  | 0, _ => none
  | n + 1, e => match e with
    | .Name x _ => match idxN c.N x with
      | some i => if visB c.sc x && plainN x && !(c.hv == some x) then some (.lc i) else none
      | none => if gloB c.sc x && plainN x then match c.gk x with
        | some (.con g) => some (.gl g)
        | _ => none
        else none
    | .Constant (.int i) _ _ => some (.cu (.int i))
    | .Constant (.bool b) _ _ => some (.cu (.bl b))
    | .Constant (.str s) _ _ => some (.cu (.str s))
    | .Constant .none _ _ => some (.cu .non)
    | .BinOp a o b _ => match boOf o, trE c n a, trE c n b with
      | some o, some a, some b => some (.bin o a b)
      | _, _, _ => none
    | .UnaryOp .Not a _ => if isIf a then none else (trE c n a).map .nt
    | .UnaryOp .USub a _ => (trE c n a).map .neg
    | .BoolOp .And vs _ => if vs.any isIf then none else trB (trE c n) .an vs
    | .BoolOp .Or vs _ => if vs.any isIf then none else trB (trE c n) .or vs
    | .Compare a [o] [b] _ => if behindInMarks o b = false then match trE c n a, trE c n b with
        | some a, some b => some (.cmp (coOf o) a b)
        | _, _ => none
      else none
    | .Compare a [o, p] [b, d] _ => if lastMarks [o, p] [b, d] = false then match trE c n a, trE c n b, trE c n d with
        | some a, some b, some d => some (.chain (coOf o) (coOf p) a b d)
        | _, _, _ => none
      else none
    | .IfExp t a b _ => if isIf t then none else match trE c n t, trE c n a, trE c n b with
      | some t, some a, some b => some (.ife t a b)
      | _, _, _ => none
    | .Call (.Name x _) es [] _ => if (idxN c.N x).isNone && gloB c.sc x && plainN x then
        if x = "isinstance" then match es with
          | [a, .Tuple ts _ _] => if 1000 < ts.length then none else match a with
            | .Name y _ => if c.hv = some y ∧ (idxN c.N y).isSome = true then (mapO (excOf c) ts).map .xisi else match trE c n a, mapO (tyOf c) ts with
              | some a, some ts => some (.isi a ts)
              | _, _ => none
            | _ => match trE c n a, mapO (tyOf c) ts with
              | some a, some ts => some (.isi a ts)
              | _, _ => none
          | [a, t] => match a with
            | .Name y _ => if c.hv = some y ∧ (idxN c.N y).isSome = true then (excOf c t).map fun t => .xisi [t] else match trE c n a, tyOf c t with
              | some a, some t => some (.isi a [t])
              | _, _ => none
            | _ => match trE c n a, tyOf c t with
              | some a, some t => some (.isi a [t])
              | _, _ => none
          | _ => none
        else match c.gk x with
          | some (.fn f) => if c.hv.isSome then none else (mapO (trE c n) es).map (.call f)
          | some (.cls k) => if c.hv.isSome then none else (mapO (trE c n) es).map (.new k)
          | some _ => none
          | none => match biOf x with
            | some b => if es.isEmpty || (c.hv.isSome && !decide (b = .int)) then none else (mapO (trE c n) es).map (.bi b)
            | none => none
      else none
    | .Call (.Attribute o m apos) es [] pos => if (apos.endLine == pos.line) && notCall0 o && decide (es.length < 25) && c.hv.isNone then match c.nm m, trE c n o, mapO (trE c n) es with
        | some m, some o, some es => some (.meth o m es)
        | _, _, _ => none
      else none
    | .Attribute o f _ => match o with
      | .Name y _ => if c.hv = some y ∧ (idxN c.N y).isSome = true then (c.nm f).map .xfld else match c.nm f, trE c n o with
        | some f, some o => some (.fld o f)
        | _, _ => none
      | _ => if notCall0 o then match c.nm f, trE c n o with
          | some f, some o => some (.fld o f)
          | _, _ => none
        else none
    | .Subscript a (.Slice lo hi none _) _ => match trE c n a, trO (trE c n) lo, trO (trE c n) hi with
      | some a, some lo, some hi => some (.slc a lo hi)
      | _, _, _ => none
    | .Subscript a b _ => if notSlice b then match trE c n a, trE c n b with
        | some a, some b => some (.sub a b)
        | _, _ => none
      else none
    | .Tuple es _ _ => (mapO (trE c n) es).map .tup
    | .List es _ => (mapO (trE c n) es).map .lst
    | .ListComp el [⟨t, it, ifs, 0⟩] scope _ =>
      if blkC c.N c.sc scope (ownOf c.N (tgNames t)) && c.hv.isNone then
        let c' : TC := { c with sc := relS scope c.sc, asg := fun x => locB scope x }
        match trIt c (trE c n) it, tgOf c' t, trE c' n el with
        | some (k, its), some t', some el => if zipOk k t then match ifs with
          | [] => some (.comp el t' k its [])
          | [i] => if isIf i then none else match trE c' n i with
            | some i => some (.comp el t' k its [i])
            | none => none
          | _ => none
          else none
        | _, _, _ => none
      else none
    | _ => none
/-! ### statements -/
def isComp : Expr → Bool
  | .ListComp .. => true
  | .SetComp .. => true
  | .DictComp .. => true
  | _ => false
def isStar : Expr → Bool
  | .Starred .. => true
  | _ => false
/-- how a display is stored into a display of names -/
def swNames (sc : Scope) (line : Nat) : Expr → Option Str
  | .Name id pos => if sc.names.lookup id == some .local && pos.line == line then some id else none
  | _ => none
def swOf (sc : Scope) (ts vs : List Expr) : Option (Option (List Str)) :=
  if !(ts.length == 2 || ts.length == 3) || vs.length != ts.length then some none
  else if vs.any isStar then some none
  else if (ts.filterMap (swNames sc ((ts.head?.map (·.pos.line)).getD 0))).length != ts.length || (ts.filterMap (swNames sc ((ts.head?.map (·.pos.line)).getD 0))).eraseDups.length != (ts.filterMap (swNames sc ((ts.head?.map (·.pos.line)).getD 0))).length then some none
  else if vs.all (foldedForSure 8) then some none
  else if vs.all (constantsAlone 8) then none
  else some (some (ts.filterMap (swNames sc ((ts.head?.map (·.pos.line)).getD 0))))
/-- a comprehension that is stored by its name at once -/
def swC (sc scope : Scope) (t : Str) (line cline : Nat) : Bool := sc.names.lookup t == some .local && line == cline && !(scope.names.any fun (n, k) => n == t && (k == .local || k == .cell))
def plainLoc (c : TC) (x : Str) : Option Nat := if c.sc.names.lookup x = some .local then slotOf c x else none
def trS (c : TC) : Nat → Stmt → Option S
  | 0, _ => none
  | n + 1, st => match st with
    | .Assign [.Name x _] e _ => match slotOf c x, trE c n e with
      | some i, some m => some (.asg (.one i) m)
      | _, _ => none
    | .Assign [.Tuple ts _ _] (.Tuple vs _ _) _ => if c.hv.isSome then none else match swOf c.sc ts vs with
      | some none => match mapO (nameSlot c) ts, mapO (trE c n) vs with
        | some is, some ms => some (.asg (.tup is) (.tup ms))
        | _, _ => none
      | some (some [x, y]) => match ts, vs with
        | [.Name x' _, .Name y' _], [a, b] => match plainLoc c x', plainLoc c y', trE c n a, trE c n b with
          | some i, some j, some a, some b => if x' = x ∧ y' = y ∧ i ≠ j then some (.asg (.tup [i, j]) (.tup [a, b])) else none
          | _, _, _, _ => none
        | _, _ => none
      | some (some [x, y, z]) => match ts, vs with
        | [.Name x' _, .Name y' _, .Name z' _], [a, b, d] => match plainLoc c x', plainLoc c y', plainLoc c z', mapO (trE c n) [a, b, d] with
          | some i, some j, some k, some es => if x' = x ∧ y' = y ∧ z' = z ∧ i ≠ j ∧ i ≠ k ∧ j ≠ k then some (.asg (.tup [i, j, k]) (.tup es)) else none
          | _, _, _, _ => none
        | _, _ => none
      | _ => none
    | .Assign [.Tuple ts _ _] e _ => if c.hv.isSome then none else match mapO (nameSlot c) ts, trE c n e with
      | some is, some m => some (.asg (.tup is) m)
      | _, _ => none
    | .Assign [.Attribute o f _] e _ => match trE c n o, c.nm f, trE c n e with
      | some o, some f, some e => some (.fld o f e)
      | _, _, _ => none
    | .Assign [.Subscript o i _] e _ => if notSlice i then match trE c n o, trE c n i, trE c n e with
        | some o, some i, some e => some (.sub o i e)
        | _, _, _ => none
      else none
    | .Expr e _ => if isComp e then none else (trE c n e).map .ex
    | .If t a b _ => if isIf t then none else match trE c n t, mapO (trS c n) a, mapO (trS c n) b with
      | some t, some a, some b => some (.ite t a b)
      | _, _, _ => none
    | .While t a [] _ => if isIf t || c.hv.isSome then none else match trE c n t, mapO (trS c n) a with
      | some t, some a => some (.whl t a)
      | _, _ => none
    | .For t it b [] _ => if c.hv.isSome then none else match trIt c (trE c n) it, tgOf c t, mapO (trS c n) b with
      | some (k, its), some t', some b => if zipOk k t then some (.for_ t' k its b) else none
      | _, _, _ => none
    | .Return (some e) _ => (trE c n e).map .ret
    | .Return none _ => some (.ret (.cu .non))
    | .Break _ => some .brk
    | .Continue _ => some .cnt
    | .Pass _ => some .pass
    | .Raise (some (.Call (.Name x _) [.Constant (.str _) _ _] [] _)) none _ => if (idxN c.N x).isNone && gloB c.sc x && plainN x && c.hv.isNone then match c.gk x with
        | some (.exc k) => some (.raise k)
        | _ => none
      else none
    | .Try b [.ExceptHandler (some (.Name x _)) nm (h :: hs) _] [] [] _ => if (idxN c.N x).isNone && gloB c.sc x && plainN x && c.hv.isNone then match c.gk x, mapO (trS c n) b with
        | some (.exc k), some b' => match nm with
          | none => if (idxN c.N "?").isNone then (mapO (trS { c with hv := some "?" } n) (h :: hs)).map (.try_ b' k none) else none
          | some y => match plainLoc c y, mapO (trS { c with hv := some y } n) (h :: hs) with
            | some i, some hs' => some (.try_ b' k (some i) hs')
            | _, _ => none
        | _, _ => none
      else none
    | _ => none
end Pl

namespace Pl
open PySem PySem.Spec PyProof.Rows L2
/-! ### expressions: each rule, from its parts -/
theorem pe_imp {X : Cx} {e : Expr} {t t' : TE} (h : PE X e t) (g : ∀ σ H Q, t' σ H Q → t σ H Q) : PE X e t' := ⟨fun pins s σ H Q I q => h.run pins s σ H Q I (g σ H Q q)⟩
theorem pt_imp {X : Cx} {e : Expr} {t t' : TT} (h : PT X e t) (g : ∀ σ H Q, t' σ H Q → t σ H Q) : PT X e t' := ⟨fun pins s σ H Q I q => h.run pins s σ H Q I (g σ H Q q)⟩
theorem pw_imp {X : Cx} {e : Expr} {t t' : TT} (h : PW X e t) (g : ∀ σ H Q, t' σ H Q → t σ H Q) : PW X e t' := ⟨fun whole pins s σ H Q I q => h.run whole pins s σ H Q I (g σ H Q q)⟩
theorem pa_imp {X : Cx} {es : List Expr} {t t' : TA} (h : PA X es t) (g : ∀ σ H Q, t' σ H Q → t σ H Q) : PA X es t' := ⟨fun pos pins s σ H Q I q => h.run pos pins s σ H Q I (g σ H Q q)⟩
section
variable {K : PySem.W.Frag} {mg : Str → Option Value} {Φ : L2.St → Prop} {W : WX} {σ : L2.St} {H : Hp} {α β γ δ : Type} {R : Wd → α → β → Prop} {R' : Wd → γ → δ → Prop}
/-- a part, then what follows -/
theorem tG.bind {m : Loc → AH → Rs α} {f : Loc → α → AH → Rs γ} {Q : δ → Hp → Prop} (o : tG K mg R' Φ W (fun ρ h => (m ρ h).bind (f ρ)) σ H Q) :
    tG K mg R Φ W m σ H fun v H1 => ∃ w1 h1 ρ u, w1.H = H1 ∧ Sim K mg w1 h1 ∧ RelL K w1 ρ σ ∧ Φ σ ∧ R w1 u v ∧ OutG K mg R' W σ w1 Q (f ρ u h1) := by
  obtain ⟨w, h, ρ, hw, S, L, F, o⟩ := o
  refine ⟨w, h, ρ, hw, S, L, F, (OutG.bind (R := R) o).imp ?_⟩
  rintro v H1 ⟨w1, h1, u, e, S1, E1, r1, o1⟩
  exact ⟨w1, h1, ρ, u, e, S1, L.mono E1, F, r1, o1⟩
theorem tT.bind {m : Loc → AH → Rs α} {f : Loc → α → AH → Rs U} {Q : Bool → Hp → Prop} (o : tT K mg Φ W (fun ρ h => (m ρ h).bind (f ρ)) σ H Q) :
    tG K mg R Φ W m σ H fun v H1 => ∃ w1 h1 ρ u, w1.H = H1 ∧ Sim K mg w1 h1 ∧ RelL K w1 ρ σ ∧ Φ σ ∧ R w1 u v ∧ OutT K mg W σ w1 Q (f ρ u h1) := by
  obtain ⟨w, h, ρ, hw, S, L, F, o⟩ := o
  refine ⟨w, h, ρ, hw, S, L, F, (OutT.bind (R := R) o).imp ?_⟩
  rintro v H1 ⟨w1, h1, u, e, S1, E1, r1, o1⟩
  exact ⟨w1, h1, ρ, u, e, S1, L.mono E1, F, r1, o1⟩
theorem tG.test {m : Loc → AH → Rs U} {f : Loc → U → AH → Rs γ} {Q : δ → Hp → Prop} (hb : ∀ ρ u h, (∀ b, u ≠ .bl b) → f ρ u h = .bad) (o : tG K mg R' Φ W (fun ρ h => (m ρ h).bind (f ρ)) σ H Q) :
    tT K mg Φ W m σ H fun b H1 => ∃ w1 h1 ρ, w1.H = H1 ∧ Sim K mg w1 h1 ∧ RelL K w1 ρ σ ∧ Φ σ ∧ OutG K mg R' W σ w1 Q (f ρ (.bl b) h1) := by
  obtain ⟨w, h, ρ, hw, S, L, F, o⟩ := o
  refine ⟨w, h, ρ, hw, S, L, F, (OutG.test (fun u h => hb ρ u h) o).imp ?_⟩
  rintro v H1 ⟨w1, h1, e, S1, E1, o1⟩
  exact ⟨w1, h1, ρ, e, S1, L.mono E1, F, o1⟩
theorem tT.test {m : Loc → AH → Rs U} {f : Loc → U → AH → Rs U} {Q : Bool → Hp → Prop} (hb : ∀ ρ u h, (∀ b, u ≠ .bl b) → f ρ u h = .bad) (o : tT K mg Φ W (fun ρ h => (m ρ h).bind (f ρ)) σ H Q) :
    tT K mg Φ W m σ H fun b H1 => ∃ w1 h1 ρ, w1.H = H1 ∧ Sim K mg w1 h1 ∧ RelL K w1 ρ σ ∧ Φ σ ∧ OutT K mg W σ w1 Q (f ρ (.bl b) h1) := by
  obtain ⟨w, h, ρ, hw, S, L, F, o⟩ := o
  refine ⟨w, h, ρ, hw, S, L, F, (OutT.test (fun u h => hb ρ u h) o).imp ?_⟩
  rintro v H1 ⟨w1, h1, e, S1, E1, o1⟩
  exact ⟨w1, h1, ρ, e, S1, L.mono E1, F, o1⟩
theorem tT.val {m : Loc → AH → Rs U} {Q : Bool → Hp → Prop} (o : tT K mg Φ W m σ H Q) : tB (tE K mg Φ W m) σ H Q := by
  obtain ⟨w, h, ρ, hw, S, L, F, o⟩ := o
  exact ⟨w, h, ρ, hw, S, L, F, o.val⟩
theorem tG.imp {m : Loc → AH → Rs α} {Q Q' : β → Hp → Prop} (o : tG K mg R Φ W m σ H Q) (h : ∀ v H, Q v H → Q' v H) : tG K mg R Φ W m σ H Q' := by
  obtain ⟨w, h0, ρ, hw, S, L, F, o⟩ := o
  exact ⟨w, h0, ρ, hw, S, L, F, o.imp h⟩
theorem tT.imp {m : Loc → AH → Rs U} {Q Q' : Bool → Hp → Prop} (o : tT K mg Φ W m σ H Q) (h : ∀ v H, Q v H → Q' v H) : tT K mg Φ W m σ H Q' := by
  obtain ⟨w, h0, ρ, hw, S, L, F, o⟩ := o
  exact ⟨w, h0, ρ, hw, S, L, F, o.imp h⟩
def MonoR {α β : Type} (R : Wd → α → β → Prop) : Prop := ∀ w w' u v, Ext w w' → R w u v → R w' u v
theorem monoU {K : PySem.W.Frag} : MonoR (RelU K) := fun _ _ _ _ e r => r.mono e
theorem monoUs {K : PySem.W.Frag} : MonoR (RelUs K) := fun _ _ _ _ e r => r.mono e
/-- two parts, then what follows -/
theorem tG.two {α₁ β₁ α₂ β₂ : Type} {R₁ : Wd → α₁ → β₁ → Prop} {R₂ : Wd → α₂ → β₂ → Prop} (mono : MonoR R₁) {ma : Loc → AH → Rs α₁} {mb : Loc → AH → Rs α₂} {f : Loc → α₁ → α₂ → AH → Rs γ} {Q : δ → Hp → Prop}
    (o : tG K mg R' Φ W (fun ρ h => (ma ρ h).bind fun u h => (mb ρ h).bind fun v h => f ρ u v h) σ H Q) :
    tG K mg R₁ Φ W ma σ H fun x H1 => tG K mg R₂ Φ W mb σ H1 fun y H2 => ∃ w2 h2 ρ u v, w2.H = H2 ∧ Sim K mg w2 h2 ∧ RelL K w2 ρ σ ∧ Φ σ ∧ R₁ w2 u x ∧ R₂ w2 v y ∧ OutG K mg R' W σ w2 Q (f ρ u v h2) := by
  obtain ⟨w, h, ρ, hw, S, L, F, o⟩ := o
  refine ⟨w, h, ρ, hw, S, L, F, (OutG.bind (R := R₁) o).imp ?_⟩
  rintro x H1 ⟨w1, h1, u, e1, S1, E1, r1, o1⟩
  refine ⟨w1, h1, ρ, e1, S1, L.mono E1, F, (OutG.bind (R := R₂) o1).imp ?_⟩
  rintro y H2 ⟨w2, h2, v, e2, S2, E2, r2, o2⟩
  exact ⟨w2, h2, ρ, u, v, e2, S2, (L.mono E1).mono E2, F, mono _ _ _ _ E2 r1, r2, o2⟩
/-- three parts -/
theorem tG.three {α₁ β₁ α₂ β₂ α₃ β₃ : Type} {R₁ : Wd → α₁ → β₁ → Prop} {R₂ : Wd → α₂ → β₂ → Prop} {R₃ : Wd → α₃ → β₃ → Prop} (mono : MonoR R₁) (mono2 : MonoR R₂) {ma : Loc → AH → Rs α₁} {mb : Loc → AH → Rs α₂} {mc : Loc → AH → Rs α₃}
    {f : Loc → α₁ → α₂ → α₃ → AH → Rs γ} {Q : δ → Hp → Prop} (o : tG K mg R' Φ W (fun ρ h => (ma ρ h).bind fun u h => (mb ρ h).bind fun v h => (mc ρ h).bind fun z h => f ρ u v z h) σ H Q) :
    tG K mg R₁ Φ W ma σ H fun x H1 => tG K mg R₂ Φ W mb σ H1 fun y H2 => tG K mg R₃ Φ W mc σ H2 fun t H3 =>
      ∃ w3 h3 ρ u v z, w3.H = H3 ∧ Sim K mg w3 h3 ∧ RelL K w3 ρ σ ∧ Φ σ ∧ R₁ w3 u x ∧ R₂ w3 v y ∧ R₃ w3 z t ∧ OutG K mg R' W σ w3 Q (f ρ u v z h3) := by
  obtain ⟨w, h, ρ, hw, S, L, F, o⟩ := o
  refine ⟨w, h, ρ, hw, S, L, F, (OutG.bind (R := R₁) o).imp ?_⟩
  rintro x H1 ⟨w1, h1, u, e1, S1, E1, r1, o1⟩
  refine ⟨w1, h1, ρ, e1, S1, L.mono E1, F, (OutG.bind (R := R₂) o1).imp ?_⟩
  rintro y H2 ⟨w2, h2, v, e2, S2, E2, r2, o2⟩
  refine ⟨w2, h2, ρ, e2, S2, (L.mono E1).mono E2, F, (OutG.bind (R := R₃) o2).imp ?_⟩
  rintro t H3 ⟨w3, h3, z, e3, S3, E3, r3, o3⟩
  exact ⟨w3, h3, ρ, u, v, z, e3, S3, ((L.mono E1).mono E2).mono E3, F, mono _ _ _ _ E3 (mono _ _ _ _ E2 r1), mono2 _ _ _ _ E3 r2, r3, o3⟩
/-- what is answered, where nothing is left to run -/
theorem OutG.opt {R : Wd → U → V → Prop} {Q : V → Hp → Prop} {w : Wd} {h : AH} {x : Option U} (o : OutG K mg R W σ w Q (Rs.opt x h)) : ∃ u, x = some u ∧ OutG K mg R W σ w Q (.ok u h) := by
  cases x with
  | none => exact o.elim
  | some u => exact ⟨u, rfl, o⟩
end
section
variable {X : Cx} {Φ : L2.St → Prop} {W : WX} {a b d e : Expr} {ma mb md : Loc → AH → Rs U} {pos : Pos}
theorem se_lc {i : Nat} {x : Str} (hN : X.N[i]? = some x) (hv : Vis X.env.scope x) (hp : plainN x = true) : PE X (.Name x pos) (tE X.K X.mg Φ W fun ρ h => match ρ[i]? with
    | some (some u) => .ok u h
    | _ => .bad) := by
  unfold plainN at hp
  simp only [Bool.and_eq_true, Bool.not_eq_true'] at hp
  refine pe_imp (pe_var (i := i) hN hv hp.1.1 hp.1.2) fun σ H Q ⟨w, h, ρ, hw, S, L, F, o⟩ => ?_
  subst hw
  cases q : ρ[i]? with
  | none => simp only [q] at o; exact o.elim
  | some z =>
    cases z with
    | none => simp only [q] at o; exact o.elim
    | some u =>
      simp only [q] at o
      obtain ⟨v, h1, h2⟩ := L.2 i u q
      exact ⟨v, h1, o.here S h2⟩
theorem se_cu {u : U} {v : V} (h : PE X e (tC v)) (r : ∀ w, RelU X.K w u v) : PE X e (tE X.K X.mg Φ W fun _ h => .ok u h) :=
  pe_imp h fun σ H Q ⟨w, h, ρ, hw, S, L, F, o⟩ => by subst hw; exact o.here S (r w)
theorem se_bin {o : Bo} (ha : PE X a (tE X.K X.mg Φ W ma)) (hb : PE X b (tE X.K X.mg Φ W mb)) :
    PE X (.BinOp a (astBo o) b pos) (tE X.K X.mg Φ W fun ρ h => (ma ρ h).bind fun u h => (mb ρ h).bind fun v h => binop o u v h) := by
  refine pe_imp (pe_op (op_bin o) ha hb) fun σ H Q q => (tG.two monoU q).imp fun x H1 q => q.imp ?_
  rintro y H2 ⟨w2, h2, ρ, u, v, rfl, S, L, F, r1, r2, o2⟩
  exact bin_ok S r1 r2 o o2
theorem se_neg (ha : PE X a (tE X.K X.mg Φ W ma)) : PE X (.UnaryOp .USub a pos) (tE X.K X.mg Φ W fun ρ h => (ma ρ h).bind fun u h => match u with
    | .int i => .ok (.int (-i)) h
    | _ => .bad) := by
  refine pe_imp (pe_un un_neg ha) fun σ H Q q => (tG.bind (R := RelU X.K) q).imp ?_
  rintro x H1 ⟨w1, h1, ρ, u, rfl, S, L, F, r, o⟩
  cases u with
  | int i => cases r; exact ⟨i, rfl, o.here S rfl⟩
  | _ => exact o.elim
theorem se_not (ha : PE X a (tE X.K X.mg Φ W ma)) : PE X (.UnaryOp .Not a pos) (tE X.K X.mg Φ W fun ρ h => (ma ρ h).bind fun u h => match u with
    | .bl b => .ok (.bl (!b)) h
    | _ => .bad) := by
  refine pe_imp (pe_not ha) fun σ H Q q => (tG.bind (R := RelU X.K) q).imp ?_
  rintro x H1 ⟨w1, h1, ρ, u, rfl, S, L, F, r, o⟩
  cases u with
  | bl i => cases r; exact ⟨i, rfl, o.here S rfl⟩
  | _ => exact o.elim
theorem st_not (ha : PT X a (tT X.K X.mg Φ W ma)) : PT X (.UnaryOp .Not a pos) (tT X.K X.mg Φ W fun ρ h => (ma ρ h).bind fun u h => match u with
    | .bl b => .ok (.bl (!b)) h
    | _ => .bad) := by
  refine pt_imp (pt_not ha) fun σ H Q q => (tT.test (fun ρ u h hb => ?_) q).imp ?_
  · cases u with
    | bl b => exact absurd rfl (hb b)
    | _ => rfl
  · rintro c H1 ⟨w1, h1, ρ, rfl, S, L, F, o⟩
    obtain ⟨b', e, o⟩ := o
    cases e
    exact o w1 S Ext.rfl'
abbrev kAnd (mb : Loc → AH → Rs U) (ρ : Loc) (u : U) (h : AH) : Rs U := match u with
    | .bl true => mb ρ h
    | .bl false => .ok (.bl false) h
    | _ => .bad
abbrev kOr (mb : Loc → AH → Rs U) (ρ : Loc) (u : U) (h : AH) : Rs U := match u with
    | .bl true => .ok (.bl true) h
    | .bl false => mb ρ h
    | _ => .bad
theorem bad_and {mb : Loc → AH → Rs U} (ρ : Loc) (u : U) (h : AH) (hb : ∀ b, u ≠ .bl b) : kAnd mb ρ u h = .bad := by
  cases u with
  | bl b => exact absurd rfl (hb b)
  | _ => rfl
theorem bad_or {mb : Loc → AH → Rs U} (ρ : Loc) (u : U) (h : AH) (hb : ∀ b, u ≠ .bl b) : kOr mb ρ u h = .bad := by
  cases u with
  | bl b => exact absurd rfl (hb b)
  | _ => rfl
abbrev mAnd (ma mb : Loc → AH → Rs U) : Loc → AH → Rs U := fun ρ h => (ma ρ h).bind fun u h => kAnd mb ρ u h
abbrev mOr (ma mb : Loc → AH → Rs U) : Loc → AH → Rs U := fun ρ h => (ma ρ h).bind fun u h => kOr mb ρ u h
theorem se_and {r : List Expr} (ha : PE X a (tE X.K X.mg Φ W ma)) (hb : PE X (.BoolOp .And (b :: r) pos) (tE X.K X.mg Φ W mb)) : PE X (.BoolOp .And (a :: b :: r) pos) (tE X.K X.mg Φ W (mAnd ma mb)) := by
  refine pe_imp (pe_and ha hb) fun σ H Q q => (tG.bind (R := RelU X.K) q).imp ?_
  rintro x H1 ⟨w1, h1, ρ, u, rfl, S, L, F, r, o⟩
  cases u with
  | bl c =>
    cases r
    refine ⟨c, rfl, ?_⟩
    cases c with
    | true => exact ⟨w1, h1, ρ, rfl, S, L, F, o⟩
    | false => exact o.here S rfl
  | _ => exact o.elim
theorem se_or {r : List Expr} (ha : PE X a (tE X.K X.mg Φ W ma)) (hb : PE X (.BoolOp .Or (b :: r) pos) (tE X.K X.mg Φ W mb)) : PE X (.BoolOp .Or (a :: b :: r) pos) (tE X.K X.mg Φ W (mOr ma mb)) := by
  refine pe_imp (pe_or ha hb) fun σ H Q q => (tG.bind (R := RelU X.K) q).imp ?_
  rintro x H1 ⟨w1, h1, ρ, u, rfl, S, L, F, r, o⟩
  cases u with
  | bl c =>
    cases r
    refine ⟨c, rfl, ?_⟩
    cases c with
    | true => exact o.here S rfl
    | false => exact ⟨w1, h1, ρ, rfl, S, L, F, o⟩
  | _ => exact o.elim
theorem sw_and {r : List Expr} (ha : PT X a (tT X.K X.mg Φ W ma)) (hb : PW X (.BoolOp .And (b :: r) pos) (tT X.K X.mg Φ W mb)) : PW X (.BoolOp .And (a :: b :: r) pos) (tT X.K X.mg Φ W (mAnd ma mb)) := by
  refine pw_imp (pw_and ha hb) fun σ H Q q => (tT.test bad_and q).imp ?_
  rintro c H1 ⟨w1, h1, ρ, rfl, S, L, F, o⟩
  cases c with
  | true => exact ⟨w1, h1, ρ, rfl, S, L, F, o⟩
  | false =>
    obtain ⟨b', e, o⟩ := o
    cases e
    exact o w1 S Ext.rfl'
theorem sw_or {r : List Expr} (ha : PT X a (tT X.K X.mg Φ W ma)) (hb : PW X (.BoolOp .Or (b :: r) pos) (tT X.K X.mg Φ W mb)) : PW X (.BoolOp .Or (a :: b :: r) pos) (tT X.K X.mg Φ W (mOr ma mb)) := by
  refine pw_imp (pw_or ha hb) fun σ H Q q => (tT.test bad_or q).imp ?_
  rintro c H1 ⟨w1, h1, ρ, rfl, S, L, F, o⟩
  cases c with
  | false => exact ⟨w1, h1, ρ, rfl, S, L, F, o⟩
  | true =>
    obtain ⟨b', e, o⟩ := o
    cases e
    exact o w1 S Ext.rfl'
theorem se_cmp {o : Co} (hu : X.A.units + 102 < cLine) (hm : behindInMarks (astCo o) b = false) (ha : PE X a (tE X.K X.mg Φ W ma)) (hb : PE X b (tE X.K X.mg Φ W mb)) :
    PE X (.Compare a [astCo o] [b] pos) (tE X.K X.mg Φ W fun ρ h => (ma ρ h).bind fun u h => (mb ρ h).bind fun v h => .opt ((cmpop o u v h).map .bl) h) := by
  refine pe_imp (pe_cmpR (op_cmp hu o) ha hb hm) fun σ H Q q => (tG.two monoU q).imp fun x H1 q => q.imp ?_
  rintro y H2 ⟨w2, h2, ρ, u, v, rfl, S, L, F, r1, r2, o2⟩
  obtain ⟨z, e, o3⟩ := o2.opt
  cases e1 : cmpop o u v h2 with
  | none => rw [e1] at e; cases e
  | some c => rw [e1] at e; cases e; exact cmp_ok S r1 r2 o e1 (o3.here S rfl)
theorem st_cmp {o : Co} (hu : X.A.units + 102 < cLine) (hm : behindInMarks (astCo o) b = false) (ha : PE X a (tE X.K X.mg Φ W ma)) (hb : PE X b (tE X.K X.mg Φ W mb)) :
    PT X (.Compare a [astCo o] [b] pos) (tT X.K X.mg Φ W fun ρ h => (ma ρ h).bind fun u h => (mb ρ h).bind fun v h => .opt ((cmpop o u v h).map .bl) h) := by
  refine pt_imp (pt_cmpR (op_cmp hu o) ha hb hm) fun σ H Q q => ?_
  refine (tG.two monoU (tT.val q)).imp fun x H1 q => q.imp ?_
  rintro y H2 ⟨w2, h2, ρ, u, v, rfl, S, L, F, r1, r2, o2⟩
  obtain ⟨z, e, o3⟩ := o2.opt
  cases e1 : cmpop o u v h2 with
  | none => rw [e1] at e; cases e
  | some c => rw [e1] at e; cases e; exact cmp_ok S r1 r2 o e1 (o3.here S rfl)
abbrev mChain (o p : Co) (ma mb md : Loc → AH → Rs U) : Loc → AH → Rs U := fun ρ h => (ma ρ h).bind fun u h => (mb ρ h).bind fun v h => match cmpop o u v h with
    | some true => (md ρ h).bind fun z h => .opt ((cmpop p v z h).map .bl) h
    | some false => .ok (.bl false) h
    | none => .bad
theorem chain_rd {o p : Co} {σ : L2.St} {H : Hp} {Q : V → Hp → Prop} (q : tE X.K X.mg Φ W (mChain o p ma mb md) σ H Q) : tChain (rCmp X.K o) (rCmp X.K p) (tE X.K X.mg Φ W ma) (tE X.K X.mg Φ W mb) (tE X.K X.mg Φ W md) σ H Q := by
  refine (tG.two monoU q).imp fun x H1 q => q.imp ?_
  rintro y H2 ⟨w2, h2, ρ, u, v, rfl, S, L, F, r1, r2, o2⟩
  cases e1 : cmpop o u v h2 with
  | none => rw [e1] at o2; exact o2.elim
  | some c =>
    rw [e1] at o2
    refine cmp_ok S r1 r2 o e1 ⟨c, rfl, ?_⟩
    cases c with
    | false => exact o2.here S rfl
    | true =>
      rw [if_pos rfl]
      refine ⟨w2, h2, ρ, rfl, S, L, F, (OutG.bind (R := RelU X.K) o2).imp ?_⟩
      rintro t H3 ⟨w3, h3, z, rfl, S3, E3, r3, o3⟩
      obtain ⟨z', e, o4⟩ := o3.opt
      cases e2 : cmpop p v z h3 with
      | none => rw [e2] at e; cases e
      | some c => rw [e2] at e; cases e; exact cmp_ok S3 (r2.mono E3) r3 p e2 (o4.here S3 rfl)
theorem se_chain {o p : Co} (hu : X.A.units + 102 < cLine) (hm : lastMarks [astCo o, astCo p] [b, d] = false) (ha : PE X a (tE X.K X.mg Φ W ma)) (hb : PE X b (tE X.K X.mg Φ W mb)) (hd : PE X d (tE X.K X.mg Φ W md)) :
    PE X (.Compare a [astCo o, astCo p] [b, d] pos) (tE X.K X.mg Φ W (mChain o p ma mb md)) :=
  pe_imp (pe_chain (op_cmp hu o) (op_cmp hu p) ha hb hd hm) fun σ H Q q => chain_rd q
theorem st_chain {o p : Co} (hu : X.A.units + 102 < cLine) (hm : lastMarks [astCo o, astCo p] [b, d] = false) (ha : PE X a (tE X.K X.mg Φ W ma)) (hb : PE X b (tE X.K X.mg Φ W mb)) (hd : PE X d (tE X.K X.mg Φ W md)) :
    PT X (.Compare a [astCo o, astCo p] [b, d] pos) (tT X.K X.mg Φ W (mChain o p ma mb md)) :=
  pt_imp (pt_chain (op_cmp hu o) (op_cmp hu p) ha hb hd hm) fun σ H Q q => chain_rd (Q := fun x H' => ∃ k, x = .bl k ∧ Q k H') (tT.val q)
theorem se_ife (hd : PT X d (tT X.K X.mg Φ W md)) (ha : PE X a (tE X.K X.mg Φ W ma)) (hb : PE X b (tE X.K X.mg Φ W mb)) : PE X (.IfExp d a b pos) (tE X.K X.mg Φ W fun ρ h => (md ρ h).bind fun u h => match u with
    | .bl true => ma ρ h
    | .bl false => mb ρ h
    | _ => .bad) := by
  refine pe_imp (pe_ifExp hd ha hb) fun σ H Q q => (tG.test (fun ρ u h hb => ?_) q).imp ?_
  · cases u with
    | bl b => exact absurd rfl (hb b)
    | _ => rfl
  · rintro c H1 ⟨w1, h1, ρ, rfl, S, L, F, o⟩
    cases c with
    | true => exact ⟨w1, h1, ρ, rfl, S, L, F, o⟩
    | false => exact ⟨w1, h1, ρ, rfl, S, L, F, o⟩
theorem se_sub (hs : notSlice b = true) (ha : PE X a (tE X.K X.mg Φ W ma)) (hb : PE X b (tE X.K X.mg Φ W mb)) : PE X (.Subscript a b pos) (tE X.K X.mg Φ W fun ρ h => (ma ρ h).bind fun u h => (mb ρ h).bind fun v h => .opt (subop u v h) h) := by
  refine pe_imp (pe_ix ix_sub ha hb fun _ _ => by cases b <;> first | rfl | cases hs) fun σ H Q q => (tG.two monoU q).imp fun x H1 q => q.imp ?_
  rintro y H2 ⟨w2, h2, ρ, u, v, rfl, S, L, F, r1, r2, o2⟩
  obtain ⟨z, e, o3⟩ := o2.opt
  exact sub_ok S r1 r2 e o3
/-- a slice's part -/
def PartOf (X : Cx) (Φ : L2.St → Prop) (W : WX) (e : Option Expr) (m : Loc → AH → Rs (List U)) : Prop :=
  (e = none ∧ ∀ ρ h, m ρ h = .ok [] h) ∨ ∃ x mx, e = some x ∧ PE X x (tE X.K X.mg Φ W mx) ∧ ∀ ρ h, m ρ h = (mx ρ h).bind fun u h => .ok [u] h
abbrev kPart (k : Option Int → AH → Rs U) (l : List U) (h : AH) : Rs U := match partU l with
    | some i => k i h
    | none => .bad
theorem slc_part {e : Option Expr} {m : Loc → AH → Rs (List U)} (p : PartOf X Φ W e m) : ∃ t : TO, PO X e t ∧ ∀ {w : Wd} {h : AH} {ρ : Loc} {σ : L2.St} {Q : VK} {Q' : Option Int → Hp → Prop} {k : Option Int → AH → Rs U}, Sim X.K X.mg w h → RelL X.K w ρ σ → Φ σ →
      OutG X.K X.mg (RelU X.K) W σ w Q ((m ρ h).bind (kPart k)) → (∀ i w2 h2, Sim X.K X.mg w2 h2 → Ext w w2 → OutG X.K X.mg (RelU X.K) W σ w2 Q (k i h2) → Q' i w2.H) → t σ w.H Q' := by
  rcases p with ⟨rfl, e⟩ | ⟨x, mx, rfl, hx, e⟩
  · refine ⟨_, po_none, fun {w h ρ σ Q Q' k} S L F o g => ?_⟩
    rw [e] at o
    exact g _ w h S Ext.rfl' o
  · refine ⟨_, po_some hx, fun {w h ρ σ Q Q' k} S L F o g => ?_⟩
    rw [e] at o
    refine ⟨w, h, ρ, rfl, S, L, F, ?_⟩
    cases q : mx ρ h with
    | exc c fs h' => rw [q] at o; exact o
    | bad => rw [q] at o; exact o
    | ok u h' =>
      rw [q] at o
      intro w2 v S2 E2 r
      cases u with
      | int i => cases r; exact ⟨i, rfl, g _ w2 h' S2 E2 (OutG.mono E2 o)⟩
      | _ => exact o.elim
theorem se_slc {lo hi : Option Expr} {p2 : Pos} {ml mh : Loc → AH → Rs (List U)} (ha : PE X a (tE X.K X.mg Φ W ma)) (hl : PartOf X Φ W lo ml) (hh : PartOf X Φ W hi mh) :
    PE X (.Subscript a (.Slice lo hi none p2) pos) (tE X.K X.mg Φ W fun ρ h => (ma ρ h).bind fun u h => (ml ρ h).bind (kPart fun l h => (mh ρ h).bind (kPart fun r h => slcop u l r h))) := by
  obtain ⟨t1, p1, g1⟩ := slc_part hl
  obtain ⟨t2, p2, g2⟩ := slc_part hh
  refine pe_imp (pe_slice sl_slc ha p1 p2) fun σ H Q q => ?_
  obtain ⟨w, h, ρ, rfl, S, L, F, o⟩ := q
  refine ⟨w, h, ρ, rfl, S, L, F, (OutG.bind (R := RelU X.K) o).imp ?_⟩
  rintro x H1 ⟨w1, h1, u, rfl, S1, E1, r1, o1⟩
  refine g1 S1 (L.mono E1) F o1 fun i w2 h2 S2 E2 o2 => ?_
  exact g2 S2 ((L.mono E1).mono E2) F o2 fun j w3 h3 S3 E3 o3 => slc_ok S3 ((r1.mono E2).mono E3) o3
/-! argument lists, displays -/
theorem star_cons {c : TC} {n : Nat} {m : E} (h : trE c n e = some m) (es : List Expr) (env : Env) : starEach (e :: es) env = (false, eval e env) :: starEach es env := by
  cases n with
  | zero => cases h
  | succ n =>
    cases e
    case Starred => simp only [trE] at h; cases h
    all_goals rfl
theorem star_plain {c : TC} {n : Nat} : ∀ {es : List Expr} {ms : List E} (pos : Pos) (env : Env), mapO (trE c n) es = some ms → (backTo pos (starEach es env)).any (·.1) = false
  | [], _, _, _, _ => rfl
  | e :: es, ms, pos, env, h => by
    unfold mapO at h
    cases e1 : trE c n e with
    | none => rw [e1] at h; cases h
    | some m =>
      rw [e1] at h
      cases e2 : mapO (trE c n) es with
      | none => rw [e2] at h; cases h
      | some ms' =>
        rw [star_cons e1]
        exact star_plain pos env e2
theorem sa_nil : PA X [] (tA X.K X.mg Φ W fun _ h => .ok [] h) := by
  refine pa_imp pa_nil fun σ H Q ⟨w, h, ρ, hw, S, L, F, o⟩ => ?_
  subst hw
  exact o w [] S Ext.rfl' rfl
theorem sa_cons {es : List Expr} {ms : Loc → AH → Rs (List U)} (hs : starEach (e :: es) X.env = (false, eval e X.env) :: starEach es X.env) (ha : PE X e (tE X.K X.mg Φ W ma)) (hr : PA X es (tA X.K X.mg Φ W ms)) :
    PA X (e :: es) (tA X.K X.mg Φ W fun ρ h => (ma ρ h).bind fun u h => (ms ρ h).bind fun us h => .ok (u :: us) h) := by
  refine pa_imp (pa_cons ha hr hs) fun σ H Q q => (tG.two monoU q).imp fun x H1 q => q.imp ?_
  rintro y H2 ⟨w2, h2, ρ, u, v, rfl, S, L, F, r1, r2, o2⟩
  exact o2 w2 (x :: y) S Ext.rfl' ⟨x, y, rfl, r1, r2⟩
theorem se_tup {es : List Expr} {ms : Loc → AH → Rs (List U)} {k : Nat} (ha : PA X es (tA X.K X.mg Φ W ms)) : PE X (.Tuple es k pos) (tE X.K X.mg Φ W fun ρ h => (ms ρ h).bind fun us h => if us.length ≤ sln then .ok (.tup us) h else .bad) := by
  refine pe_imp (pe_tup ha) fun σ H Q q => (tG.bind (R := RelUs X.K) q).imp ?_
  rintro x H1 ⟨w1, h1, ρ, u, rfl, S, L, F, r, o⟩
  split at o
  · rename_i hz
    exact ⟨by rw [← r.length]; exact hz, o.newT S r⟩
  · exact o.elim
theorem se_lst {es : List Expr} {ms : Loc → AH → Rs (List U)} (ha : PA X es (tA X.K X.mg Φ W ms)) : PE X (.List es pos) (tE X.K X.mg Φ W fun ρ h => (ms ρ h).bind fun us h => if us.length ≤ sln then newOb (.lst us) h else .bad) := by
  refine pe_imp (pe_lst ha) fun σ H Q q => (tG.bind (R := RelUs X.K) q).imp ?_
  rintro x H1 ⟨w1, h1, ρ, u, rfl, S, L, F, r, o⟩
  split at o
  · rename_i hz
    exact ⟨by rw [← r.length]; exact hz, o.new S rfl fun p w' E e => ⟨_, e, r.mono E⟩⟩
  · exact o.elim
end
end Pl

namespace Pl
open PySem PySem.Spec PyProof.Rows L2
/-! ### calls -/
structure GK (c : TC) (G : Nm → Bool) (K : PySem.W.Frag) (mg : Str → Option Value) : Prop where
  fn : ∀ x f, c.gk x = some (.fn f) → nstr f = x ∧ G f = true
  cls : ∀ x k, c.gk x = some (.cls k) → nstr k = x ∧ ∃ C, mg x = some (.ref C) ∧ CF K C
  con : ∀ x g, c.gk x = some (.con g) → nstr g = x
  exc : ∀ x k, c.gk x = some (.exc k) → nstr k = x
  nm : ∀ x m, c.nm x = some m → nstr m = x
section
variable {K : PySem.W.Frag} {w : Wd} {f : Nm} {u : U} {v : V}
theorem relF_none : ∀ {fs : List (Nm × U)} {gs : List (Str × V)}, RelF K w fs gs → fs.lookup f = none → gs.lookup (nstr f) = none
  | [], _, r, _ => by cases r; rfl
  | (g, x) :: fs, _, ⟨y, gs, e, r1, r2⟩, h => by
    subst e
    by_cases q : f = g
    · subst q; simp [List.lookup] at h
    · have q' : (nstr f == nstr g) = false := by simpa using fun z => q (nstr_inj z)
      have q2 : (f == g) = false := by simpa using q
      simp only [List.lookup_cons, q2] at h
      simp only [List.lookup_cons, q']
      exact relF_none r2 h
theorem relF_some : ∀ {fs : List (Nm × U)} {gs : List (Str × V)}, RelF K w fs gs → fs.lookup f = some u → ∃ v, gs.lookup (nstr f) = some v ∧ RelU K w u v
  | [], _, _, h => by simp [List.lookup] at h
  | (g, x) :: fs, _, ⟨y, gs, e, r1, r2⟩, h => by
    subst e
    by_cases q : f = g
    · subst q
      simp only [List.lookup_cons, beq_self_eq_true] at h
      cases h
      exact ⟨y, by simp only [List.lookup_cons, beq_self_eq_true], r1⟩
    · have q' : (nstr f == nstr g) = false := by simpa using fun z => q (nstr_inj z)
      have q2 : (f == g) = false := by simpa using q
      simp only [List.lookup_cons, q2] at h
      simp only [List.lookup_cons, q']
      exact relF_some r2 h
theorem relF_set (r : RelU K w u v) : ∀ {fs : List (Nm × U)} {gs : List (Str × V)}, RelF K w fs gs → RelF K w (setF f u fs) (putF (nstr f) v gs)
  | [], _, h => by cases h; exact ⟨v, [], rfl, r, rfl⟩
  | (g, x) :: fs, _, ⟨y, gs, e, r1, r2⟩ => by
    subst e
    unfold setF putF
    by_cases q : f = g
    · subst q
      rw [if_pos rfl, if_pos rfl]
      exact ⟨v, gs, rfl, r, r2⟩
    · rw [if_neg q, if_neg fun z => q (nstr_inj z.symm)]
      exact ⟨y, _, rfl, r1, relF_set r r2⟩
theorem relF_len : ∀ {fs : List (Nm × U)} {gs : List (Str × V)}, RelF K w fs gs → fs.length = gs.length
  | [], _, h => by cases h; rfl
  | (_, _) :: _, _, ⟨_, _, e, _, r2⟩ => by subst e; exact congrArg Nat.succ (relF_len r2)
end
theorem pe_or2 {X : Cx} {e : Expr} {t t' : TE} (h : PE X e t) (h' : PE X e t') : PE X e (fun σ H Q => t σ H Q ∨ t' σ H Q) :=
  ⟨fun pins s σ H Q I q => q.elim (h.run pins s σ H Q I) (h'.run pins s σ H Q I)⟩
section
variable {P : Prog} {A : Nm → Addr} {G : Nm → Bool} {X : Cx} {d : Nat} {Φ : L2.St → Prop} {W : WX} {pos p apos : Pos} {es : List Expr} {ms : Loc → AH → Rs (List U)} {o : Expr} {mo : Loc → AH → Rs U} {x : Str}
theorem plain_dbg (hp : plainN x = true) : (x == ("__debug__" : Str)) = false := by
  unfold plainN at hp
  simp only [Bool.and_eq_true, Bool.not_eq_true'] at hp
  exact hp.1.1
/-- a def of the module is called -/
theorem se_call {f : Nm} {F0 : Fn} (F : FnF P A X d) (hr : Room (2 * d) X.A) (tk : Takes X W) (hg : Gl X (nstr f)) (hd : plainN (nstr f) = true) (hm : X.mg (nstr f) = some (.ref (A f)) ∧ PySem.W.keepIn X.K (.ref (A f)) = true)
    (ha : PA X es (tA X.K X.mg Φ W ms)) (h0 : es = [] → ms = fun _ h => .ok [] h) (hs : ∀ e r, es = e :: r → starEach (e :: r) X.env = (false, eval e X.env) :: starEach r X.env ∧ (backTo pos (starEach r X.env)).any (·.1) = false) :
    PE X (.Call (.Name (nstr f) p) es [] pos) (tE X.K X.mg Φ W fun ρ h => (ms ρ h).bind fun us h => if (P.fn f).isSome = true then call P d f us h else .bad) := by
  refine ⟨fun pins s σ H Q I q => ?_⟩
  refine wpAny_Call_Name_kw (ld_glob I hg hm.1 ?_ (plain_dbg hd))
  have fin : ∀ {s1 : Shared} {H1 : Hp} {vs : List V} {us : List Value}, Inv X pins σ H1 s1 → Vals vs us → (∃ w1 h1 ρ u, w1.H = H1 ∧ Sim X.K X.mg w1 h1 ∧ RelL X.K w1 ρ σ ∧ Φ σ ∧ RelUs X.K w1 u vs ∧
      OutG X.K X.mg (RelU X.K) W σ w1 Q (if (P.fn f).isSome = true then call P d f u h1 else .bad)) → wpAny (model X.prog X.w) X.A (PySem.call (.ref (A f)) us) (EP X pins σ Q) X.xe s1 := fun {s1 H1 vs us} I1 rv q => by
    obtain ⟨w1, h1, ρ, u, rfl, S, L, Fi, r, o⟩ := q
    split at o
    · rename_i hs
      obtain ⟨F0, e⟩ := Option.isSome_iff_exists.mp hs
      exact run_f F hr tk I1 e S r rv o
    · exact o.elim
  cases es with
  | nil =>
    have e0 := h0 rfl
    subst e0
    refine PySem.W.callWith_K0 I.kIn hm.2 ?_
    obtain ⟨w, h, ρ, rfl, S, L, Fi, o⟩ := q
    exact fin I .nil ⟨w, h, ρ, [], rfl, S, L, Fi, rfl, o⟩
  | cons e r =>
    obtain ⟨hs1, hs2⟩ := hs e r rfl
    refine PySem.W.callWith_K (h₀ := X.base) I.ok.mod.kin hm.2 (thn (ha.run pos pins s σ H _ I (tG.bind (R := RelUs X.K) q)) fun us s1 hq => ?_) hs1 hs2
    obtain ⟨vs, H1, I1, rv, q1⟩ := hq
    exact ⟨I1.kIn, fin I1 rv q1⟩
/-- a new instance by values -/
theorem run_mk {c f : Nm} {C : Addr} {F0 : Fn} (F : FnF P A X d) (hr : Room (2 * d + 1) X.A) (tk : Takes X W) (M : Mk X.K C (A f)) (hC : X.mg (nstr c) = some (.ref C)) {pins : List (Addr × Obj)} {σ : L2.St} {s : Shared} {Q : VK} {us : List U} {vs : List V} {rs : List Value}
    {w : Wd} {h : AH} (I : Inv X pins σ w.H s) (e : P.fn f = some F0) (S : Sim X.K X.mg w h) (r : RelUs X.K w us vs) (rv : Vals vs rs)
    (o : OutG X.K X.mg (RelU X.K) W σ w Q ((call P d f (.ref h.length :: us) (h ++ [.ins c []])).bind fun u h' => match u with
      | .non => .ok (.ref h.length) h'
      | _ => .bad)) : wpAny (model X.prog X.w) X.A (PySem.call (.ref C) rs) (EP X pins σ Q) X.xe s := by
  obtain ⟨fd, ps, ok, hb, hl⟩ := F.ok f F0 e
  have n1 : w.H (s.heap.objs.size + 1) = none := I.hok.fresh (Nat.le_succ _)
  have n0 : w.H s.heap.objs.size = none := I.hok.fresh (Nat.le_refl _)
  have ne : s.heap.objs.size + 1 ≠ s.heap.objs.size := Nat.succ_ne_self _
  have I2 := Inv.made (C := C) I
  -- the two new objects in the relation
  obtain ⟨S1, E1⟩ := S.grow (a := s.heap.objs.size) (ho := .own (s.heap.objs.size + 1)) n0
  have n1' : upd w.H s.heap.objs.size (.own (s.heap.objs.size + 1)) (s.heap.objs.size + 1) = none := by rw [upd_ne ne]; exact n1
  obtain ⟨S2, E2⟩ := S1.new (o := .ins c []) (ho := .ins C s.heap.objs.size []) n1' rfl fun w' E q => ⟨C, _, [], q, hC, rfl⟩
  have rr : RelUs X.K ⟨fun n => if n = w.N then s.heap.objs.size + 1 else w.μ n, w.N + 1, upd (upd w.H s.heap.objs.size (.own (s.heap.objs.size + 1))) (s.heap.objs.size + 1) (.ins C s.heap.objs.size [])⟩ (.ref h.length :: us) (.ref (s.heap.objs.size + 1) :: vs) := by
    refine .cons ⟨?_, ?_⟩ (r.mono (E1.trans E2))
    · show h.length < w.N + 1
      rw [S.len]; exact Nat.lt_succ_self _
    · show V.ref _ = .ref (if h.length = w.N then _ else _)
      rw [if_pos S.len]
  have r2 : Vals (V.ref (s.heap.objs.size + 1) :: vs) (Value.ref (s.heap.objs.size + 1) :: rs) := .cons rfl rv
  have hn : (U.ref h.length :: us).length = F0.n := by
    cases d with
    | zero => exact o.elim
    | succ d =>
      unfold Pl.call at o
      rw [e] at o
      simp only at o
      by_cases q : (U.ref h.length :: us).length = F0.n
      · exact q
      · rw [if_neg q] at o; exact o.elim
  have hsz : (Value.ref (s.heap.objs.size + 1) :: rs).length = ps.length := by
    have e1 := r2.length
    have e2 := rr.length
    omega
  have b := hb _ (Value.ref (s.heap.objs.size + 1) :: rs) I2.kIn (by rw [List.append_nil]; exact hsz)
  rw [List.append_nil] at b
  refine wpAny_call (make_map (f := A f) I.kIn M.makes M.init (beq_iff_eq.mp M.fn) (codeAny_mono (ok.run _ X.stack _ _ ⟨Value.ref (s.heap.objs.size + 1) :: rs, []⟩ (Value.ref (s.heap.objs.size + 1) :: rs) _
    (fun v H2 => v = .non ∧ Q (.ref (s.heap.objs.size + 1)) H2) (fun cls d H => W cls d σ H) (hr.make C rs []) (I2.env0.make C rs []) b r2 ⟨_, _, _, rfl, S2, rr, ⟨F0, e, hn⟩, ?_⟩) fun rs' s' hq => ?_))
  · have E12 := E1.trans E2
    cases q : call P d f (.ref h.length :: us) (h ++ [.ins c []]) with
    | bad => rw [q] at o; exact o.elim
    | exc k fs h' =>
      rw [q] at o
      exact fun w' cls dd S' E' rx => o w' cls dd S' (E12.trans E') rx
    | ok u h' =>
      rw [q] at o
      intro w' v S' E' rv'
      cases u with
      | non =>
        cases rv'
        refine ⟨rfl, o w' _ S' (E12.trans E') ⟨?_, ?_⟩⟩
        · rw [S.len]; exact Nat.lt_of_lt_of_le (Nat.lt_succ_self _) E'.le
        · have := E'.mu w.N (Nat.lt_succ_self _)
          rw [S.len, this]
          show V.ref _ = .ref (if w.N = w.N then _ else _)
          rw [if_pos rfl]
      | _ => exact o.elim
  · cases rs' with
    | error e => exact tk e s' (XE.of_call I2 (fun _ _ _ q => q) hq)
    | ok fl =>
      cases fl with
      | ret u =>
        obtain ⟨v, H', I3, rv, ev, q3⟩ := I2.after hq
        subst ev
        exact ⟨rv, ⟨V.ref (s.heap.objs.size + 1), H', I3, rfl, q3⟩⟩
      | next => exact False.elim hq
      | brk => exact False.elim hq
      | cont => exact False.elim hq
theorem se_new {c f : Nm} {C : Addr} (F : FnF P A X d) (hr : Room (2 * d + 1) X.A) (tk : Takes X W) (hg : Gl X (nstr c)) (hd : plainN (nstr c) = true) (hC : X.mg (nstr c) = some (.ref C)) (M : Mk X.K C (A f))
    (ha : PA X es (tA X.K X.mg Φ W ms)) (h0 : es = [] → ms = fun _ h => .ok [] h) (hs : ∀ e r, es = e :: r → starEach (e :: r) X.env = (false, eval e X.env) :: starEach r X.env ∧ (backTo pos (starEach r X.env)).any (·.1) = false) (hf : (P.fn f).isSome = true) :
    PE X (.Call (.Name (nstr c) p) es [] pos) (tE X.K X.mg Φ W fun ρ h => (ms ρ h).bind fun us h => (call P d f (.ref h.length :: us) (h ++ [.ins c []])).bind fun u h' => match u with
      | .non => .ok (.ref h.length) h'
      | _ => .bad) := by
  refine ⟨fun pins s σ H Q I q => ?_⟩
  refine wpAny_Call_Name_kw (ld_glob I hg hC ?_ (plain_dbg hd))
  obtain ⟨F0, e⟩ := Option.isSome_iff_exists.mp hf
  cases es with
  | nil =>
    have e0 := h0 rfl
    subst e0
    obtain ⟨w, h, ρ, rfl, S, L, Fi, o⟩ := q
    exact PySem.W.callWith_K0 I.kIn M.kp (run_mk F hr tk M hC I e S (us := []) rfl .nil o)
  | cons a r =>
    obtain ⟨hs1, hs2⟩ := hs a r rfl
    refine PySem.W.callWith_K (h₀ := X.base) I.ok.mod.kin M.kp (thn (ha.run pos pins s σ H _ I (tG.bind (R := RelUs X.K) q)) fun us s1 hq => ?_) hs1 hs2
    obtain ⟨vs, H1, I1, rv, w1, h1, ρ, u, rfl, S, L, Fi, r, o⟩ := hq
    exact ⟨I1.kIn, run_mk F hr tk M hC I1 e S r rv o⟩
/-! ### methods -/
theorem base_ok {e : Expr} {m : Str} {env : Env} (h : notCall0 e = true) : attributeBase e m env (eval e env) = eval e env := by
  unfold attributeBase
  split
  · cases h
  · rfl
theorem few_ok {c : TC} {n : Nat} {ms' : List E} {env : Env} : ∀ {es : List Expr} {ms : List E}, mapO (trE c n) es = some ms → (backTo pos (starEach es env)).all (fun x => !x.1) = true
  | [], _, _ => rfl
  | e :: es, ms, h => by
    unfold mapO at h
    cases e1 : trE c n e with
    | none => rw [e1] at h; cases h
    | some m =>
      rw [e1] at h
      cases e2 : mapO (trE c n) es with
      | none => rw [e2] at h; cases h
      | some ms'' =>
        rw [star_cons e1]
        have ih := few_ok (ms' := ms') (env := env) e2
        show (!false && (backTo pos (starEach es env)).all fun x => !x.1) = true
        rw [ih]
        rfl
theorem eval_meth {m : Str} {env : Env} (hb : notCall0 o = true) (hl : (apos.endLine == pos.line) = true) (hf : methodCallForm (es.length + ([] : List Keyword).length) (backTo pos (starEach es env)) (backToKw pos (keywordEach [] env)) = true) :
    eval (.Call (.Attribute o m apos) es [] pos) env = (do
      let ov ← eval o env
      standAt apos.atName
      let (f, first) ← holding [ov] (getMethod ov m (L2.plainOf o env))
      callWith pos f first (backTo pos (starEach es env)) (backToKw pos (keywordEach [] env))) := by
  rw [arm_eval_Call, base_ok hb]
  refine congrArg _ (funext fun ov => congrArg _ (funext fun _ => ?_))
  exact L2.mcall_line hf hl
/-- a method of an instance -/
def tUM (P : Prog) (X : Cx) (d : Nat) (m : Nm) (Φ : L2.St → Prop) (W : WX) (mo : Loc → AH → Rs U) (ms : Loc → AH → Rs (List U)) : TE := fun σ H Q => tE X.K X.mg Φ W mo σ H fun x H1 =>
  ∃ (w1 : Wd) (h1 : AH) (ρ : Loc) (a : Nat) (c : Nm) (fs : List (Nm × U)) (f : Nm), w1.H = H1 ∧ Sim X.K X.mg w1 h1 ∧ RelL X.K w1 ρ σ ∧ Φ σ ∧ a < w1.N ∧ x = .ref (w1.μ a) ∧ h1[a]? = some (.ins c fs) ∧ fs.lookup m = none ∧ P.meth c m = some f ∧ (P.fn f).isSome = true ∧
    OutG X.K X.mg (RelU X.K) W σ w1 Q ((ms ρ h1).bind fun us h => call P d f (.ref a :: us) h)
theorem form_ok {env : Env} (hall : (backTo pos (starEach es env)).all (fun x => !x.1) = true) (hlen : es.length < 25) : methodCallForm (es.length + ([] : List Keyword).length) (backTo pos (starEach es env)) (backToKw pos (keywordEach [] env)) = true := by
  unfold methodCallForm
  rw [hall]
  show (true && true && decide (es.length + 0 + 0 < 30)) = true
  rw [decide_eq_true (by omega)]
  rfl
theorem se_um {m : Nm} (F : FnF P A X d) (Fc : Facts P X.K X.mg A G) (hr : Room (2 * d) X.A) (tk : Takes X W) (hb : notCall0 o = true) (hl : (apos.endLine == pos.line) = true)
    (hall : (backTo pos (starEach es X.env)).all (fun x => !x.1) = true) (hlen : es.length < 25) (ho : PE X o (tE X.K X.mg Φ W mo)) (ha : PA X es (tA X.K X.mg Φ W ms)) (h0 : es = [] → ms = fun _ h => .ok [] h)
    (hs : ∀ e r, es = e :: r → starEach (e :: r) X.env = (false, eval e X.env) :: starEach r X.env ∧ (backTo pos (starEach r X.env)).any (·.1) = false) :
    PE X (.Call (.Attribute o (nstr m) apos) es [] pos) (tUM P X d m Φ W mo ms) := by
  refine ⟨fun pins s σ H Q I q => ?_⟩
  refine PySem.W.methodCall_KW (pl := L2.plainOf o X.env) (thn (ho.run pins s σ H _ I q) fun u s1 hq => ?_) (eval_meth hb hl (form_ok hall hlen))
  obtain ⟨x, H1, I1, rx, w1, h1, ρ, a, c, fs, f, rfl, S, L, Fi, hlt, rfl, ea, hn, hm, hf, o1⟩ := hq
  obtain rfl : u = Value.ref (w1.μ a) := rx
  obtain ⟨C, hC, cf, me⟩ := Fc.meth c m f hm
  obtain ⟨C', dx, gs, e1, e2, e3⟩ := S.obj a _ ea
  rw [hC] at e2; cases e2
  refine getmeth_ok I1 e1 cf.cls me (relF_none e3 hn) ?_
  obtain ⟨F0, e⟩ := Option.isSome_iff_exists.mp hf
  cases es with
  | nil =>
    have e0 := h0 rfl
    subst e0
    exact PySem.W.callWith_K0 (first := [.ref (w1.μ a)]) I1.kIn me.kp (run_f F hr tk I1 e S (us := [.ref a]) (vs := [.ref (w1.μ a)]) ⟨_, _, rfl, ⟨hlt, rfl⟩, rfl⟩ (.cons rfl .nil) o1)
  | cons b r =>
    obtain ⟨hs1, hs2⟩ := hs b r rfl
    refine PySem.W.callWith_K (first := [.ref (w1.μ a)]) (h₀ := X.base) I.ok.mod.kin me.kp (thn (ha.run pos pins s1 σ _ _ I1 ⟨w1, h1, ρ, rfl, S, L, Fi, OutG.bind (R := RelUs X.K) o1⟩) fun us s2 hq => ?_) hs1 hs2
    obtain ⟨vs, H2, I2, rv, w2, h2, us', rfl, S2, E2, r2, o2⟩ := hq
    refine ⟨I2.kIn, ?_⟩
    have e4 : w2.μ a = w1.μ a := E2.mu a hlt
    refine run_f (us := .ref a :: us') (vs := .ref (w1.μ a) :: vs) (rs := Value.ref (w1.μ a) :: us) F hr tk I2 e S2 ?_ (.cons rfl rv) o2
    exact ⟨_, _, rfl, ⟨Nat.lt_of_lt_of_le hlt E2.le, by rw [e4]⟩, r2⟩
/-- a method of a list -/
theorem se_lm {m : Nm} {id : String} (L : LMt X m id) (hb : notCall0 o = true) (hl : (apos.endLine == pos.line) = true)
    (hall : (backTo pos (starEach es X.env)).all (fun x => !x.1) = true) (hlen : es.length < 25) (ho : PE X o (tE X.K X.mg Φ W mo)) (ha : PA X es (tA X.K X.mg Φ W ms)) (h0 : es = [] → ms = fun _ h => .ok [] h)
    (hs : ∀ e r, es = e :: r → starEach (e :: r) X.env = (false, eval e X.env) :: starEach r X.env ∧ (backTo pos (starEach r X.env)).any (·.1) = false) :
    PE X (.Call (.Attribute o (nstr m) apos) es [] pos) (tBM X.K "list" (rMt X.K m) (tE X.K X.mg Φ W mo) (tA X.K X.mg Φ W ms)) := by
  cases es with
  | nil =>
    have e0 := h0 rfl
    subst e0
    refine pe_imp (pe_bm0 PySem.F.plainAttrs_list L.slot L.ty L.run ho (base_ok hb) hl) fun σ H Q q => q.imp ?_
    rintro x H1 ⟨ty, w, h, ρ, rfl, S, _, _, o⟩
    exact ⟨ty, o w [] S Ext.rfl' rfl⟩
  | cons b r =>
    obtain ⟨hs1, hs2⟩ := hs b r rfl
    refine pe_bm PySem.F.plainAttrs_list L.slot L.ty L.run ho ha (base_ok hb) ?_ hl hs1 hs2
    rw [hall]
    show (true && true && decide ((b :: r).length + 0 + 0 < 30)) = true
    rw [decide_eq_true (by omega)]
    rfl
theorem se_meth {m : Nm} (F : FnF P A X d) (Fc : Facts P X.K X.mg A G) (hr : Room (2 * d) X.A) (hu : X.A.units + 102 < cLine) (tk : Takes X W) (hb : notCall0 o = true) (hl : (apos.endLine == pos.line) = true)
    (hall : (backTo pos (starEach es X.env)).all (fun x => !x.1) = true) (hlen : es.length < 25) (ho : PE X o (tE X.K X.mg Φ W mo)) (ha : PA X es (tA X.K X.mg Φ W ms)) (h0 : es = [] → ms = fun _ h => .ok [] h)
    (hs : ∀ e r, es = e :: r → starEach (e :: r) X.env = (false, eval e X.env) :: starEach r X.env ∧ (backTo pos (starEach r X.env)).any (·.1) = false) :
    PE X (.Call (.Attribute o (nstr m) apos) es [] pos) (tE X.K X.mg Φ W fun ρ h => (mo ρ h).bind fun u h => match u with
      | .ref a => match h[a]? with
        | some (.ins c fs) => match fs.lookup m, P.meth c m with
          | none, some f => if (P.fn f).isSome = true then (ms ρ h).bind fun us h => call P d f (.ref a :: us) h else .bad
          | _, _ => .bad
        | some (.lst _) => if isLm m = true then (ms ρ h).bind fun us h => mtL m a us h else .bad
        | _ => .bad
      | _ => .bad) := by
  have um := se_um (m := m) F Fc hr tk hb hl hall hlen ho ha h0 hs
  -- the instance's way
  have way1 : ∀ {σ : L2.St} {H : Hp} {Q : VK} {w : Wd} {h : AH} {ρ : Loc} {u : U} {h1 : AH}, w.H = H → Sim X.K X.mg w h → RelL X.K w ρ σ → Φ σ → mo ρ h = .ok u h1 →
      (∃ a c fs f, u = .ref a ∧ h1[a]? = some (.ins c fs) ∧ fs.lookup m = none ∧ P.meth c m = some f ∧ (P.fn f).isSome = true ∧ OutG X.K X.mg (RelU X.K) W σ w Q ((ms ρ h1).bind fun us h => call P d f (.ref a :: us) h)) → tUM P X d m Φ W mo ms σ H Q := by
    rintro σ H Q w h ρ u h1 hw S L Fi e ⟨a, c, fs, f, rfl, ea, hn, hm, hf, o1⟩
    refine ⟨w, h, ρ, hw, S, L, Fi, ?_⟩
    rw [e]
    rintro w' v S' E' ⟨hlt, rfl⟩
    exact ⟨w', h1, ρ, a, c, fs, f, rfl, S', L.mono E', Fi, hlt, rfl, ea, hn, hm, hf, OutG.mono E' o1⟩
  have stop : ∀ {σ : L2.St} {H : Hp} {Q : VK} {w : Wd} {h : AH} {ρ : Loc}, w.H = H → Sim X.K X.mg w h → RelL X.K w ρ σ → Φ σ → (∀ u h1, mo ρ h ≠ .ok u h1) → OutG X.K X.mg (RelU X.K) W σ w Q (mo ρ h) → tUM P X d m Φ W mo ms σ H Q := by
    intro σ H Q w h ρ hw S L Fi hne o1
    refine ⟨w, h, ρ, hw, S, L, Fi, ?_⟩
    cases e : mo ρ h with
    | ok u h1 => exact absurd e (hne u h1)
    | exc c fs h1 => rw [e] at o1; exact o1
    | bad => rw [e] at o1; exact o1.elim
  cases hm : lmId m with
  | none =>
    refine pe_imp um fun σ H Q q => ?_
    obtain ⟨w, h, ρ, hw, S, L, Fi, o1⟩ := q
    dsimp only at o1
    cases e : mo ρ h with
    | exc c fs h1 => rw [e] at o1; exact stop hw S L Fi (fun u h1 z => by rw [e] at z; cases z) (by rw [e]; exact o1)
    | bad => rw [e] at o1; exact o1.elim
    | ok u h1 =>
      rw [e] at o1
      cases u with
      | ref a =>
        cases e1 : h1[a]? with
        | none => simp only [Rs.bind_ok, e1] at o1; exact o1.elim
        | some ob =>
          cases ob with
          | frz xs => simp only [Rs.bind_ok, e1] at o1; exact o1.elim
          | lst xs =>
            simp only [Rs.bind_ok, e1] at o1
            have : isLm m = false := by cases m <;> first | rfl | cases hm
            rw [this] at o1
            exact o1.elim
          | ins c fs =>
            simp only [Rs.bind_ok, e1] at o1
            split at o1
            · rename_i f h1' h2'
              split at o1
              · exact way1 hw S L Fi e ⟨a, c, fs, f, rfl, e1, h1', h2', by assumption, o1⟩
              · exact o1.elim
            · exact o1.elim
      | _ => exact o1.elim
  | some id =>
    refine pe_imp (pe_or2 um (se_lm (lm_ok hu hm) hb hl hall hlen ho ha h0 hs)) fun σ H Q q => ?_
    obtain ⟨w, h, ρ, hw, S, L, Fi, o1⟩ := q
    dsimp only at o1
    cases e : mo ρ h with
    | exc c fs h1 => rw [e] at o1; exact .inl (stop hw S L Fi (fun u h1 z => by rw [e] at z; cases z) (by rw [e]; exact o1))
    | bad => rw [e] at o1; exact o1.elim
    | ok u h1 =>
      rw [e] at o1
      cases u with
      | ref a =>
        cases e1 : h1[a]? with
        | none => simp only [Rs.bind_ok, e1] at o1; exact o1.elim
        | some ob =>
          cases ob with
          | frz xs => simp only [Rs.bind_ok, e1] at o1; exact o1.elim
          | lst xs =>
            simp only [Rs.bind_ok, e1] at o1
            have hlm : isLm m = true := by cases m <;> first | rfl | cases hm
            rw [if_pos hlm] at o1
            refine .inr ⟨w, h, ρ, hw, S, L, Fi, ?_⟩
            rw [e]
            rintro w' v S' E' ⟨hlt, rfl⟩
            obtain ⟨vs, hv, _⟩ := S'.obj a _ e1
            refine ⟨.inl ⟨rfl, vs, .inl (.inl hv)⟩, w', h1, ρ, rfl, S', L.mono E', Fi, (OutG.bind (R := RelUs X.K) (OutG.mono E' o1)).imp ?_⟩
            rintro us H2 ⟨w2, h2, us', rfl, S2, E2, r2, o2⟩
            have e4 : w2.μ a = w'.μ a := E2.mu a hlt
            rw [← e4]
            exact mt_ok S2 r2 m (Nat.lt_of_lt_of_le hlt E2.le) o2
          | ins c fs =>
            simp only [Rs.bind_ok, e1] at o1
            split at o1
            · rename_i f h1' h2'
              split at o1
              · exact .inl (way1 hw S L Fi e ⟨a, c, fs, f, rfl, e1, h1', h2', by assumption, o1⟩)
              · exact o1.elim
            · exact o1.elim
      | _ => exact o1.elim
end
end Pl

namespace Pl
open PySem PySem.Spec PyProof.Rows L2
/-! ### built-in functions -/
theorem boot_bi : ∀ b, bootBuiltins (biName b) = some (biVal b) := by
  intro b
  cases b <;> first | rfl | kernel_rfl
theorem bi_plain : ∀ b, biName b ≠ "__name__" ∧ (biName b == ("__debug__" : Str)) = false := by
  intro b
  cases b <;> exact ⟨by decide, by decide⟩
section
variable {P : Prog} {A : Nm → Addr} {G : Nm → Bool} {X : Cx} {d : Nat} {Φ : L2.St → Prop} {W : WX} {pos p apos : Pos} {a e : Expr} {es : List Expr} {ma : Loc → AH → Rs U} {ms : Loc → AH → Rs (List U)}
theorem se_bi {b : Bi} (hu : X.A.units + 103 < cLine) (hc : X.calm = true ∨ b = .int) (hg : Gl X (biName b)) (hm : X.mg (biName b) = none) (ha : PA X (e :: es) (tA X.K X.mg Φ W ms))
    (hs : starEach (e :: es) X.env = (false, eval e X.env) :: starEach es X.env) (hpl : (backTo pos (starEach es X.env)).any (·.1) = false) :
    PE X (.Call (.Name (biName b) p) (e :: es) [] pos) (tE X.K X.mg Φ W fun ρ h => (ms ρ h).bind fun us h => biop b us h) := by
  have im : ∀ {σ : L2.St} {H : Hp} {Q : VK}, tE X.K X.mg Φ W (fun ρ h => (ms ρ h).bind fun us h => biop b us h) σ H Q → tCB (rBi X.K b) (tA X.K X.mg Φ W ms) σ H Q := fun {σ H Q} q => by
    refine (tG.bind (R := RelUs X.K) q).imp ?_
    rintro vs H1 ⟨w1, h1, ρ, us, rfl, S, L, F, r, o⟩
    exact bi_ok S r b o
  have c := call_bi (X := X) hu b hc
  have bo := boot_bi b
  obtain ⟨hn, hdb⟩ := bi_plain b
  by_cases q : ∃ id, biVal b = .builtin id
  · obtain ⟨id, e1⟩ := q
    rw [e1] at c bo
    exact pe_imp (pe_callB c hg hm bo ha hn hdb hs hpl) fun σ H Q => im
  · have : ∃ T, biVal b = .type T := by
      cases b <;> first | exact ⟨_, rfl⟩ | exact absurd ⟨_, rfl⟩ q
    obtain ⟨T, e1⟩ := this
    rw [e1] at c bo
    exact pe_imp (pe_callTy c hg hm bo ha hn hdb hs hpl) fun σ H Q => im
/-! ### isinstance -/
def bkName : BK → String
  | .non => "NoneType" | .bl => "bool" | .int => "int" | .str => "str" | .tup => "tuple" | .lst => "list"
def tyName : Ty → Option String
  | .int => some "int" | .bool => some "bool" | .str => some "str" | .tuple => some "tuple" | .list => some "list" | .dict => some "dict" | .own _ => none
theorem kit_bb : ∀ (k : BK) (t : Ty) (T : String), tyName t = some T → kitB (bkName k) T = some (isB k t) := by
  intro k t T h
  cases t <;> cases h <;> (cases k <;> decide +kernel)
theorem bk_in : ∀ k, bkName k ∈ bTys := by
  intro k
  cases k <;> decide
theorem ty_in : ∀ {t : Ty} {T : String}, tyName t = some T → T ∈ bTys := by
  intro t T h
  cases t <;> cases h <;> decide
/-- a class as a value, with what it stands for -/
structure TyOk (K : PySem.W.Frag) (mg : Str → Option Value) (t : Ty) (v : V) (u : Value) : Prop where
  cls : ClsV v u
  of : (∃ T, tyName t = some T ∧ u = .type T) ∨ ∃ k D, t = .own k ∧ mg (nstr k) = some (.ref D) ∧ u = .ref D ∧ CF K D
section
variable {K : PySem.W.Frag} {mg : Str → Option Value} {w : Wd} {h : AH} {x : V} {u : U}
theorem kind_bk (S : Sim K mg w h) (r : RelU K w u x) {k : BK} (e : kindU h u = some (.inl k)) : TyX K w.H x (.type (bkName k)) := by
  cases u with
  | non => cases e; cases r; exact .base .non
  | bl b => cases e; cases r; exact .base (.bl b)
  | int i => cases e; cases r; exact .base (.int i)
  | str s => cases e; cases r; exact .base (.str s)
  | tup xs =>
    cases e
    obtain ⟨a, vs, rfl, t, _⟩ := r
    rcases t with t | ⟨o, its, n, h1, h2, _⟩
    · exact .base (.tup t)
    · exact .kTuple h1 h2
  | ref a =>
    obtain ⟨_, rfl⟩ := r
    simp only [kindU] at e
    split at e
    · rename_i xs ea
      cases e
      obtain ⟨vs, hv, _⟩ := S.obj a _ ea
      exact .base (.lst hv)
    · cases e
    · cases e
theorem isi_ty (Fc : Facts P K mg A G) (S : Sim K mg w h) (r : RelU K w u x) {t0 : Ty} {b0 : Bool} (e0 : isiT P h u t0 = some b0) :
    ∃ ty, TyX K w.H x ty ∧ ∀ {t : Ty} {v : V} {tv : Value} {b : Bool}, TyOk K mg t v tv → isiT P h u t = some b → PySem.W.kitOne K ty tv = some b := by
  unfold isiT at e0
  split at e0
  · rename_i bk ek
    refine ⟨_, kind_bk S r ek, fun {t v tv b} k e => ?_⟩
    unfold isiT at e
    rw [ek] at e
    cases e
    rcases k.of with ⟨T, h1, rfl⟩ | ⟨kk, D, rfl, h1, rfl, cf⟩
    · exact kit_ty (kit_bb bk t T h1)
    · rw [Fc.kitB kk D (bkName bk) h1 cf (bk_in bk)]
      cases bk <;> rfl
  · rename_i c ek
    split at e0
    · rename_i hi
      cases u with
      | ref a =>
        obtain ⟨_, rfl⟩ := r
        have ek' := ek
        simp only [kindU] at ek
        split at ek
        · cases ek
        · rename_i c' fs ea
          cases ek
          obtain ⟨C, dx, gs, h1, h2, _⟩ := S.obj a _ ea
          obtain ⟨f, hf⟩ := Option.isSome_iff_exists.mp hi
          obtain ⟨C', e1, cf, _⟩ := Fc.init _ _ hf
          rw [h2] at e1; cases e1
          refine ⟨.ref C, .base (.ins h1 cf.cls cf.ga cf.gs cf.tk cf.mro), fun {t v tv b} k e => ?_⟩
          unfold isiT at e
          rw [ek'] at e
          simp only [hi, if_true] at e
          rcases k.of with ⟨T, g1, rfl⟩ | ⟨kk, D, rfl, g1, rfl, cfD⟩
          · rw [Fc.kitT _ _ T hi h2 (ty_in g1)]
            cases t <;> first | exact e | cases g1
          · rw [Fc.kitO _ kk _ D hi h2 g1 cfD]
            exact e
        · cases ek
      | _ => cases ek
    · cases e0
  · cases e0
inductive EachK {α β γ : Type} (R : α → β → γ → Prop) : List α → List β → List γ → Prop
  | nil : EachK R [] [] []
  | cons {a : α} {b : β} {c : γ} {as : List α} {bs : List β} {cs : List γ} : R a b c → EachK R as bs cs → EachK R (a :: as) (b :: bs) (c :: cs)
theorem isi_any {ty : Value} (g : ∀ {t : Ty} {v : V} {tv : Value} {b : Bool}, TyOk K mg t v tv → isiT P h u t = some b → PySem.W.kitOne K ty tv = some b) : ∀ {ts : List Ty} {vs : List V} {tvs : List Value} {b : Bool}, EachK (TyOk K mg) ts vs tvs → isiTs P h u ts = some b → PySem.W.kitAny K ty tvs = some b
  | _, _, _, b, .nil, e => by cases e; rfl
  | _, _, _, b, .cons (a := t) k ks, e => by
    unfold isiTs at e
    cases e1 : isiT P h u t with
    | none => rw [e1] at e; cases e
    | some c =>
      rw [e1] at e
      have q := g k e1
      cases c with
      | true => cases e; exact kitAny_cons q (fun z => nomatch z) (fun _ => rfl)
      | false => exact kitAny_cons q (fun _ => isi_any g ks e) (fun z => nomatch z)
theorem each_cls : ∀ {ts : List Ty} {vs : List V} {tvs : List Value}, EachK (TyOk K mg) ts vs tvs → Paired ClsV vs tvs
  | _, _, _, .nil => .nil
  | _, _, _, .cons k ks => .cons k.cls (each_cls ks)
end
/-- a type's name -/
theorem ty_name {c : TC} {t : Expr} {ty : Ty} (gk : GK c G X.K X.mg) (Fc : Facts P X.K X.mg A G) (hsc : X.env.scope = c.sc) (e : tyOf c t = some ty) : ∃ v u, PE X t (tC v) ∧ TyOk X.K X.mg ty v u := by
  unfold tyOf at e
  split at e
  · rename_i x pp
    split at e
    · rename_i hc
      simp only [Bool.and_eq_true] at hc
      have hg : Gl X x := by
        show X.env.scope.names.lookup x = _
        rw [hsc]; exact gloB_ok hc.1.2
      have hp := hc.2
      have hdb := plain_dbg hp
      have hnn : x ≠ "__name__" := by
        unfold plainN at hp
        simp only [Bool.and_eq_true, Bool.not_eq_true', beq_eq_false_iff_ne] at hp
        exact hp.2
      split at e
      · rename_i hx; cases e; subst hx
        exact ⟨.ty "int", .type "int", pe_bltn hg (Fc.bi .int) (boot_bi .int) rfl hnn hdb, .ty _, .inl ⟨_, rfl, rfl⟩⟩
      split at e
      · rename_i hx; cases e; subst hx
        exact ⟨.ty "bool", .type "bool", pe_bltn hg Fc.tys.2 (by first | rfl | kernel_rfl) rfl hnn hdb, .ty _, .inl ⟨_, rfl, rfl⟩⟩
      split at e
      · rename_i hx; cases e; subst hx
        exact ⟨.ty "str", .type "str", pe_bltn hg (Fc.bi .str) (boot_bi .str) rfl hnn hdb, .ty _, .inl ⟨_, rfl, rfl⟩⟩
      split at e
      · rename_i hx; cases e; subst hx
        exact ⟨.ty "tuple", .type "tuple", pe_bltn hg (Fc.bi .tuple) (boot_bi .tuple) rfl hnn hdb, .ty _, .inl ⟨_, rfl, rfl⟩⟩
      split at e
      · rename_i hx; cases e; subst hx
        exact ⟨.ty "list", .type "list", pe_bltn hg (Fc.bi .list) (boot_bi .list) rfl hnn hdb, .ty _, .inl ⟨_, rfl, rfl⟩⟩
      split at e
      · rename_i hx; cases e; subst hx
        exact ⟨.ty "dict", .type "dict", pe_bltn hg Fc.tys.1 (by first | rfl | kernel_rfl) rfl hnn hdb, .ty _, .inl ⟨_, rfl, rfl⟩⟩
      split at e
      · rename_i k ek
        cases e
        obtain ⟨e1, C, e2, cf⟩ := gk.cls x k ek
        subst e1
        exact ⟨.ref C, .ref C, pe_glob hg e2 rfl hdb, .own C, .inr ⟨k, C, rfl, e2, rfl, cf⟩⟩
      · cases e
    · cases e
  · cases e
theorem star_tys {c : TC} : ∀ {ts : List Expr} {tys : List Ty} {env : Env}, mapO (tyOf c) ts = some tys → ∀ e r, ts = e :: r → starEach (e :: r) env = (false, eval e env) :: starEach r env := by
  intro ts tys env h e r he
  subst he
  unfold mapO at h
  cases e1 : tyOf c e with
  | none => rw [e1] at h; cases h
  | some t =>
    cases e
    case Starred => simp only [tyOf] at e1; cases e1
    all_goals rfl
/-- the names of several types -/
theorem ty_names {c : TC} (gk : GK c G X.K X.mg) (Fc : Facts P X.K X.mg A G) (hsc : X.env.scope = c.sc) : ∀ {ts : List Expr} {tys : List Ty}, mapO (tyOf c) ts = some tys → ∃ vs us, PA X ts (fun _ H Q => Q vs H) ∧ EachK (TyOk X.K X.mg) tys vs us
  | [], _, e => by
    cases e
    exact ⟨[], [], pa_imp pa_nil fun _ _ _ q => q, .nil⟩
  | t :: ts, tys, e => by
    have e0 := e
    unfold mapO at e
    cases e1 : tyOf c t with
    | none => rw [e1] at e; cases e
    | some ty =>
      rw [e1] at e
      cases e2 : mapO (tyOf c) ts with
      | none => rw [e2] at e; cases e
      | some tys' =>
        rw [e2] at e; cases e
        obtain ⟨v, u, h1, h2⟩ := ty_name gk Fc hsc e1
        obtain ⟨vs, us, h3, h4⟩ := ty_names gk Fc hsc e2
        exact ⟨v :: vs, u :: us, pa_imp (pa_cons h1 h3 (star_tys e0 t ts rfl)) fun _ _ _ q => q, .cons h2 h4⟩
theorem sim_up {K : PySem.W.Frag} {mg : Str → Option Value} {w : Wd} {h : AH} {pp : Addr} {ho : HO} (S : Sim K mg w h) (hn : w.H pp = none) : ∃ w', w'.H = upd w.H pp ho ∧ Sim K mg w' h ∧ Ext w w' := by
  obtain ⟨S2, E2⟩ := S.grow (a := pp) (ho := ho) hn
  exact ⟨_, rfl, S2, E2⟩
theorem one_star {t : Expr} {c : TC} {ty : Ty} {env : Env} (e : tyOf c t = some ty) : starEach [t] env = [(false, eval t env)] := by
  cases t
  case Starred => simp only [tyOf] at e; cases e
  all_goals rfl
/-- isinstance(a, T) -/
theorem se_isi1 {c : TC} {t : Expr} {ty : Ty} (gk : GK c G X.K X.mg) (Fc : Facts P X.K X.mg A G) (hsc : X.env.scope = c.sc) (hg : Gl X ("isinstance" : Str)) (ha : PE X a (tE X.K X.mg Φ W ma)) (hs : starEach [a, t] X.env = (false, eval a X.env) :: starEach [t] X.env) (e : tyOf c t = some ty) :
    PE X (.Call (.Name "isinstance" p) [a, t] [] pos) (tE X.K X.mg Φ W fun ρ h => (ma ρ h).bind fun u h => .opt ((isiA P h u [ty]).map .bl) h) := by
  obtain ⟨v, u, h1, h2⟩ := ty_name gk Fc hsc e
  have h1' : PA X [t] (tCons (tC v) tNil) := pa_cons h1 pa_nil (one_star e)
  refine pe_imp (pe_callB call_isi hg Fc.isi (by first | rfl | kernel_rfl) (pa_cons ha h1' hs) (by decide) (by decide) hs ?_) fun σ H Q q => (tG.bind (R := RelU X.K) q).imp ?_
  · rw [one_star e]; rfl
  · rintro x H1 ⟨w1, h1, ρ, uu, rfl, S, L, F, r, o⟩
    obtain ⟨z, ez, o2⟩ := o.opt
    have ei : isiA P h1 uu [ty] = isiT P h1 uu ty := by
      show isiTs P h1 uu [ty] = _
      unfold isiTs
      cases isiT P h1 uu ty with
      | none => rfl
      | some b => cases b <;> rfl
    rw [ei] at ez
    cases e1 : isiT P h1 uu ty with
    | none => rw [e1] at ez; cases ez
    | some b =>
      rw [e1] at ez; cases ez
      obtain ⟨tt, t1, t2⟩ := isi_ty Fc S r e1
      exact ⟨x, v, tt, u, b, rfl, h2.cls, t1, t2 h2 e1, o2.here S rfl⟩
/-- isinstance(a, (T, ..)) -/
theorem se_isiN {c : TC} {ts : List Expr} {tys : List Ty} {kk : Nat} {pt : Pos} (gk : GK c G X.K X.mg) (Fc : Facts P X.K X.mg A G) (hsc : X.env.scope = c.sc) (hg : Gl X ("isinstance" : Str)) (ha : PE X a (tE X.K X.mg Φ W ma))
    (hs : starEach [a, .Tuple ts kk pt] X.env = (false, eval a X.env) :: starEach [.Tuple ts kk pt] X.env) (e : mapO (tyOf c) ts = some tys) (hl : ts.length ≤ sln) :
    PE X (.Call (.Name "isinstance" p) [a, .Tuple ts kk pt] [] pos) (tE X.K X.mg Φ W fun ρ h => (ma ρ h).bind fun u h => .opt ((isiA P h u tys).map .bl) h) := by
  obtain ⟨vs, us, h1, h2⟩ := ty_names gk Fc hsc e
  have h1' : PA X [.Tuple ts kk pt] (tCons (tTup fun _ H Q => Q vs H) tNil) := pa_cons (pe_tup h1) pa_nil rfl
  refine pe_imp (pe_callB call_isiT hg Fc.isi (by first | rfl | kernel_rfl) (pa_cons ha h1' hs) (by decide) (by decide) hs rfl) fun σ H Q q => (tG.bind (R := RelU X.K) q).imp ?_
  rintro x H1 ⟨w1, h1, ρ, uu, rfl, S, L, F, r, o⟩
  obtain ⟨z, ez, o2⟩ := o.opt
  cases e1 : isiA P h1 uu tys with
  | none => rw [e1] at ez; cases ez
  | some b =>
    rw [e1] at ez; cases ez
    have el : vs.length = ts.length := by
      have := mapO_length e
      have e3 : ∀ {as : List Ty} {bs : List V} {cs : List Value}, EachK (TyOk X.K X.mg) as bs cs → bs.length = as.length := by
        intro as bs cs q
        induction q with
        | nil => rfl
        | cons _ _ ih => exact congrArg Nat.succ ih
      rw [e3 h2, this]
    refine ⟨by rw [el]; exact hl, fun pp hp => ?_⟩
    obtain ⟨w2, hw2, S2, E2⟩ := sim_up (ho := .tup vs) S hp
    unfold isiA at e1
    split at e1
    · cases e1
    · cases tys with
      | nil => rename_i q; exact absurd rfl q
      | cons t0 tr =>
        have : ∃ b0, isiT P h1 uu t0 = some b0 := by
          unfold isiTs at e1
          cases q : isiT P h1 uu t0 with
          | none => rw [q] at e1; cases e1
          | some b0 => exact ⟨b0, rfl⟩
        obtain ⟨b0, q0⟩ := this
        obtain ⟨tt, t1, t2⟩ := isi_ty Fc S2 (r.mono E2) q0
        rw [hw2] at t1
        have o3 := OutG.mono E2 o2
        have fin := o3.here (v := .bl b) S2 rfl
        rw [hw2] at fin
        exact ⟨x, pp, vs, tt, us, b, rfl, upd_same, each_cls h2, t1, isi_any t2 h2 e1, fin⟩
/-! ### fields -/
theorem se_fld {f : Nm} (Fc : Facts P X.K X.mg A G) (hb : notCall0 a = true) (ha : PE X a (tE X.K X.mg Φ W ma)) : PE X (.Attribute a (nstr f) pos) (tE X.K X.mg Φ W fun ρ h => (ma ρ h).bind fun u h => match u with
    | .ref n => match getI h n with
      | some (c, fs) => if (P.flds c).contains f = true then .opt (fs.lookup f) h else .bad
      | none => .bad
    | _ => .bad) := by
  refine pe_imp (pe_fld ha (base_ok hb)) fun σ H Q q => (tG.bind (R := RelU X.K) q).imp ?_
  rintro x H1 ⟨w1, h1, ρ, u, rfl, S, L, F, r, o⟩
  cases u with
  | ref n =>
    obtain ⟨hlt, rfl⟩ := r
    cases e : getI h1 n with
    | none => simp only [e] at o; exact o.elim
    | some cf =>
      obtain ⟨c, fs⟩ := cf
      simp only [e] at o
      split at o
      · rename_i hf
        obtain ⟨u, e1, o2⟩ := o.opt
        obtain ⟨C, dx, gs, g1, g2, g3⟩ := S.obj n _ (getI_at e)
        obtain ⟨C', e2, cl, na⟩ := Fc.flds c f hf
        rw [g2] at e2; cases e2
        obtain ⟨v, e3, r3⟩ := relF_some g3 e1
        exact ⟨_, C, dx, gs, v, rfl, g1, cl, na, e3, o2.here S r3⟩
      · exact o.elim
  | _ => exact o.elim
end
end Pl

namespace Pl
open PySem PySem.Spec PyProof.Rows L2
/-! ### what is walked -/
structure RI (K : PySem.W.Frag) (mg : Str → Option Value) (w0 : Wd) (p : List U × List (Nat × List U)) (J : It) : Prop where
  go : ∀ (i : Nat) (w : Wd) (h : AH) (u : U), Ext w0 w → Sim K mg w h → stands p.2 h = true → p.1[i]? = some u → J.go i w.H ∧ ∀ x H', J.yld i w.H x H' → ∃ w' : Wd, w'.H = H' ∧ Sim K mg w' h ∧ Ext w w' ∧ RelU K w' u x
  stop : ∀ (w : Wd) (h : AH), Ext w0 w → Sim K mg w h → stands p.2 h = true → J.stop p.1.length w.H
theorem monoI {K : PySem.W.Frag} {mg : Str → Option Value} : MonoR (RI K mg) := fun _ _ _ _ e r => ⟨fun i w h u E => r.go i w h u (e.trans E), fun w h E => r.stop w h (e.trans E)⟩
theorem stands_at {g : List (Nat × List U)} {h : AH} {n : Nat} {xs : List U} (s : stands g h = true) (m : (n, xs) ∈ g) : getL h n = some xs := by
  have := List.all_eq_true.mp s _ m
  simpa using this
section
variable {K : PySem.W.Frag} {mg : Str → Option Value} {w0 : Wd} {n : Nat} {xs : List U}
/-- a list that stands, at a later time -/
theorem list_later {w : Wd} {h : AH} (hn : n < w0.N) (E : Ext w0 w) (S : Sim K mg w h) (q : getL h n = some xs) : ∃ vs, SqL K w.H (w0.μ n) vs ∧ RelUs K w xs vs := by
  obtain ⟨_, vs, s, r⟩ := getL_rel S q
  rw [E.mu n hn] at s
  exact ⟨vs, s, r⟩
theorem ri_list (hn : n < w0.N) : RI K mg w0 (xs, [(n, xs)]) (Itl K (w0.μ n)) where
  go := fun i w h u E S st e => by
    obtain ⟨vs, s, r⟩ := list_later hn E S (stands_at st List.mem_cons_self)
    obtain ⟨v, h1, h2⟩ := r.get e
    refine ⟨⟨vs, v, s, h1⟩, fun x H' y => ?_⟩
    obtain ⟨e1, y⟩ := y
    have := y vs s
    rw [h1] at this; cases this
    exact ⟨w, e1.symm, S, Ext.rfl', h2⟩
  stop := fun w h E S st => by
    obtain ⟨vs, s, r⟩ := list_later hn E S (stands_at st List.mem_cons_self)
    exact ⟨vs, s, by rw [r.length]; exact Nat.le_refl _⟩
theorem ri_tup {a : Addr} {vs : List V} (t : TpA K w0.H a vs) (r : RelUs K w0 xs vs) : RI K mg w0 (xs, []) (Itt K a) where
  go := fun i w h u E S st e => by
    obtain ⟨v, h1, h2⟩ := (r.mono E).get e
    refine ⟨⟨vs, v, (t.mono E).sq, h1⟩, fun x H' y => ?_⟩
    obtain ⟨e1, y⟩ := y
    have := y vs (t.mono E).sq
    rw [h1] at this; cases this
    exact ⟨w, e1.symm, S, Ext.rfl', h2⟩
  stop := fun w h E S st => ⟨vs, (t.mono E).sq, by rw [r.length]; exact Nat.le_refl _⟩
theorem ri_rng (lo : Int) (k : Nat) : RI K mg w0 ((List.range k).map fun (j : Nat) => .int (lo + j), []) (Itr lo k) where
  go := fun i w h u E S st e => by
    have hi : i < k := by
      by_cases hi : i < k
      · exact hi
      · rw [List.getElem?_eq_none (by simp; omega)] at e; cases e
    have eu : u = .int (lo + i) := by
      rw [List.getElem?_map, List.getElem?_range hi] at e
      cases e
      rfl
    subst eu
    refine ⟨hi, fun x H' y => ?_⟩
    obtain ⟨e1, e2⟩ := y
    subst e2
    exact ⟨w, e1.symm, S, Ext.rfl', rfl⟩
  stop := fun w h E S st => by
    show k ≤ _
    simp
theorem ri_zip {m : Nat} {ys : List U} (hn : n < w0.N) (hm : m < w0.N) : RI K mg w0 ((xs.zip ys).map fun p => .tup [p.1, p.2], [(n, xs), (m, ys)]) (Itz K (w0.μ n) (w0.μ m)) where
  go := fun i w h u E S st e => by
    obtain ⟨vs, s, r⟩ := list_later hn E S (stands_at st List.mem_cons_self)
    obtain ⟨ws, s2, r2⟩ := list_later hm E S (stands_at st (List.mem_cons_of_mem _ List.mem_cons_self))
    rw [List.getElem?_map] at e
    cases ez : (xs.zip ys)[i]? with
    | none => rw [ez] at e; cases e
    | some pq =>
      rw [ez] at e
      cases e
      obtain ⟨e1, e2⟩ := List.getElem?_zip_eq_some.mp ez
      obtain ⟨v, g1, g2⟩ := r.get e1
      obtain ⟨v', g3, g4⟩ := r2.get e2
      refine ⟨⟨vs, ws, v, v', s, s2, g1, g3⟩, fun x H' y => ?_⟩
      obtain ⟨T, x1, y1, rfl, hT, eH, hx, hy⟩ := y
      have q1 := hx vs s
      have q2 := hy ws s2
      rw [g1] at q1; cases q1
      rw [g3] at q2; cases q2
      obtain ⟨S2, E2⟩ := S.grow (a := T) (ho := .tup [v, v']) hT
      exact ⟨_, eH.symm, S2, E2, T, [v, v'], rfl, .inl upd_same, ⟨v, [v'], rfl, g2.mono E2, v', [], rfl, g4.mono E2, rfl⟩⟩
  stop := fun w h E S st => by
    obtain ⟨vs, s, r⟩ := list_later hn E S (stands_at st List.mem_cons_self)
    obtain ⟨ws, s2, r2⟩ := list_later hm E S (stands_at st (List.mem_cons_of_mem _ List.mem_cons_self))
    refine ⟨vs, ws, s, s2, ?_⟩
    rw [← r.length, ← r2.length]
    show xs.length ≤ ((xs.zip ys).map _).length ∨ ys.length ≤ ((xs.zip ys).map _).length
    rw [List.length_map, List.length_zip]
    omega
end
theorem pi_or {X : Cx} {tg iter : Expr} {wi wi' : TI} (h : PI X tg iter wi) (h' : PI X tg iter wi') : PI X tg iter (fun σ H R => wi σ H R ∨ wi' σ H R) :=
  ⟨fun pins s σ H R I q => q.elim (h.run pins s σ H R I) (h'.run pins s σ H R I)⟩
theorem pi_imp {X : Cx} {tg iter : Expr} {wi wi' : TI} (h : PI X tg iter wi) (g : ∀ σ H R, wi' σ H R → wi σ H R) : PI X tg iter wi' := ⟨fun pins s σ H R I q => h.run pins s σ H R I (g σ H R q)⟩
section
variable {X : Cx} {Φ : L2.St → Prop} {W : WX} {tg a b : Expr} {ma mb : Loc → AH → Rs U} {ms : Loc → AH → Rs (List U)} {pos p : Pos}
abbrev mI (k : ItK) (ms : Loc → AH → Rs (List U)) : Loc → AH → Rs (List U × List (Nat × List U)) := fun ρ h => (ms ρ h).bind fun us h => Rs.opt (itsU k us h) h
theorem OutG.opt' {α β : Type} {K : PySem.W.Frag} {mg : Str → Option Value} {W : WX} {σ : L2.St} {R : Wd → α → β → Prop} {Q : β → Hp → Prop} {w : Wd} {h : AH} {x : Option α} (o : OutG K mg R W σ w Q (Rs.opt x h)) : ∃ u, x = some u ∧ OutG K mg R W σ w Q (.ok u h) := by
  cases x with
  | none => exact o.elim
  | some u => exact ⟨u, rfl, o⟩
/-- a list, or a tuple -/
theorem si_val (ha : PE X a (tE X.K X.mg Φ W ma)) (hm : ms = fun ρ h => (ma ρ h).bind fun u h => .ok [u] h) : PI X tg a (tG X.K X.mg (RI X.K X.mg) Φ W (mI .val ms)) := by
  subst hm
  refine pi_imp (pi_or (pi_list ha) (pi_tup ha)) fun σ H R q => ?_
  obtain ⟨w, h, ρ, hw, S, L, F, o⟩ := q
  dsimp only [mI] at o
  -- which of the two it is hangs on the value
  cases e : ma ρ h with
  | bad => rw [e] at o; exact o.elim
  | exc c fs h' => rw [e] at o; exact .inl ⟨w, h, ρ, hw, S, L, F, by rw [e]; exact o⟩
  | ok u h' =>
    rw [e] at o
    obtain ⟨pr, ep, o2⟩ := OutG.opt' o
    cases u with
    | tup xs =>
      cases ep
      refine .inr ⟨w, h, ρ, hw, S, L, F, ?_⟩
      rw [e]
      rintro w' v S' E' ⟨a', vs, rfl, t, r⟩
      exact ⟨a', rfl, ⟨vs, t.sq⟩, o2 w' (Itt X.K a') S' E' (ri_tup t r)⟩
    | ref n =>
      simp only [itsU] at ep
      cases eg : getL h' n with
      | none => rw [eg] at ep; cases ep
      | some xs =>
        rw [eg] at ep
        cases ep
        refine .inl ⟨w, h, ρ, hw, S, L, F, ?_⟩
        rw [e]
        rintro w' v S' E' ⟨hlt, rfl⟩
        obtain ⟨_, vs, s, r⟩ := getL_rel S' eg
        exact ⟨_, rfl, ⟨vs, s⟩, o2 w' (Itl X.K (w'.μ n)) S' E' (ri_list hlt)⟩
    | _ => cases ep
theorem its_r1 {us : List U} {h : AH} {pr : List U × List (Nat × List U)} (e : itsU .range1 us h = some pr) : ∃ j : Int, us = [.int j] ∧ j < 2 ^ 62 ∧ -(2 ^ 62) ≤ j ∧ pr = ((List.range j.toNat).map fun (k : Nat) => .int k, []) := by
  cases us with
  | nil => cases e
  | cons u us =>
    cases us with
    | cons _ _ => cases u <;> cases e
    | nil =>
      cases u with
      | int j =>
        simp only [itsU] at e
        split at e
        · rename_i hj
          cases e
          exact ⟨j, rfl, hj.1, hj.2, rfl⟩
        · cases e
      | _ => cases e
theorem its_r2 {us : List U} {h : AH} {pr : List U × List (Nat × List U)} (e : itsU .range2 us h = some pr) : ∃ i j : Int, us = [.int i, .int j] ∧ (i < 2 ^ 62 ∧ -(2 ^ 62) ≤ i ∧ j < 2 ^ 62 ∧ -(2 ^ 62) ≤ j) ∧ pr = ((List.range (j - i).toNat).map fun (k : Nat) => .int (i + k), []) := by
  cases us with
  | nil => cases e
  | cons u us =>
    cases us with
    | nil => cases u <;> cases e
    | cons u' us =>
      cases us with
      | cons _ _ => cases u <;> first | cases e | (cases u' <;> cases e)
      | nil =>
        cases u with
        | int i =>
          cases u' with
          | int j =>
            simp only [itsU] at e
            split at e
            · rename_i hj
              cases e
              exact ⟨i, j, rfl, hj, rfl⟩
            · cases e
          | _ => cases e
        | _ => cases u' <;> cases e
theorem its_z {us : List U} {h : AH} {pr : List U × List (Nat × List U)} (e : itsU .zip us h = some pr) : ∃ n m xs ys, us = [.ref n, .ref m] ∧ getL h n = some xs ∧ getL h m = some ys ∧ pr = ((xs.zip ys).map fun p => .tup [p.1, p.2], [(n, xs), (m, ys)]) := by
  cases us with
  | nil => cases e
  | cons u us =>
    cases us with
    | nil => cases u <;> cases e
    | cons u' us =>
      cases us with
      | cons _ _ => cases u <;> first | cases e | (cases u' <;> cases e)
      | nil =>
        cases u with
        | ref n =>
          cases u' with
          | ref m =>
            simp only [itsU] at e
            cases e1 : getL h n with
            | none => rw [e1] at e; cases e
            | some xs =>
              cases e2 : getL h m with
              | none => rw [e1, e2] at e; cases e
              | some ys =>
                rw [e1, e2] at e
                cases e
                exact ⟨n, m, xs, ys, rfl, e1, e2, rfl⟩
          | _ => cases e
        | _ => cases u' <;> cases e
theorem si_rng1 (hg : Gl X ("range" : Str)) (hm : X.mg "range" = none) (ha : PA X [a] (tA X.K X.mg Φ W ms)) (hs : starEach [a] X.env = [(false, eval a X.env)]) : PI X tg (.Call (.Name "range" p) [a] [] pos) (tG X.K X.mg (RI X.K X.mg) Φ W (mI .range1 ms)) := by
  refine pi_imp (pi_range1 hg hm ha hs) fun σ H R q => (tG.bind (R := RelUs X.K) q).imp ?_
  rintro vs H1 ⟨w1, h1, ρ, us, rfl, S, L, F, r, o⟩
  obtain ⟨pr, ep, o2⟩ := OutG.opt' o
  obtain ⟨j, rfl, h2, h3, rfl⟩ := its_r1 ep
  obtain ⟨v, rfl, rv⟩ := r.one
  cases rv
  refine ⟨j, rfl, h3, h2, ?_⟩
  have := ri_rng (K := X.K) (mg := X.mg) (w0 := w1) 0 j.toNat
  simp only [Int.zero_add] at this
  exact o2 w1 _ S Ext.rfl' this
theorem si_rng2 (hg : Gl X ("range" : Str)) (hm : X.mg "range" = none) (ha : PA X [a, b] (tA X.K X.mg Φ W ms)) (hs : starEach [a, b] X.env = [(false, eval a X.env), (false, eval b X.env)]) (hs2 : starEach [b] X.env = [(false, eval b X.env)]) :
    PI X tg (.Call (.Name "range" p) [a, b] [] pos) (tG X.K X.mg (RI X.K X.mg) Φ W (mI .range2 ms)) := by
  refine pi_imp (pi_range2 hg hm ha hs hs2) fun σ H R q => (tG.bind (R := RelUs X.K) q).imp ?_
  rintro vs H1 ⟨w1, h1, ρ, us, rfl, S, L, F, r, o⟩
  obtain ⟨pr, ep, o2⟩ := OutG.opt' o
  obtain ⟨i, j, rfl, hj, rfl⟩ := its_r2 ep
  obtain ⟨v, v', rfl, r1, r2⟩ := r.two
  cases r1; cases r2
  exact ⟨i, j, rfl, ⟨hj.2.1, hj.1, hj.2.2.2, hj.2.2.1⟩, o2 w1 _ S Ext.rfl' (ri_rng i (j - i).toNat)⟩
theorem si_zip {elts : List Expr} {kk : Nat} {tpos : Pos} (hg : Gl X ("zip" : Str)) (hm : X.mg "zip" = none) (ha : PA X [a, b] (tA X.K X.mg Φ W ms)) (hs : starEach [a, b] X.env = (false, eval a X.env) :: starEach [b] X.env) (hpl : (backTo pos (starEach [b] X.env)).any (·.1) = false) :
    PI X (.Tuple elts kk tpos) (.Call (.Name "zip" p) [a, b] [] pos) (tG X.K X.mg (RI X.K X.mg) Φ W (mI .zip ms)) := by
  refine pi_imp (pi_zip hg hm ha hs hpl) fun σ H R q => (tG.bind (R := RelUs X.K) q).imp ?_
  rintro vs H1 ⟨w1, h1, ρ, us, rfl, S, L, F, r, o⟩
  obtain ⟨pr, ep, o2⟩ := OutG.opt' o
  obtain ⟨n, m, xs, ys, rfl, e1, e2, rfl⟩ := its_z ep
  obtain ⟨v, v', rfl, ⟨l1, rfl⟩, ⟨l2, rfl⟩⟩ := r.two
  obtain ⟨_, vs, s, _⟩ := getL_rel S e1
  obtain ⟨_, ws, s2, _⟩ := getL_rel S e2
  exact ⟨_, _, vs, ws, rfl, s, s2, o2 w1 _ S Ext.rfl' (ri_zip l1 l2)⟩
end
end Pl

namespace Pl
open PySem PySem.Spec PyProof.Rows L2
/-! ### targets -/
def Tg.slots : Tg → List Nat
  | .one i => [i]
  | .tup is => is
def gNames : List Nat → TGs
  | [] => gNil
  | i :: is => gCons (gName i) (gNames is)
def gT (K : PySem.W.Frag) : Tg → TG
  | .one i => gName i
  | .tup is => gTup K is.length (gNames is)
/-- the slots agree, but for some -/
def RelX' (K : PySem.W.Frag) (w : Wd) (ρ : Loc) (σ : L2.St) (vs : List Nat) : Prop := ρ.length = σ.length ∧ ∀ (i : Nat) (u : U), i ∉ vs → ρ[i]? = some (some u) → ∃ v, σ[i]? = some (some v) ∧ RelU K w u v
section
variable {K : PySem.W.Frag} {w : Wd} {σ : L2.St} {H : Hp} {ρ ρ' : Loc}
theorem RelX'.set {vs : List Nat} {u : U} {v : V} {i : Nat} (r : RelX' K w ρ σ (i :: vs)) (q : RelU K w u v) : RelX' K w (ρ.set i (some u)) (σ.set i (some v)) vs := by
  refine ⟨by simp [r.1], fun j u' hj e => ?_⟩
  by_cases hi : i = j
  · subst hi
    by_cases hl : i < ρ.length
    · rw [List.getElem?_set_self hl] at e
      cases e
      exact ⟨v, by rw [List.getElem?_set_self (by rw [← r.1]; exact hl)], q⟩
    · rw [List.getElem?_eq_none (by simp; omega)] at e; cases e
  · rw [List.getElem?_set_ne hi] at e
    obtain ⟨v', h1, h2⟩ := r.2 j u' (by simp only [List.mem_cons, not_or]; exact ⟨fun z => hi z.symm, hj⟩) e
    exact ⟨v', by rw [List.getElem?_set_ne hi]; exact h1, h2⟩
theorem RelX'.full (r : RelX' K w ρ σ []) : RelL K w ρ σ := ⟨r.1, fun i u e => r.2 i u (by simp) e⟩
/-- what a target's store leaves -/
structure Stored (vs : List Nat) (σ σ' : L2.St) : Prop where
  len : σ'.length = σ.length
  off : ∀ j, j ∉ vs → σ'[j]? = σ[j]?
theorem names_ok : ∀ {is : List Nat} {us : List U} {vs : List V} {ρ : Loc} {σ : L2.St} {Q : L2.St → Hp → Prop}, RelUs K w us vs → setAll is us ρ = some ρ' → RelX' K w ρ σ is → (∀ σ', RelL K w ρ' σ' → Stored is σ σ' → Q σ' H) → gNames is vs σ H Q
  | [], us, vs, ρ, σ, Q, r, e, l, q => by
    cases us with
    | cons _ _ => cases e
    | nil =>
      cases e
      cases r
      exact ⟨rfl, q σ l.full ⟨rfl, fun _ _ => rfl⟩⟩
  | i :: is, us, vs, ρ, σ, Q, r, e, l, q => by
    cases us with
    | nil => cases e
    | cons u us =>
      obtain ⟨v, ws, rfl, r1, r2⟩ := r
      refine ⟨v, ws, rfl, ?_⟩
      refine names_ok r2 e (l.set r1) fun σ' l' s' => q σ' l' ⟨by rw [s'.len, List.length_set], fun j hj => ?_⟩
      simp only [List.mem_cons, not_or] at hj
      rw [s'.off j hj.2, List.getElem?_set_ne fun z => hj.1 z.symm]
theorem bind_ok {t : Tg} {u : U} {v : V} {Q : L2.St → Hp → Prop} (r : RelU K w u v) (e : bindT t u ρ = some ρ') (l : RelX' K w ρ σ t.slots) (q : ∀ σ', RelL K w ρ' σ' → Stored t.slots σ σ' → Q σ' w.H) : gT K t v σ w.H Q := by
  cases t with
  | one i =>
    cases e
    refine q _ (l.set r).full ⟨by rw [List.length_set], fun j hj => ?_⟩
    have hj : j ≠ i := by simpa [Tg.slots] using hj
    rw [List.getElem?_set_ne hj.symm]
  | tup is =>
    cases u with
    | tup us =>
      obtain ⟨a, vs, rfl, t, r⟩ := r
      have hl : is.length = us.length := by
        have : ∀ {is : List Nat} {us : List U} {ρ ρ' : Loc}, setAll is us ρ = some ρ' → is.length = us.length := by
          intro is
          induction is with
          | nil => intro us ρ ρ' h; cases us with
            | nil => rfl
            | cons _ _ => cases h
          | cons i is ih => intro us ρ ρ' h; cases us with
            | nil => cases h
            | cons u us => exact congrArg Nat.succ (ih (us := us) h)
        exact this e
      exact ⟨a, vs, rfl, t.sq, by rw [← r.length, ← hl], names_ok r e l q⟩
    | _ => cases e
theorem RelL.part (l : RelL K w ρ σ) (vs : List Nat) : RelX' K w ρ σ vs := ⟨l.1, fun i u _ e => l.2 i u e⟩
/-! ### forgotten slots -/
theorem wipe_off : ∀ {vs : List Nat} {j : Nat} {σ : L2.St}, j ∉ vs → (wipe σ vs)[j]? = σ[j]?
  | [], _, _, _ => rfl
  | i :: vs, j, σ, h => by
    simp only [List.mem_cons, not_or] at h
    show ((wipe σ vs).set i none)[j]? = _
    rw [List.getElem?_set_ne fun z => h.1 z.symm]
    exact wipe_off h.2
theorem wipe_on : ∀ {vs : List Nat} {j : Nat} {σ : L2.St}, j ∈ vs → j < σ.length → (wipe σ vs)[j]? = some none
  | [], _, _, h, _ => by cases h
  | i :: vs, j, σ, h, hl => by
    show ((wipe σ vs).set i none)[j]? = _
    by_cases q : i = j
    · subst q
      rw [List.getElem?_set_self (by rw [wipe_length]; exact hl)]
    · rw [List.getElem?_set_ne q]
      rcases List.mem_cons.mp h with z | z
      · exact absurd z.symm q
      · exact wipe_on z hl
theorem wipe_stored {vs : List Nat} {σ2 : L2.St} (s : Stored vs (wipe σ vs) σ2) : wipe σ2 vs = wipe σ vs := by
  have hl2 : σ2.length = σ.length := by rw [s.len, wipe_length]
  apply List.ext_getElem?
  intro j
  by_cases h : j ∈ vs
  · by_cases hl : j < σ.length
    · rw [wipe_on h hl, wipe_on h (by rw [hl2]; exact hl)]
    · rw [List.getElem?_eq_none (by rw [wipe_length, hl2]; omega), List.getElem?_eq_none (by rw [wipe_length]; omega)]
  · rw [wipe_off h, s.off j h]
theorem RelL.wiped (l : RelL K w ρ σ) (vs : List Nat) : RelX' K w ρ (wipe σ vs) vs := ⟨by rw [wipe_length]; exact l.1, fun i u hi e => by rw [wipe_off hi]; exact l.2 i u e⟩
end
section
variable {X : Cx}
theorem pgs_names {c : TC} (hN : X.N = c.N) (nd : X.N.Nodup) (hloc : ∀ x, locB c.sc x = true → c.asg x = true → L2.Loc X.env.scope x ∧ (X.fn x = true ∨ X.env.scope.names.lookup x = some .local)) : ∀ {es : List Expr} {is : List Nat}, mapO (nameSlot c) es = some is → PGs X es (gNames is)
  | [], is, e => by cases e; exact pgs_nil
  | a :: es, is, e => by
    unfold mapO at e
    cases a with
    | Name x p =>
      simp only [nameSlot] at e
      cases e1 : slotOf c x with
      | none => rw [e1] at e; cases e
      | some i =>
        rw [e1] at e
        simp only at e
        split at e
        · rename_i ys e2
          cases e
          have hx := e1
          unfold slotOf at hx
          split at hx
          · rename_i j hj
            split at hx
            · rename_i hc
              cases hx
              simp only [Bool.and_eq_true] at hc
              refine pgs_cons (pg_name nd (by rw [hN]; exact idxN_ok hj) (hloc x hc.1.1.1 hc.1.1.2).1 (hloc x hc.1.1.1 hc.1.1.2).2) (pgs_names hN nd hloc e2) rfl
            · cases hx
          · cases hx
        · cases e
    | _ => simp only [nameSlot] at e; cases e
theorem assign_len {c : TC} {env : Env} : ∀ {es : List Expr} {is : List Nat}, mapO (nameSlot c) es = some is → (assignEach es env).length = is.length ∧ (assignEach es env).findIdx? (·.1) = none
  | [], is, e => by cases e; exact ⟨rfl, rfl⟩
  | a :: es, is, e => by
    unfold mapO at e
    cases a with
    | Name x p =>
      simp only [nameSlot] at e
      cases e1 : slotOf c x with
      | none => rw [e1] at e; cases e
      | some i =>
        rw [e1] at e
        simp only at e
        split at e
        · rename_i ys e2
          cases e
          obtain ⟨h1, h2⟩ := assign_len (env := env) e2
          refine ⟨congrArg Nat.succ h1, ?_⟩
          show List.findIdx? (·.1) ((false, _) :: assignEach es env) = none
          rw [List.findIdx?_cons, h2]
          rfl
        · cases e
    | _ => simp only [nameSlot] at e; cases e
theorem pg_tg {c : TC} (hc : X.calm = true) (hN : X.N = c.N) (nd : X.N.Nodup) (hloc : ∀ x, locB c.sc x = true → c.asg x = true → L2.Loc X.env.scope x ∧ (X.fn x = true ∨ X.env.scope.names.lookup x = some .local)) {tg : Expr} {t : Tg} (e : tgOf c tg = some t) : PG X tg (gT X.K t) := by
  cases tg with
  | Name x p =>
    simp only [tgOf] at e
    cases e1 : slotOf c x with
    | none => rw [e1] at e; cases e
    | some i =>
      rw [e1] at e
      cases e
      unfold slotOf at e1
      split at e1
      · rename_i j hj
        split at e1
        · rename_i hb
          cases e1
          simp only [Bool.and_eq_true] at hb
          exact pg_name nd (by rw [hN]; exact idxN_ok hj) (hloc x hb.1.1.1 hb.1.1.2).1 (hloc x hb.1.1.1 hb.1.1.2).2
        · cases e1
      · cases e1
  | Tuple es k p =>
    simp only [tgOf] at e
    cases e1 : mapO (nameSlot c) es with
    | none => rw [e1] at e; cases e
    | some is =>
      rw [e1] at e
      cases e
      obtain ⟨h1, h2⟩ := assign_len (env := X.env) e1
      exact pg_tup hc (pgs_names hN nd hloc e1) h1 h2
  | _ => cases e
theorem own_slots {c : TC} {tg : Expr} {t : Tg} (e : tgOf c tg = some t) : (ownOf c.N (tgNames tg)).map (·.2) = t.slots := by
  have one : ∀ {x : Str} {i : Nat}, slotOf c x = some i → idxN c.N x = some i := fun {x i} h => by
    unfold slotOf at h
    split at h
    · rename_i j hj
      split at h
      · cases h; exact hj
      · cases h
    · cases h
  cases tg with
  | Name x p =>
    simp only [tgOf] at e
    cases e1 : slotOf c x with
    | none => rw [e1] at e; cases e
    | some i =>
      rw [e1] at e
      cases e
      simp only [tgNames, ownOf, List.filterMap_cons, one e1, Option.map_some, List.filterMap_nil, List.map_cons, List.map_nil, Tg.slots]
  | Tuple es k p =>
    simp only [tgOf] at e
    cases e1 : mapO (nameSlot c) es with
    | none => rw [e1] at e; cases e
    | some is =>
      rw [e1] at e
      cases e
      show (ownOf c.N (es.filterMap nameOf)).map (·.2) = is
      induction es generalizing is with
      | nil => cases e1; rfl
      | cons a es ih =>
        unfold mapO at e1
        cases a with
        | Name x p =>
          simp only [nameSlot] at e1
          cases e2 : slotOf c x with
          | none => rw [e2] at e1; cases e1
          | some i =>
            rw [e2] at e1
            simp only at e1
            split at e1
            · rename_i ys e3
              cases e1
              have := ih ys e3
              simp only [ownOf, nameOf, List.filterMap_cons, one e2, Option.map_some, List.map_cons] at this ⊢
              rw [this]
            · cases e1
        | _ => simp only [nameSlot] at e1; cases e1
  | _ => cases e
end
/-! ### comprehensions -/
section
variable {X : Cx} {Φ : L2.St → Prop} {W : WX} {tg iter el : Expr} {mel mc : Loc → AH → Rs U} {mi : Loc → AH → Rs (List U × List (Nat × List U))} {pos : Pos} {t : Tg}
/-- a turn, without a test; with one -/
abbrev fEl (t : Tg) (mel : Loc → AH → Rs U) (ρ : Loc) : U → AH → Rs (Option U) := fun x h => match bindT t x ρ with
  | some ρ' => (mel ρ' h).bind fun y h => .ok (some y) h
  | none => .bad
abbrev fElIf (t : Tg) (mc mel : Loc → AH → Rs U) (ρ : Loc) : U → AH → Rs (Option U) := fun x h => match bindT t x ρ with
  | some ρ' => (mc ρ' h).bind fun u h => match u with
    | .bl true => (mel ρ' h).bind fun y h => .ok (some y) h
    | .bl false => .ok none h
    | _ => .bad
  | none => .bad
def W0 : WX := fun _ _ _ _ => False
/-- what a turn's reading must do -/
def TurnOk (X : Cx) (t : Tg) (f : Loc → U → AH → Rs (Option U)) (tt : TT) (te : TE) : Prop := ∀ (w : Wd) (h : AH) (ρ : Loc) (σ : L2.St) (x : U) (v : V) (Q : Option (V) → Hp → Prop), Sim X.K X.mg w h → RelL X.K w ρ σ → RelU X.K w x v →
  (∃ z h', f ρ x h = .ok z h' ∧ ∀ w' (y : Option V), Sim X.K X.mg w' h' → Ext w w' → (match z, y with | none, none => True | some u, some v => RelU X.K w' u v | _, _ => False) → Q y w'.H) →
  gT X.K t v (wipe σ t.slots) w.H fun σ2 H2 => wipe σ2 t.slots = wipe σ t.slots ∧ tt σ2 H2 fun b H3 => if b = true then te σ2 H3 fun y H4 => Q (some y) H4 else Q none H3
theorem turn_el : TurnOk X t (fun ρ => fEl t mel ρ) tYes (tE X.K X.mg (fun _ => True) W0 mel) := by
  rintro w h ρ σ x v Q S L r ⟨z, h', e, q⟩
  dsimp only [fEl] at e
  cases eb : bindT t x ρ with
  | none => rw [eb] at e; cases e
  | some ρ' =>
    rw [eb] at e
    simp only at e
    refine bind_ok r eb (L.wiped _) fun σ2 L2 s2 => ⟨wipe_stored s2, ?_⟩
    unfold tYes
    simp only [if_true]
    refine ⟨w, h, ρ', rfl, S, L2, trivial, ?_⟩
    cases em : mel ρ' h with
    | bad => rw [em] at e; cases e
    | exc c fs h1 => rw [em] at e; cases e
    | ok u h1 =>
      rw [em] at e
      cases e
      exact fun w' v' S' E' r' => q w' (some v') S' E' r'
theorem turn_elIf : TurnOk X t (fun ρ => fElIf t mc mel ρ) (tT X.K X.mg (fun _ => True) W0 mc) (tE X.K X.mg (fun _ => True) W0 mel) := by
  rintro w h ρ σ x v Q S L r ⟨z, h', e, q⟩
  dsimp only [fElIf] at e
  cases eb : bindT t x ρ with
  | none => rw [eb] at e; cases e
  | some ρ' =>
    rw [eb] at e
    simp only at e
    refine bind_ok r eb (L.wiped _) fun σ2 L2 s2 => ⟨wipe_stored s2, ?_⟩
    refine ⟨w, h, ρ', rfl, S, L2, trivial, ?_⟩
    cases ec : mc ρ' h with
    | bad => rw [ec] at e; cases e
    | exc c fs h1 => rw [ec] at e; cases e
    | ok u h1 =>
      rw [ec] at e
      simp only [Rs.bind_ok] at e
      cases u with
      | bl b =>
        refine ⟨b, rfl, fun w1 S1 E1 => ?_⟩
        cases b with
        | false =>
          cases e
          rw [if_neg Bool.false_ne_true]
          exact q w1 none S1 E1 trivial
        | true =>
          rw [if_pos rfl]
          refine ⟨w1, h1, ρ', rfl, S1, L2.mono E1, trivial, ?_⟩
          cases em : mel ρ' h1 with
          | bad => simp only [em] at e; cases e
          | exc c fs h2 => simp only [em] at e; cases e
          | ok u h2 =>
            simp only [em] at e
            cases e
            exact fun w' v' S' E' r' => q w' (some v') S' (E1.trans E') r'
      | _ => cases e
theorem lc_rd {f : Loc → U → AH → Rs (Option U)} {tt : TT} {te : TE} (T : TurnOk X t f tt te) {σ : L2.St} {H : Hp} {Q : VK}
    (q : tE X.K X.mg Φ W (fun ρ h => (mi ρ h).bind fun p h => compL (f ρ) p.2 h.length p.1 [] (h ++ [.lst []])) σ H Q) : tLc (tG X.K X.mg (RI X.K X.mg) Φ W mi) (gT X.K t) tt te t.slots σ H Q := by
  refine (tG.bind (R := RI X.K X.mg) q).imp ?_
  rintro J H1 ⟨w1, h1, ρ, p, rfl, S1, L1, F1, wk, o⟩
  intro D hD
  obtain ⟨S2, E2⟩ := S1.new (o := .lst []) (ho := .lst []) hD rfl fun w' E q => ⟨[], q, rfl⟩
  have hD0 : h1.length = w1.N := S1.len
  refine ⟨fun i m H => ∃ (w : Wd) (h : AH) (acc : List U), w.H = H ∧ Sim X.K X.mg w h ∧ Ext w1 w ∧ w1.N < w.N ∧ w.μ w1.N = D ∧ m = p.1.length - i ∧ i ≤ p.1.length ∧ OutG X.K X.mg (RelU X.K) W σ w Q (compL (f ρ) p.2 w1.N (p.1.drop i) acc h), ⟨_, _, _, [], rfl, S2, E2, Nat.lt_succ_self _, ?_, rfl, Nat.zero_le _, ?_⟩, ?_⟩
  · show (if w1.N = w1.N then D else _) = D
    rw [if_pos rfl]
  · rw [hD0] at o
    exact OutG.mono E2 o
  · rintro i m H ⟨w, h, acc, rfl, S, E, hlt, hμ, rfl, hi, o⟩
    cases ed : p.1.drop i with
    | nil =>
      rw [ed] at o
      have hn : i = p.1.length := by
        have := congrArg List.length ed
        simp at this
        omega
      unfold compL at o
      split at o
      · rename_i st
        refine .inl ⟨by rw [hn]; exact wk.stop w h E S st, ?_⟩
        have := o.here (v := .ref D) S ⟨hlt, by rw [hμ]⟩
        exact this
      · exact o.elim
    | cons x xs =>
      rw [ed] at o
      have hi' : i < p.1.length := by
        by_cases z : i < p.1.length
        · exact z
        · rw [List.drop_eq_nil_of_le (by omega)] at ed; cases ed
      have ex : p.1[i]? = some x := by
        have := congrArg (fun l => l[0]?) ed
        simpa using this
      have er : p.1.drop (i + 1) = xs := by
        have := congrArg (List.drop 1) ed
        simpa [Nat.add_comm] using this
      unfold compL at o
      split at o
      · rename_i st
        obtain ⟨g1, g2⟩ := wk.go i w h x E S st ex
        refine .inr ⟨g1, fun H => ∃ (w : Wd) (h : AH) (acc : List U), w.H = H ∧ Sim X.K X.mg w h ∧ Ext w1 w ∧ w1.N < w.N ∧ w.μ w1.N = D ∧ OutG X.K X.mg (RelU X.K) W σ w Q (compL (f ρ) p.2 w1.N (p.1.drop (i + 1)) acc h), ?_, ?_⟩
        · rintro H' ⟨w', h', acc', e1, S', E', hl', hμ', o'⟩
          exact ⟨p.1.length - (i + 1), by omega, w', h', acc', e1, S', E', hl', hμ', rfl, hi', o'⟩
        · intro v H' y
          obtain ⟨w2, rfl, S2', E2', r2⟩ := g2 v H' y
          refine T w2 h ρ σ x v (fun y H4 => match y with
            | some y => ∃ acc, H4 D = some (.lst acc) ∧ acc.length < sizeLine ∧ (∃ (w : Wd) (h : AH) (acc' : List U), w.H = upd H4 D (.lst (acc ++ [y])) ∧ Sim X.K X.mg w h ∧ Ext w1 w ∧ w1.N < w.N ∧ w.μ w1.N = D ∧ OutG X.K X.mg (RelU X.K) W σ w Q (compL (f ρ) p.2 w1.N (p.1.drop (i + 1)) acc' h))
            | none => ∃ (w : Wd) (h : AH) (acc : List U), w.H = H4 ∧ Sim X.K X.mg w h ∧ Ext w1 w ∧ w1.N < w.N ∧ w.μ w1.N = D ∧ OutG X.K X.mg (RelU X.K) W σ w Q (compL (f ρ) p.2 w1.N (p.1.drop (i + 1)) acc h)) S2' (L1.mono (E.trans E2')) r2 ?_
          cases ef : f ρ x h with
          | bad => rw [ef] at o; exact o.elim
          | exc c fs h' => rw [ef] at o; exact o.elim
          | ok z h' =>
            rw [ef] at o
            refine ⟨z, h', rfl, fun w3 y S3 E3 ry => ?_⟩
            have E13 : Ext w1 w3 := (E.trans E2').trans E3
            have hlt3 : w1.N < w3.N := Nat.lt_of_lt_of_le hlt ((E2'.trans E3).le)
            have hμ3 : w3.μ w1.N = D := ((E2'.trans E3).mu _ hlt).trans hμ
            cases z with
            | none =>
              cases y with
              | some _ => exact ry.elim
              | none =>
                simp only at o
                split at o
                · rw [er]
                  exact ⟨w3, h', acc, rfl, S3, E13, hlt3, hμ3, OutG.mono (E2'.trans E3) o⟩
                · exact o.elim
            | some u =>
              cases y with
              | none => exact ry.elim
              | some y =>
                simp only at o
                split at o
                · rename_i hacc
                  obtain ⟨hacc, hz⟩ := hacc
                  obtain ⟨_, vs, e4, r4⟩ := getM_rel S3 hacc
                  rw [hμ3] at e4
                  refine ⟨vs, e4, by rw [← r4.length]; exact hz, ?_⟩
                  obtain ⟨S5, E5⟩ := S3.write (o' := .lst (acc ++ [u])) (ho := .lst (vs ++ [y])) (getM_at hacc) rfl rfl fun w' E q => ⟨vs ++ [y], q, (r4.append (.cons ry .nil)).mono E⟩
                  rw [hμ3] at S5 E5
                  rw [er]
                  exact ⟨_, _, acc ++ [u], rfl, S5, E13.trans E5, hlt3, hμ3, OutG.mono ((E2'.trans E3).trans E5) o⟩
                · exact o.elim
      · exact o.elim
end
end Pl

namespace Pl
open PySem PySem.Spec PyProof.Rows L2
/-! ### expressions: the translation is sound -/
abbrev Hx := Option (Nm × List (Nm × U))
structure GE (P : Prog) (A : Nm → Addr) (G : Nm → Bool) (d : Nat) (hx : Hx) (Φ : L2.St → Prop) (c : TC) (X : Cx) (W : WX) : Prop where
  fn : FnF P A X d
  fc : Facts P X.K X.mg A G
  gk : GK c G X.K X.mg
  N : X.N = c.N
  nd : X.N.Nodup
  sc : X.env.scope = c.sc
  loc : ∀ x, locB c.sc x = true → c.asg x = true → X.fn x = true ∨ X.env.scope.names.lookup x = some .local
  tk : Takes X W
  units : X.A.units + 103 < cLine
  cold : c.hv = none → hx = none ∧ X.calm = true ∧ Room (2 * d + 1) X.A
  hot : ∀ y, c.hv = some y → (idxN c.N y).isSome = true → ∃ kx fs, hx = some (kx, fs) ∧
    (∀ p pp pos t k, Gl X "isinstance" → excOf c t = some k → PE X (.Call (.Name "isinstance" p) [.Name y pp, t] [] pos) (tE X.K X.mg Φ W fun _ h => if [k].all P.exn = true then .ok (.bl ([k].any fun k => P.sub kx k)) h else .bad)) ∧
    (∀ p pp ts kk pt pos ks, Gl X "isinstance" → ¬ 1000 < ts.length → mapO (excOf c) ts = some ks → PE X (.Call (.Name "isinstance" p) [.Name y pp, .Tuple ts kk pt] [] pos) (tE X.K X.mg Φ W fun _ h => if ks.all P.exn = true then .ok (.bl (ks.any fun k => P.sub kx k)) h else .bad)) ∧
    (∀ p pos f, PE X (.Attribute (.Name y p) (nstr f) pos) (tE X.K X.mg Φ W fun _ h => .opt (fs.lookup f) h))
section
variable {X : Cx} {Φ : L2.St → Prop} {W : WX} {e : Expr}
theorem pe_bad {t : TE} (h : ∀ σ H Q, ¬ t σ H Q) : PE X e t := ⟨fun _ _ _ _ _ _ q => (h _ _ _ q).elim⟩
theorem tE_bad {m : Loc → AH → Rs U} (h : ∀ ρ h, m ρ h = .bad) : ∀ σ H Q, ¬ tE X.K X.mg Φ W m σ H Q := fun σ H Q ⟨w, a, ρ, _, _, _, _, o⟩ => by rw [h] at o; exact o
theorem pe_eq {m m' : Loc → AH → Rs U} (p : PE X e (tE X.K X.mg Φ W m)) (h : ∀ ρ h, m' ρ h = m ρ h) : PE X e (tE X.K X.mg Φ W m') := by
  rw [show m' = m from funext fun ρ => funext fun a => h ρ a]
  exact p
theorem st_val {m : Loc → AH → Rs U} (h : PE X e (tE X.K X.mg Φ W m)) (he : ∀ whole, isTrue e X.env whole = (do let v ← whole; standAt e.pos; holding [v] (truthy v)) := by intro _; rfl) : PT X e (tT X.K X.mg Φ W m) :=
  pt_imp (pt_val h he) fun σ H Q q => tT.val q
end
theorem lookup_map {α β : Type} {g : Str → α → β} {x : Str} : ∀ {l : List (Str × α)}, (l.map fun (n, k) => (n, g n k)).lookup x = (l.lookup x).map (g x)
  | [] => rfl
  | (n, k) :: l => by
    show List.lookup x ((n, g n k) :: l.map _) = _
    rw [List.lookup_cons, List.lookup_cons]
    cases h : x == n with
    | true => rw [show x = n by simpa using h]; rfl
    | false => exact lookup_map
theorem relS_local {scope sc : Scope} {x : Str} (h : scope.names.lookup x = some .local) : (relS scope sc).names.lookup x = some .local := by
  have e : (relS scope sc).names = scope.names.map fun (n, k) => (n, (fun n k => if (k == .free && sc.kind == .function && sc.names.lookup n == some .cell) then NameKind.cell else k) n k) := by
    unfold relS
    refine List.map_congr_left fun ⟨n, k⟩ _ => ?_
    show (if _ then _ else _) = (n, if _ then _ else _)
    split <;> rfl
  rw [e]
  exact (lookup_map (g := fun n k => if (k == NameKind.free && sc.kind == .function && sc.names.lookup n == some .cell) then NameKind.cell else k) (x := x) (l := scope.names)).trans (by rw [h]; rfl)
section
variable {P : Prog} {A : Nm → Addr} {G : Nm → Bool} {d : Nat} {hx : Hx} {Φ : L2.St → Prop} {c : TC} {X : Cx} {W : WX}
theorem GE.tgt (g : GE P A G d hx Φ c X W) : ∀ x, locB c.sc x = true → c.asg x = true → L2.Loc X.env.scope x ∧ (X.fn x = true ∨ X.env.scope.names.lookup x = some .local) := fun x h1 h2 => ⟨by rw [g.sc]; exact locB_ok h1, g.loc x h1 h2⟩
theorem GE.glob (g : GE P A G d hx Φ c X W) {x : Str} (h : gloB c.sc x = true) : Gl X x := by
  show X.env.scope.names.lookup x = _
  rw [g.sc]; exact gloB_ok h
theorem GE.blk (g : GE P A G d hx Φ c X W) (hv : c.hv = none) (s : Shared) (H : Hp) (C : Addr) (cl : List (Str × Addr)) (fp : List Addr) (scope : Scope) :
    GE P A G d none (fun _ => True) { c with sc := relS scope c.sc, asg := fun x => locB scope x } (X.blk s H scope (compEnvC scope cl C X.env) fp) W0 where
  fn := ⟨g.fn.ok⟩
  fc := g.fc
  gk := ⟨g.gk.fn, g.gk.cls, g.gk.con, g.gk.exc, g.gk.nm⟩
  N := g.N
  nd := g.nd
  sc := by rw [← g.sc]; rfl
  loc := fun x _ h2 => by
    have h2 : locB scope x = true := h2
    rcases locB_ok h2 with q | q
    · refine .inr ?_
      show (relS scope X.env.scope).names.lookup x = _
      exact relS_local q
    · refine .inl ?_
      show (scope.names.lookup x == some NameKind.cell) = true
      rw [q]; rfl
  tk := fun u s' x => by
    obtain ⟨a, B, sI, pins, σ, H, cls, d, e, I, nb, up, sky, na, os, ag, w⟩ := x
    exact w.elim
  units := g.units
  cold := fun _ => ⟨rfl, (g.cold hv).2⟩
  hot := fun y h _ => by
    have h : c.hv = some y := h
    rw [hv] at h
    cases h
def IHE (P : Prog) (A : Nm → Addr) (G : Nm → Bool) (d n : Nat) : Prop := ∀ {hx : Hx} {Φ : L2.St → Prop} {c : TC} {X : Cx} {W : WX} {e : Expr} {m : E}, GE P A G d hx Φ c X W → trE c n e = some m → PE X e (tE X.K X.mg Φ W (evE P ⟨call P d, hx⟩ m)) ∧ (isIf e = false → PT X e (tT X.K X.mg Φ W (evE P ⟨call P d, hx⟩ m)))
variable {n : Nat}
theorem snd_es (ih : IHE P A G d n) (g : GE P A G d hx Φ c X W) : ∀ {es : List Expr} {ms : List E}, mapO (trE c n) es = some ms → PA X es (tA X.K X.mg Φ W (evEs P ⟨call P d, hx⟩ ms))
  | [], ms, h => by
    cases h
    rw [show evEs P ⟨call P d, hx⟩ [] = fun _ h => .ok [] h from by funext ρ h; rw [evEs]]
    exact sa_nil
  | e :: es, ms, h => by
    unfold mapO at h
    cases e1 : trE c n e with
    | none => rw [e1] at h; cases h
    | some m =>
      rw [e1] at h
      cases e2 : mapO (trE c n) es with
      | none => rw [e2] at h; cases h
      | some ms' =>
        rw [e2] at h
        cases h
        rw [show evEs P ⟨call P d, hx⟩ (m :: ms') = _ from by funext ρ h; rw [evEs]]
        exact sa_cons (star_cons e1 _ _) (ih g e1).1 (snd_es ih g e2)
theorem es_nil {es : List Expr} {ms : List E} (h : mapO (trE c n) es = some ms) : es = [] → evEs P ⟨call P d, hx⟩ ms = fun _ h => .ok [] h := fun e => by
  subst e
  cases h
  funext ρ h
  rw [evEs]
theorem es_star {es : List Expr} {ms : List E} (h : mapO (trE c n) es = some ms) (pos : Pos) : ∀ e r, es = e :: r → starEach (e :: r) X.env = (false, eval e X.env) :: starEach r X.env ∧ (backTo pos (starEach r X.env)).any (·.1) = false := fun e r he => by
  subst he
  unfold mapO at h
  cases e1 : trE c n e with
  | none => rw [e1] at h; cases h
  | some m =>
    rw [e1] at h
    cases e2 : mapO (trE c n) r with
    | none => rw [e2] at h; cases h
    | some ms' => exact ⟨star_cons e1 _ _, star_plain pos _ e2⟩
theorem folded_ok {it : Expr} {m : E} {env : Env} (h : trE c n it = some m) : ∀ x, foldedSetIterable it env x = pure x := by
  intro x
  cases n with
  | zero => cases h
  | succ n =>
    cases it
    case Set => simp only [trE] at h; cases h
    all_goals rfl
theorem snd_it (ih : IHE P A G d n) (g : GE P A G d hx Φ c X W) {tg it : Expr} {k : ItK} {its : List E} (h : trIt c (trE c n) it = some (k, its)) (z : zipOk k tg = true) :
    PI X tg it (tG X.K X.mg (RI X.K X.mg) Φ W (mI k (evEs P ⟨call P d, hx⟩ its))) ∧ ∀ x, foldedSetIterable it X.env x = pure x := by
  have one : ∀ {e : Expr} {m : E}, trE c n e = some m → PI X tg e (tG X.K X.mg (RI X.K X.mg) Φ W (mI .val (evEs P ⟨call P d, hx⟩ [m]))) ∧ ∀ x, foldedSetIterable e X.env x = pure x := fun {e m} q => by
    refine ⟨si_val (ih g q).1 ?_, folded_ok q⟩
    funext ρ h
    rw [evEs]
    congr 1
  have gen : ∀ {e : Expr}, (trE c n e).map (fun e => (ItK.val, [e])) = some (k, its) → PI X tg e (tG X.K X.mg (RI X.K X.mg) Φ W (mI k (evEs P ⟨call P d, hx⟩ its))) ∧ ∀ x, foldedSetIterable e X.env x = pure x := fun {e} q => by
    cases e1 : trE c n e with
    | none => rw [e1] at q; cases q
    | some m => rw [e1] at q; cases q; exact one e1
  unfold trIt at h
  split at h
  · rename_i x p es q
    split at h
    · rename_i hc
      simp only [Bool.and_eq_true, Bool.or_eq_true, decide_eq_true_eq] at hc
      obtain ⟨⟨h1, h2⟩, h3⟩ := hc
      split at h
      · rename_i a
        split at h
        · rename_i hx'
          subst hx'
          cases e1 : trE c n a with
          | none => rw [e1] at h; cases h
          | some ma =>
            rw [e1] at h
            cases h
            have ea : mapO (trE c n) [a] = some [ma] := by
              unfold mapO; rw [e1]; rfl
            exact ⟨si_rng1 (g.glob h2) g.fc.rng (snd_es ih g ea) (star_cons e1 _ _), fun _ => rfl⟩
        · cases h
      · rename_i a b
        split at h
        · rename_i ma mb e1 e2
          have eb : mapO (trE c n) [b] = some [mb] := by
            unfold mapO; rw [e2]; rfl
          have ea : mapO (trE c n) [a, b] = some [ma, mb] := by
            unfold mapO; rw [e1, eb]
          split at h
          · rename_i hx'
            subst hx'
            cases h
            exact ⟨si_rng2 (g.glob h2) g.fc.rng (snd_es ih g ea) (by rw [star_cons e1, star_cons e2]; rfl) (star_cons e2 _ _), fun _ => rfl⟩
          · rename_i hx'
            have hx' : x = "zip" := h3.resolve_left hx'
            subst hx'
            cases h
            cases tg with
            | Tuple elts kk tpos => exact ⟨si_zip (g.glob h2) g.fc.zip (snd_es ih g ea) (star_cons e1 _ _) (star_plain _ _ eb), fun _ => rfl⟩
            | _ => cases z
        · cases h
      · cases h
    · exact gen h
  · exact gen h
end
end Pl

namespace Pl
open PySem PySem.Spec PyProof.Rows L2
section
variable {P : Prog} {A : Nm → Addr} {G : Nm → Bool} {d : Nat} {hx : Hx} {Φ : L2.St → Prop} {c : TC} {X : Cx} {W : WX} {n : Nat}
/-- what a comprehension's rules ask -/
def LcOk (X : Cx) (Φ : L2.St → Prop) (W : WX) (el t it : Expr) (ifs : List Expr) (scope : Scope) (m : Loc → AH → Rs U) : Prop :=
  ∃ (own : List (Str × Nat)) (wi : TI) (g : TG) (tt : TT) (te : TE), PI X t it wi ∧ BlkOk X.N X.env.scope scope own ∧
    (∀ (s : Shared) (H : Hp) (C : Addr) (cl : List (Str × Addr)) (fp : List Addr), PG (X.blk s H scope (compEnvC scope cl C X.env) fp) t g) ∧ (∀ (s : Shared) (H : Hp) (C : Addr) (cl : List (Str × Addr)) (fp : List Addr), PTs (X.blk s H scope (compEnvC scope cl C X.env) fp) ifs tt) ∧
    (∀ (s : Shared) (H : Hp) (C : Addr) (cl : List (Str × Addr)) (fp : List Addr), PE (X.blk s H scope (compEnvC scope cl C X.env) fp) el te) ∧ (∀ x, foldedSetIterable it X.env x = pure x) ∧
    ∀ σ H Q, tE X.K X.mg Φ W m σ H Q → tLc wi g tt te (own.map (·.2)) σ H Q
/-- a comprehension's reading -/
theorem snd_lc (ih : IHE P A G d n) (g : GE P A G d hx Φ c X W) (hv : c.hv = none) {el t it : Expr} {ifs : List Expr} {scope : Scope} (hb : blkC c.N c.sc scope (ownOf c.N (tgNames t)) = true) {k : ItK} {its cs : List E} {t' : Tg} {el' : E}
    (h1 : trIt c (trE c n) it = some (k, its)) (h2 : tgOf { c with sc := relS scope c.sc, asg := fun x => locB scope x } t = some t') (h3 : trE { c with sc := relS scope c.sc, asg := fun x => locB scope x } n el = some el')
    (h4 : (ifs = [] ∧ cs = []) ∨ ∃ i i', ifs = [i] ∧ cs = [i'] ∧ isIf i = false ∧ trE { c with sc := relS scope c.sc, asg := fun x => locB scope x } n i = some i') (z : zipOk k t = true) :
    LcOk X Φ W el t it ifs scope (evE P ⟨call P d, hx⟩ (.comp el' t' k its cs)) := by
  obtain ⟨hx0, hcalm, hroom⟩ := g.cold hv
  subst hx0
  obtain ⟨hi, hs⟩ := snd_it ih g h1 z
  have ok : BlkOk X.N X.env.scope scope (ownOf c.N (tgNames t)) := by
    rw [g.N, g.sc]
    exact blkOk_by hb
  have own : (ownOf c.N (tgNames t)).map (·.2) = t'.slots := own_slots (c := { c with sc := relS scope c.sc, asg := fun x => locB scope x }) h2
  have hg : ∀ (s : Shared) (H : Hp) (C : Addr) (cl : List (Str × Addr)) (fp : List Addr), PG (X.blk s H scope (compEnvC scope cl C X.env) fp) t (gT X.K t') := fun s H C cl fp => by
    have gb := g.blk hv s H C cl fp scope
    exact pg_tg (X := X.blk s H scope (compEnvC scope cl C X.env) fp) hcalm gb.N gb.nd gb.tgt h2
  have he : ∀ (s : Shared) (H : Hp) (C : Addr) (cl : List (Str × Addr)) (fp : List Addr), PE (X.blk s H scope (compEnvC scope cl C X.env) fp) el (tE X.K X.mg (fun _ => True) W0 (evE P ⟨call P d, none⟩ el')) := fun s H C cl fp =>
    (ih (g.blk hv s H C cl fp scope) h3).1
  rcases h4 with ⟨rfl, rfl⟩ | ⟨i, i', rfl, rfl, hif, e4⟩
  · refine ⟨_, _, _, _, _, hi, ok, hg, fun s H C cl fp => pts_nil, he, hs, fun σ H Q q => ?_⟩
    rw [own]
    refine lc_rd turn_el (Q := Q) ?_
    refine Eq.mp (congrArg (fun m => tE X.K X.mg Φ W m σ H Q) ?_) q
    funext ρ h
    rw [evE, if_pos rfl]
    all_goals rfl
  · have ht : ∀ (s : Shared) (H : Hp) (C : Addr) (cl : List (Str × Addr)) (fp : List Addr), PTs (X.blk s H scope (compEnvC scope cl C X.env) fp) [i] (tT X.K X.mg (fun _ => True) W0 (evE P ⟨call P d, none⟩ i')) := fun s H C cl fp =>
      pts_one ((ih (g.blk hv s H C cl fp scope) e4).2 hif)
    refine ⟨_, _, _, _, _, hi, ok, hg, ht, he, hs, fun σ H Q q => ?_⟩
    rw [own]
    refine lc_rd turn_elIf (Q := Q) ?_
    refine Eq.mp (congrArg (fun m => tE X.K X.mg Φ W m σ H Q) ?_) q
    funext ρ h
    rw [evE, if_pos rfl]
    all_goals rfl
theorem lc_tr (ih : IHE P A G d n) (g : GE P A G d hx Φ c X W) {el : Expr} {gs : List Comprehension} {scope : Scope} {pos : Pos} {m : E} (h : trE c (n + 1) (.ListComp el gs scope pos) = some m) :
    c.hv = none ∧ ∃ t it ifs, gs = [⟨t, it, ifs, 0⟩] ∧ LcOk X Φ W el t it ifs scope (evE P ⟨call P d, hx⟩ m) := by
  unfold trE at h
  split at h
  any_goals (rename_i heq; cases heq)
  · split at h
    · rename_i hb
      simp only [Bool.and_eq_true, Option.isNone_iff_eq_none] at hb
      obtain ⟨hb, hv⟩ := hb
      refine ⟨hv, _, _, _, rfl, ?_⟩
      simp only at h
      split at h
      · rename_i k its t' el' h1 h2 h3
        split at h
        · rename_i z
          split at h
          · cases h
            exact snd_lc ih g hv hb h1 h2 h3 (.inl ⟨rfl, rfl⟩) z
          · rename_i i
            split at h
            · cases h
            · rename_i hif
              split at h
              · rename_i i' e4
                cases h
                exact snd_lc ih g hv hb h1 h2 h3 (.inr ⟨i, i', rfl, rfl, by simpa using hif, e4⟩) z
              · cases h
          · cases h
        · cases h
      · cases h
    · cases h
  · cases h
theorem LcOk.pe (hc : X.calm = true) (nd : X.N.Nodup) {el t it : Expr} {ifs : List Expr} {scope : Scope} {m : Loc → AH → Rs U} {pos : Pos} (L : LcOk X Φ W el t it ifs scope m) : PE X (.ListComp el [⟨t, it, ifs, 0⟩] scope pos) (tE X.K X.mg Φ W m) := by
  obtain ⟨own, wi, g, tt, te, h1, h2, h3, h4, h5, h6, h7⟩ := L
  exact pe_imp (pe_lc hc nd h1 h2 h3 h4 h5 h6) h7
/-- or, and -/
theorem snd_bool (ih : IHE P A G d n) (g : GE P A G d hx Φ c X W) {pos : Pos} : ∀ {vs : List Expr} {m : E}, vs.any isIf = false → (trB (trE c n) .an vs = some m → PE X (.BoolOp .And vs pos) (tE X.K X.mg Φ W (evE P ⟨call P d, hx⟩ m)) ∧ PW X (.BoolOp .And vs pos) (tT X.K X.mg Φ W (evE P ⟨call P d, hx⟩ m))) ∧
    (trB (trE c n) .or vs = some m → PE X (.BoolOp .Or vs pos) (tE X.K X.mg Φ W (evE P ⟨call P d, hx⟩ m)) ∧ PW X (.BoolOp .Or vs pos) (tT X.K X.mg Φ W (evE P ⟨call P d, hx⟩ m)))
  | [], m, _ => ⟨fun h => (nomatch h), fun h => (nomatch h)⟩
  | [a], m, hi => by
    have ha : isIf a = false := by simpa using hi
    refine ⟨fun h => ?_, fun h => ?_⟩
    · have h : trE c n a = some m := h
      exact ⟨pe_one (ih g h).1, pw_and1 ((ih g h).2 ha)⟩
    · have h : trE c n a = some m := h
      exact ⟨pe_one (ih g h).1, pw_or1 ((ih g h).2 ha)⟩
  | a :: b :: r, m, hi => by
    simp only [List.any_cons, Bool.or_eq_false_iff] at hi
    have rec' := fun m => snd_bool ih g (pos := pos) (vs := b :: r) (m := m) (by simp only [List.any_cons, Bool.or_eq_false_iff]; exact hi.2)
    refine ⟨fun h => ?_, fun h => ?_⟩
    · unfold trB at h
      split at h
      · rename_i ma mb e1 e2
        cases h
        obtain ⟨q1, q2⟩ := (rec' mb).1 e2
        rw [show evE P ⟨call P d, hx⟩ (.an ma mb) = mAnd (evE P ⟨call P d, hx⟩ ma) (evE P ⟨call P d, hx⟩ mb) from by funext ρ h; rw [evE] <;> rfl]
        exact ⟨se_and (ih g e1).1 q1, sw_and ((ih g e1).2 hi.1) q2⟩
      · cases h
    · unfold trB at h
      split at h
      · rename_i ma mb e1 e2
        cases h
        obtain ⟨q1, q2⟩ := (rec' mb).2 e2
        rw [show evE P ⟨call P d, hx⟩ (.or ma mb) = mOr (evE P ⟨call P d, hx⟩ ma) (evE P ⟨call P d, hx⟩ mb) from by funext ρ h; rw [evE] <;> rfl]
        exact ⟨se_or (ih g e1).1 q1, sw_or ((ih g e1).2 hi.1) q2⟩
      · cases h
theorem part_ok (ih : IHE P A G d n) (g : GE P A G d hx Φ c X W) {e : Option Expr} {ms : List E} (h : trO (trE c n) e = some ms) : PartOf X Φ W e (evEs P ⟨call P d, hx⟩ ms) := by
  cases e with
  | none => cases h; exact .inl ⟨rfl, fun ρ h => by rw [evEs]⟩
  | some x =>
    have h : (trE c n x).map (fun e => [e]) = some ms := h
    cases e1 : trE c n x with
    | none => rw [e1] at h; cases h
    | some m =>
      rw [e1] at h
      cases h
      refine .inr ⟨x, _, rfl, (ih g e1).1, fun ρ h => ?_⟩
      rw [evEs]
      congr 1
theorem bo_ok {o : Operator} {b : Bo} (h : boOf o = some b) : o = astBo b := by
  cases o <;> cases h <;> rfl
theorem co_ok (o : CmpOp) : o = astCo (coOf o) := by
  cases o <;> rfl
theorem sndE (n : Nat) : IHE P A G d n := by
  induction n with
  | zero =>
    unfold IHE
    intro hx Φ c X W e m g h
    cases h
  | succ n ih =>
    unfold IHE
    intro hx Φ c X W e m g h
    have hu : X.A.units + 102 < cLine := by have := g.units; omega
    have cu : ∀ {u : U} {v : V} {e : Expr}, PE X e (tC v) → (∀ w, RelU X.K w u v) → PE X e (tE X.K X.mg Φ W (evE P ⟨call P d, hx⟩ (.cu u))) := fun {u v e} p r => by
      rw [show evE P ⟨call P d, hx⟩ (.cu u) = _ from by funext ρ h; rw [evE]]
      exact se_cu p r
    unfold trE at h
    split at h
    · -- Name
      rename_i x pos
      split at h
      · rename_i i ei
        split at h
        · rename_i hc
          cases h
          simp only [Bool.and_eq_true] at hc
          have p : PE X (.Name x pos) (tE X.K X.mg Φ W (evE P ⟨call P d, hx⟩ (.lc i))) := by
            rw [show evE P ⟨call P d, hx⟩ (.lc i) = _ from by funext ρ h; rw [evE]]
            exact se_lc (by rw [g.N]; exact idxN_ok ei) (by rw [g.sc]; exact visB_ok hc.1.1) hc.1.2
          exact ⟨p, fun _ => st_val p⟩
        · cases h
      · split at h
        · rename_i hc
          simp only [Bool.and_eq_true] at hc
          split at h
          · rename_i gg eg
            cases h
            have p : PE X (.Name x pos) (tE X.K X.mg Φ W (evE P ⟨call P d, hx⟩ (.gl gg))) := by
              cases q : P.con gg with
              | none => exact pe_bad (tE_bad fun ρ h => by rw [evE, q]; rfl)
              | some u =>
                obtain ⟨v, y, e1, e2, e3⟩ := g.fc.con gg u q
                rw [g.gk.con x gg eg] at e1
                rw [show evE P ⟨call P d, hx⟩ (.gl gg) = fun _ h => .ok u h from by funext ρ h; rw [evE, q]; rfl]
                exact se_cu (pe_glob (g.glob hc.1) e1 e2 (plain_dbg hc.2)) e3
            exact ⟨p, fun _ => st_val p⟩
          · cases h
        · cases h
    · rename_i i kd pos
      cases h
      have p := cu (u := .int i) (pe_int (i := i) (j := kd) (pos := pos)) fun w => rfl
      exact ⟨p, fun _ => st_val p⟩
    · rename_i i kd pos
      cases h
      have p := cu (u := .bl i) (pe_bl (b := i) (j := kd) (pos := pos)) fun w => rfl
      exact ⟨p, fun _ => st_val p⟩
    · rename_i i kd pos
      cases h
      have p := cu (u := .str i) (pe_str (x := i) (j := kd) (pos := pos)) fun w => rfl
      exact ⟨p, fun _ => st_val p⟩
    · rename_i kd pos
      cases h
      have p := cu (u := .non) (pe_non (j := kd) (pos := pos)) fun w => rfl
      exact ⟨p, fun _ => st_val p⟩
    · -- BinOp
      rename_i a o b pos
      split at h
      · rename_i bo ma mb eo ea eb
        cases h
        rw [bo_ok eo]
        have p := se_bin (o := bo) (pos := pos) (ih g ea).1 (ih g eb).1
        rw [show evE P ⟨call P d, hx⟩ (.bin bo ma mb) = _ from by funext ρ h; rw [evE]]
        exact ⟨p, fun _ => st_val p⟩
      · cases h
    · -- not
      rename_i a pos
      split at h
      · cases h
      · rename_i hif
        cases ea : trE c n a with
        | none => rw [ea] at h; cases h
        | some ma =>
          rw [ea] at h
          cases h
          rw [show evE P ⟨call P d, hx⟩ (.nt ma) = _ from by funext ρ h; rw [evE]]
          exact ⟨se_not (ih g ea).1, fun _ => st_not ((ih g ea).2 (by simpa using hif))⟩
    · rename_i a pos
      cases ea : trE c n a with
      | none => rw [ea] at h; cases h
      | some ma =>
        rw [ea] at h
        cases h
        have p := se_neg (pos := pos) (ih g ea).1
        rw [show evE P ⟨call P d, hx⟩ (.neg ma) = _ from by funext ρ h; rw [evE]]
        exact ⟨p, fun _ => st_val p⟩
    · rename_i vs pos
      split at h
      · cases h
      · rename_i hif
        obtain ⟨q1, q2⟩ := (snd_bool ih g (pos := pos) (m := m) (by simpa using hif)).1 h
        exact ⟨q1, fun _ => q2.pt⟩
    · rename_i vs pos
      split at h
      · cases h
      · rename_i hif
        obtain ⟨q1, q2⟩ := (snd_bool ih g (pos := pos) (m := m) (by simpa using hif)).2 h
        exact ⟨q1, fun _ => q2.pt⟩
    · -- a comparison
      rename_i a o b pos
      split at h
      · rename_i hm
        split at h
        · rename_i ma mb ea eb
          cases h
          rw [show evE P ⟨call P d, hx⟩ (.cmp (coOf o) ma mb) = _ from by funext ρ h; rw [evE]]
          rw [co_ok o] at hm
          have p := se_cmp (o := coOf o) (pos := pos) hu hm (ih g ea).1 (ih g eb).1
          have q := st_cmp (o := coOf o) (pos := pos) hu hm (ih g ea).1 (ih g eb).1
          rw [← co_ok o] at p q
          exact ⟨p, fun _ => q⟩
        · cases h
      · cases h
    · rename_i a o o2 b dd pos
      split at h
      · rename_i hm
        split at h
        · rename_i ma mb md ea eb ed
          cases h
          rw [show evE P ⟨call P d, hx⟩ (.chain (coOf o) (coOf o2) ma mb md) = _ from by funext ρ h; rw [evE]]
          rw [co_ok o, co_ok o2] at hm
          have p := se_chain (o := coOf o) (p := coOf o2) (pos := pos) hu hm (ih g ea).1 (ih g eb).1 (ih g ed).1
          have q := st_chain (o := coOf o) (p := coOf o2) (pos := pos) hu hm (ih g ea).1 (ih g eb).1 (ih g ed).1
          rw [← co_ok o, ← co_ok o2] at p q
          exact ⟨p, fun _ => q⟩
        · cases h
      · cases h
    · -- a if t else b
      rename_i t a b pos
      split at h
      · cases h
      · rename_i hif
        split at h
        · rename_i mt ma mb et ea eb
          cases h
          have p := se_ife (pos := pos) ((ih g et).2 (by simpa using hif)) (ih g ea).1 (ih g eb).1
          rw [show evE P ⟨call P d, hx⟩ (.ife mt ma mb) = _ from by funext ρ h; rw [evE]]
          exact ⟨p, fun z => (nomatch z)⟩
        · cases h
    · -- a call by name
      rename_i x pn es pos
      split at h
      · rename_i hc
        simp only [Bool.and_eq_true] at hc
        obtain ⟨⟨hn, hgl⟩, hpl⟩ := hc
        have hg := g.glob hgl
        split at h
        · -- isinstance
          rename_i hxi
          subst hxi
          have isi1 : ∀ {a t : Expr}, (match trE c n a, tyOf c t with
              | some a, some t => some (E.isi a [t])
              | _, _ => none) = some m → PE X (.Call (.Name "isinstance" pn) [a, t] [] pos) (tE X.K X.mg Φ W (evE P ⟨call P d, hx⟩ m)) := fun {a t} h => by
            split at h
            · rename_i ma ty ea et
              cases h
              rw [show evE P ⟨call P d, hx⟩ (.isi ma [ty]) = _ from by funext ρ h; rw [evE]]
              exact se_isi1 g.gk g.fc g.sc hg (ih g ea).1 (star_cons ea _ _) et
            · cases h
          have isiN : ∀ {a : Expr} {ts : List Expr} {kk : Nat} {pt : Pos}, ¬ 1000 < ts.length → (match trE c n a, mapO (tyOf c) ts with
              | some a, some ts => some (E.isi a ts)
              | _, _ => none) = some m → PE X (.Call (.Name "isinstance" pn) [a, .Tuple ts kk pt] [] pos) (tE X.K X.mg Φ W (evE P ⟨call P d, hx⟩ m)) := fun {a ts kk pt} hl h => by
            split at h
            · rename_i ma ty ea et
              cases h
              rw [show evE P ⟨call P d, hx⟩ (.isi ma ty) = _ from by funext ρ h; rw [evE]]
              have hs : sln = 16777216 := sizeLine_eq
              exact se_isiN g.gk g.fc g.sc hg (ih g ea).1 (star_cons ea _ _) et (by omega)
            · cases h
          have fin : PE X (.Call (.Name "isinstance" pn) es [] pos) (tE X.K X.mg Φ W (evE P ⟨call P d, hx⟩ m)) := by
            split at h
            · split at h
              · cases h
              · rename_i hl
                split at h
                · rename_i y py
                  split at h
                  · rename_i ey
                    obtain ⟨kx, fs, rfl, q1, q2, q3⟩ := g.hot y ey.1 ey.2
                    obtain ⟨ks, et, rfl⟩ := Option.map_eq_some_iff.mp h
                    rw [show evE P ⟨call P d, some (kx, fs)⟩ (.xisi ks) = _ from by funext ρ h; rw [evE]]
                    exact q2 _ _ _ _ _ _ _ hg hl et
                  · exact isiN hl h
                · exact isiN hl h
            · split at h
              · rename_i y py
                split at h
                · rename_i ey
                  obtain ⟨kx, fs, rfl, q1, q2, q3⟩ := g.hot y ey.1 ey.2
                  obtain ⟨ks, et, rfl⟩ := Option.map_eq_some_iff.mp h
                  rw [show evE P ⟨call P d, some (kx, fs)⟩ (.xisi [ks]) = _ from by funext ρ h; rw [evE]]
                  exact q1 _ _ _ _ _ hg et
                · exact isi1 h
              · exact isi1 h
            · cases h
          exact ⟨fin, fun _ => st_val fin⟩
        · rename_i hxi
          split at h
          · -- a def
            rename_i f ef
            split at h
            · cases h
            · rename_i hv
              have hv : c.hv = none := by simpa using hv
              obtain ⟨rfl, hcalm, hroom⟩ := g.cold hv
              obtain ⟨rfl, hG⟩ := g.gk.fn x f ef
              cases ea : mapO (trE c n) es with
              | none => rw [ea] at h; cases h
              | some ms =>
                rw [ea] at h
                cases h
                have p := se_call (pos := pos) (p := pn) (f := f) (F0 := ⟨0, 0, []⟩) g.fn (hroom.mono (by omega)) g.tk hg hpl (g.fc.glob f hG) (snd_es ih g ea) (es_nil ea) (es_star ea pos)
                rw [show evE P ⟨call P d, none⟩ (.call f ms) = _ from by funext ρ h; rw [evE, if_pos rfl]]
                exact ⟨p, fun _ => st_val p⟩
          · rename_i k ek
            split at h
            · cases h
            · rename_i hv
              have hv : c.hv = none := by simpa using hv
              obtain ⟨rfl, hcalm, hroom⟩ := g.cold hv
              obtain ⟨rfl, C, hC, cf⟩ := g.gk.cls x k ek
              cases ea : mapO (trE c n) es with
              | none => rw [ea] at h; cases h
              | some ms =>
                rw [ea] at h
                cases h
                have p : PE X (.Call (.Name (nstr k) pn) es [] pos) (tE X.K X.mg Φ W (evE P ⟨call P d, none⟩ (.new k ms))) := by
                  cases ei : P.init k with
                  | none => exact pe_bad (tE_bad fun ρ h => by rw [evE, if_pos rfl, ei])
                  | some f =>
                    obtain ⟨C', hC', cf', mk⟩ := g.fc.init k f ei
                    rw [hC] at hC'; cases hC'
                    by_cases hf : (P.fn f).isSome = true
                    · have p := se_new (pos := pos) (p := pn) g.fn hroom g.tk hg hpl hC mk (snd_es ih g ea) (es_nil ea) (es_star ea pos) hf
                      exact pe_eq p fun ρ h => by rw [evE, if_pos rfl, ei]; exact if_pos hf
                    · exact pe_bad (tE_bad fun ρ h => by rw [evE, if_pos rfl, ei]; exact if_neg hf)
                exact ⟨p, fun _ => st_val p⟩
          · cases h
          · split at h
            · rename_i b eb
              split at h
              · cases h
              · rename_i hne
                have eb' := biOf_ok eb
                subst eb'
                simp only [Bool.or_eq_true, Bool.and_eq_true, Bool.not_eq_true', not_or, not_and, decide_eq_false_iff_not] at hne
                cases ea : mapO (trE c n) es with
                | none => rw [ea] at h; cases h
                | some ms =>
                  rw [ea] at h
                  cases h
                  cases es with
                  | nil => exact absurd rfl hne.1
                  | cons e0 er =>
                    obtain ⟨s1, s2⟩ := es_star (X := X) ea pos e0 er rfl
                    have hcb : (hx = none ∧ X.calm = true) ∨ b = .int := by
                      cases hv : c.hv with
                      | none => exact .inl ⟨(g.cold hv).1, (g.cold hv).2.1⟩
                      | some y =>
                        have := hne.2 (by rw [hv]; rfl)
                        exact .inr (by simpa using this)
                    have p := se_bi (b := b) (pos := pos) (p := pn) g.units (hcb.imp (·.2) id) hg (g.fc.bi b) (snd_es ih g ea) s1 s2
                    rw [show evE P ⟨call P d, hx⟩ (.bi b ms) = _ from by funext ρ h; rw [evE, if_pos (hcb.imp (·.1) id)]]
                    exact ⟨p, fun _ => st_val p⟩
            · cases h
      · cases h
    · -- a method
      rename_i o mm apos es pos
      split at h
      · rename_i hc
        simp only [Bool.and_eq_true, decide_eq_true_eq, Option.isNone_iff_eq_none] at hc
        obtain ⟨⟨⟨h1, h2⟩, h3⟩, hv⟩ := hc
        obtain ⟨rfl, hcalm, hroom⟩ := g.cold hv
        split at h
        · rename_i mn mo ms en eo ea
          cases h
          have en' := g.gk.nm mm mn en
          subst en'
          have p := se_meth (m := mn) (apos := apos) (pos := pos) g.fn g.fc (hroom.mono (by omega)) hu g.tk h2 h1 (few_ok (ms' := ms) ea) h3 (ih g eo).1 (snd_es ih g ea) (es_nil ea) (es_star ea pos)
          have p := pe_eq (m' := evE P ⟨call P d, none⟩ (.meth mo mn ms)) p fun ρ h => by
            rw [evE]
            congr 1
            funext u h
            cases u with
            | ref a =>
              simp only
              cases h[a]? with
              | none => rfl
              | some ob =>
                cases ob with
                | ins k fs => simp only; cases fs.lookup mn <;> cases P.meth k mn <;> rfl
                | _ => rfl
            | _ => rfl
          exact ⟨p, fun _ => st_val p⟩
        · cases h
      · cases h
    · -- a field
      rename_i o f pos
      have gen : ∀ {o : Expr}, notCall0 o = true → (match c.nm f, trE c n o with
          | some f, some o => some (E.fld o f)
          | _, _ => none) = some m → PE X (.Attribute o f pos) (tE X.K X.mg Φ W (evE P ⟨call P d, hx⟩ m)) := fun {o} hb h => by
        split at h
        · rename_i fn mo ef eo
          cases h
          have ef' := g.gk.nm f fn ef
          subst ef'
          have p := se_fld (f := fn) (pos := pos) g.fc hb (ih g eo).1
          rw [show evE P ⟨call P d, hx⟩ (.fld mo fn) = _ from by funext ρ h; rw [evE]]
          exact p
        · cases h
      split at h
      · rename_i y yp
        split at h
        · rename_i ey
          obtain ⟨kx, fs, rfl, q1, q2, q3⟩ := g.hot y ey.1 ey.2
          obtain ⟨fn, ef, rfl⟩ := Option.map_eq_some_iff.mp h
          have ef' := g.gk.nm f fn ef
          subst ef'
          have p := q3 yp pos fn
          rw [show evE P ⟨call P d, some (kx, fs)⟩ (.xfld fn) = _ from by funext ρ h; rw [evE]]
          exact ⟨p, fun _ => st_val p⟩
        · have p := gen rfl h
          exact ⟨p, fun _ => st_val p⟩
      · split at h
        · rename_i hb
          have p := gen hb h
          exact ⟨p, fun _ => st_val p⟩
        · cases h
    · -- a slice
      rename_i a lo hi sp pos
      split at h
      · rename_i ma ml mh ea el eh
        cases h
        have p := se_slc (pos := pos) (p2 := sp) (ih g ea).1 (part_ok ih g el) (part_ok ih g eh)
        rw [show evE P ⟨call P d, hx⟩ (.slc ma ml mh) = _ from by funext ρ h; rw [evE]]
        exact ⟨p, fun _ => st_val p⟩
      · cases h
    · rename_i a b pos _
      split at h
      · rename_i hs
        split at h
        · rename_i ma mb ea eb
          cases h
          have p := se_sub (pos := pos) hs (ih g ea).1 (ih g eb).1
          rw [show evE P ⟨call P d, hx⟩ (.sub ma mb) = _ from by funext ρ h; rw [evE]]
          exact ⟨p, fun _ => st_val p⟩
        · cases h
      · cases h
    · rename_i es kk pos
      obtain ⟨ms, ea, rfl⟩ := Option.map_eq_some_iff.mp h
      have p := se_tup (pos := pos) (k := kk) (snd_es ih g ea)
      rw [show evE P ⟨call P d, hx⟩ (.tup ms) = _ from by funext ρ h; rw [evE]]
      exact ⟨p, fun _ => st_val p⟩
    · rename_i es pos
      obtain ⟨ms, ea, rfl⟩ := Option.map_eq_some_iff.mp h
      have p := se_lst (pos := pos) (snd_es ih g ea)
      rw [show evE P ⟨call P d, hx⟩ (.lst ms) = _ from by funext ρ h; rw [evE]]
      exact ⟨p, fun _ => st_val p⟩
    · -- a comprehension
      rename_i el t it ifs scope pos
      have h' : trE c (n + 1) (.ListComp el [⟨t, it, ifs, 0⟩] scope pos) = some m := by
        unfold trE
        exact h
      obtain ⟨hv, t', it', ifs', e, L⟩ := lc_tr ih g h'
      cases e
      have p := L.pe (pos := pos) (g.cold hv).2.1 g.nd
      exact ⟨p, fun _ => st_val p⟩
    · cases h
end
end Pl

namespace Pl
open PySem PySem.Spec PyProof.Rows L2
/-! ### statements' readings -/
section
variable (K : PySem.W.Frag) (mg : Str → Option Value)
def OutS (Φ : L2.St → Prop) (W : WX) (w : Wd) (D : Ends) : Rt → Prop
  | .nx ρ h => ∀ (w' : Wd) (σ : L2.St), Sim K mg w' h → Ext w w' → RelL K w' ρ σ → Φ σ → D.nx σ w'.H
  | .bk ρ h => ∀ (w' : Wd) (σ : L2.St), Sim K mg w' h → Ext w w' → RelL K w' ρ σ → Φ σ → D.bk σ w'.H
  | .ct ρ h => ∀ (w' : Wd) (σ : L2.St), Sim K mg w' h → Ext w w' → RelL K w' ρ σ → Φ σ → D.ct σ w'.H
  | .rt u h => ∀ (w' : Wd) (v : V), Sim K mg w' h → Ext w w' → RelU K w' u v → D.rt v w'.H
  | .xc c fs ρ h => ∀ (w' : Wd) (σ : L2.St) (cls : Value) (d : Option Addr), Sim K mg w' h → Ext w w' → RelL K w' ρ σ → Φ σ → RelX mg c fs cls d → W cls d σ w'.H
  | .bad => False
def tS (Φ : L2.St → Prop) (W : WX) (m : Loc → AH → Rt) : TS := fun D σ H =>
  ∃ (w : Wd) (h : AH) (ρ : Loc), w.H = H ∧ Sim K mg w h ∧ RelL K w ρ σ ∧ Φ σ ∧ OutS K mg Φ W w D (m ρ h)
end
section
variable {K : PySem.W.Frag} {mg : Str → Option Value} {Φ : L2.St → Prop} {W : WX} {σ : L2.St} {H : Hp} {w w' : Wd} {D D' : Ends} {α β : Type} {R : Wd → α → β → Prop}
theorem OutS.mono {r : Rt} (e : Ext w w') (o : OutS K mg Φ W w D r) : OutS K mg Φ W w' D r := by
  cases r with
  | nx ρ h => exact fun w2 σ S E => o w2 σ S (e.trans E)
  | bk ρ h => exact fun w2 σ S E => o w2 σ S (e.trans E)
  | ct ρ h => exact fun w2 σ S E => o w2 σ S (e.trans E)
  | rt u h => exact fun w2 v S E => o w2 v S (e.trans E)
  | xc c fs ρ h => exact fun w2 σ cls d S E => o w2 σ cls d S (e.trans E)
  | bad => exact o
theorem OutS.here {ρ : Loc} {h : AH} (o : OutS K mg Φ W w D (.nx ρ h)) (S : Sim K mg w h) (L : RelL K w ρ σ) (F : Φ σ) : D.nx σ w.H := o w σ S Ext.rfl' L F
/-- an expression, then the rest -/
theorem OutS.go {ρ : Loc} {r : Rs α} {f : α → AH → Rt} (L : RelL K w ρ σ) (F : Φ σ) (o : OutS K mg Φ W w D (r.go ρ f)) :
    OutG K mg R W σ w (fun v H1 => ∃ w1 h1 u, w1.H = H1 ∧ Sim K mg w1 h1 ∧ Ext w w1 ∧ R w1 u v ∧ OutS K mg Φ W w1 D (f u h1)) r := by
  cases r with
  | ok u h' => exact fun w2 v S E r => ⟨w2, h', u, rfl, S, E, r, OutS.mono E o⟩
  | exc c fs h' => exact fun w2 cls d S E x => o w2 σ cls d S E (L.mono E) F x
  | bad => exact o
theorem tS.go {m : Loc → AH → Rs α} {f : Loc → α → AH → Rt} (q : tS K mg Φ W (fun ρ h => (m ρ h).go ρ (f ρ)) D σ H) :
    tG K mg R Φ W m σ H fun v H1 => ∃ w1 h1 ρ u, w1.H = H1 ∧ Sim K mg w1 h1 ∧ RelL K w1 ρ σ ∧ Φ σ ∧ R w1 u v ∧ OutS K mg Φ W w1 D (f ρ u h1) := by
  obtain ⟨w, h, ρ, rfl, S, L, F, o⟩ := q
  refine ⟨w, h, ρ, rfl, S, L, F, (OutS.go (R := R) L F o).imp ?_⟩
  rintro v H1 ⟨w1, h1, u, e, S1, E1, r, o1⟩
  exact ⟨w1, h1, ρ, u, e, S1, L.mono E1, F, r, o1⟩
/-- a test, then the rest -/
theorem tS.test {m : Loc → AH → Rs U} {f : Loc → U → AH → Rt} (hb : ∀ ρ u h, (∀ b, u ≠ .bl b) → f ρ u h = .bad) (q : tS K mg Φ W (fun ρ h => (m ρ h).go ρ (f ρ)) D σ H) :
    tT K mg Φ W m σ H fun b H1 => ∃ w1 h1 ρ, w1.H = H1 ∧ Sim K mg w1 h1 ∧ RelL K w1 ρ σ ∧ Φ σ ∧ OutS K mg Φ W w1 D (f ρ (.bl b) h1) := by
  obtain ⟨w, h, ρ, rfl, S, L, F, o⟩ := q
  refine ⟨w, h, ρ, rfl, S, L, F, ?_⟩
  cases e : m ρ h with
  | ok u h' =>
    dsimp only at o
    rw [e] at o
    by_cases q : ∃ b, u = .bl b
    · obtain ⟨b, rfl⟩ := q
      exact ⟨b, rfl, fun w2 S2 E2 => ⟨w2, h', ρ, rfl, S2, L.mono E2, F, OutS.mono E2 o⟩⟩
    · have e2 := hb ρ u h' fun b z => q ⟨b, z⟩
      rw [Rs.go_ok, e2] at o
      exact o.elim
  | exc c fs h' =>
    dsimp only at o
    rw [e] at o
    exact fun w2 cls d S E x => o w2 σ cls d S E (L.mono E) F x
  | bad =>
    dsimp only at o
    rw [e] at o
    exact o
theorem OutS.seq {r : Rt} {f : Loc → AH → Rt} (o : OutS K mg Φ W w D (r.seq f)) : OutS K mg Φ W w { D with nx := tS K mg Φ W f D } r := by
  cases r with
  | nx ρ h => exact fun w2 σ S E L F => ⟨w2, h, ρ, rfl, S, L, F, OutS.mono E o⟩
  | bk ρ h => exact o
  | ct ρ h => exact o
  | rt u h => exact o
  | xc c fs ρ h => exact o
  | bad => exact o
end
section
variable {X : Cx} {st : Stmt} {t t' : TS}
theorem ps_imp (h : PS X st t) (g : ∀ D σ H, t' D σ H → t D σ H) : PS X st t' := ⟨fun pins s σ H D I q => h.run pins s σ H D I (g D σ H q)⟩
theorem pss_imp {sts : List Stmt} (h : PSs X sts t) (g : ∀ D σ H, t' D σ H → t D σ H) : PSs X sts t' := ⟨fun pins s σ H D I q => h.run pins s σ H D I (g D σ H q)⟩
theorem pss_ex {ι : Type} {p : ι → Prop} {sts : List Stmt} {t : ι → TS} (h : ∀ i, p i → PSs X sts (t i)) : PSs X sts (fun D σ H => ∃ i, p i ∧ t i D σ H) := ⟨fun pins s σ H D I ⟨i, hp, q⟩ => (h i hp).run pins s σ H D I q⟩
end
/-! ### rules -/
/-- a def's body, a try's, a suite -/
structure GS (P : Prog) (A : Nm → Addr) (G : Nm → Bool) (d : Nat) (hx : Hx) (Φ : L2.St → Prop) (c : TC) (X : Cx) (W : WX) : Prop extends GE P A G d hx Φ c X W where
  kind : X.env.scope.kind = .function
  own : c.hv = none → PassesOwn (model X.prog X.w) X.A X.env X.xe
  stk : X.stack = X.env :: X.outer
  fr : X.env.frame = some X.env.locals
  all : c.hv = none → ∀ σ, Φ σ
  keep : ∀ {is : List Nat} {σ σ' : L2.St}, (∀ i ∈ is, ∃ x, c.N[i]? = some x ∧ c.hv ≠ some x) → Stored is σ σ' → Φ σ → Φ σ'
section
variable {P : Prog} {A : Nm → Addr} {G : Nm → Bool} {d : Nat} {hx : Hx} {Φ : L2.St → Prop} {c : TC} {X : Cx} {W : WX} {n : Nat} {pos p1 p2 p3 : Pos}
theorem slot_ok {x : Str} {i : Nat} (h : slotOf c x = some i) : c.N[i]? = some x ∧ locB c.sc x = true ∧ c.asg x = true ∧ c.hv ≠ some x := by
  unfold slotOf at h
  split at h
  · rename_i j hj
    split at h
    · rename_i hc
      cases h
      simp only [Bool.and_eq_true, Bool.not_eq_true', beq_eq_false_iff_ne] at hc
      exact ⟨idxN_ok hj, hc.1.1.1, hc.1.1.2, hc.2⟩
    · cases h
  · cases h
theorem slots_ok : ∀ {es : List Expr} {is : List Nat}, mapO (nameSlot c) es = some is → ∀ i ∈ is, ∃ x, c.N[i]? = some x ∧ c.hv ≠ some x
  | [], is, h, i, hi => by cases h; cases hi
  | e :: es, is, h, i, hi => by
    unfold mapO at h
    cases e1 : nameSlot c e with
    | none => rw [e1] at h; cases h
    | some j =>
      rw [e1] at h
      cases e2 : mapO (nameSlot c) es with
      | none => rw [e2] at h; cases h
      | some js =>
        rw [e2] at h
        cases h
        rcases List.mem_cons.mp hi with z | z
        · subst z
          cases e with
          | Name x p =>
            obtain ⟨q1, _, _, q2⟩ := slot_ok e1
            exact ⟨x, q1, q2⟩
          | _ => cases e1
        · exact slots_ok e2 i z
theorem tg_slots {tg : Expr} {t : Tg} (h : tgOf c tg = some t) : ∀ i ∈ t.slots, ∃ x, c.N[i]? = some x ∧ c.hv ≠ some x := by
  cases tg with
  | Name x p =>
    obtain ⟨i, e, rfl⟩ := Option.map_eq_some_iff.mp h
    intro j hj
    have : j = i := by simpa [Tg.slots] using hj
    subst this
    obtain ⟨q1, _, _, q2⟩ := slot_ok e
    exact ⟨x, q1, q2⟩
  | Tuple es k p =>
    obtain ⟨is, e, rfl⟩ := Option.map_eq_some_iff.mp h
    exact slots_ok e
  | _ => cases h
/-- what an assignment does -/
abbrev mAsg (t : Tg) (m : Loc → AH → Rs U) : Loc → AH → Rt := fun ρ h => (m ρ h).go ρ fun u h => match bindT t u ρ with
    | some ρ' => .nx ρ' h
    | none => .bad
theorem asg_rd (g : GS P A G d hx Φ c X W) {t : Tg} (hk : ∀ i ∈ t.slots, ∃ x, c.N[i]? = some x ∧ c.hv ≠ some x) {m : Loc → AH → Rs U} {D : Ends} {σ : L2.St} {H : Hp} (q : tS X.K X.mg Φ W (mAsg t m) D σ H) : tAsg (tE X.K X.mg Φ W m) (gT X.K t) D σ H := by
  refine (tS.go (R := RelU X.K) q).imp ?_
  rintro x H1 ⟨w1, h1, ρ, u, rfl, S, L, F, r, o⟩
  cases e : bindT t u ρ with
  | none => simp only [e] at o; exact o.elim
  | some ρ' =>
    simp only [e] at o
    exact bind_ok r e (L.part _) fun σ' L' s' => o.here S L' (g.keep hk s' F)
theorem swaps_no {e : Expr} (h : isComp e = false) (tg : Option Expr) (l : Nat) (env : Env) : swapsWith e tg l env = pure false := by
  cases e <;> first | rfl | cases h
theorem swaps_tup {e : Expr} {ts : List Expr} {k : Nat} {p : Pos} (l : Nat) (env : Env) : swapsWith e (some (.Tuple ts k p)) l env = pure false := by
  cases e <;> rfl
theorem swaps_lc {el : Expr} {gs : List Comprehension} {scope : Scope} {cp tp : Pos} {t : Str} {l : Nat} {env : Env} (hk : env.scope.kind = .function) : swapsWith (.ListComp el gs scope cp) (some (.Name t tp)) l env = pure (swC env.scope scope t tp.line cp.line) := by
  have hb : env.blockKind = .function := by unfold Env.blockKind; rw [hk]; rfl
  unfold swapsWith swC
  simp only [hb]
  rfl
/-- x = e -/
theorem ss_name (ih : IHE P A G d n) (ih1 : IHE P A G d (n + 1)) (g : GS P A G d hx Φ c X W) {x : Str} {e : Expr} {i : Nat} {m : E} (hs : slotOf c x = some i) (he : trE c (n + 1) e = some m) : PS X (.Assign [.Name x p1] e pos) (tS X.K X.mg Φ W (mAsg (.one i) (evE P ⟨call P d, hx⟩ m))) := by
  obtain ⟨hi, hl, ha, hh⟩ := slot_ok hs
  have hk : ∀ j ∈ (Tg.one i).slots, ∃ x, c.N[j]? = some x ∧ c.hv ≠ some x := tg_slots (tg := .Name x p1) (t := .one i) (by show (slotOf c x).map Tg.one = _; rw [hs]; rfl)
  obtain ⟨h1, h2⟩ := g.tgt x hl ha
  rw [← g.N] at hi
  have plain : swapsWith e (some (.Name x p1)) pos.line X.env = pure false → PS X (.Assign [.Name x p1] e pos) (tS X.K X.mg Φ W (mAsg (.one i) (evE P ⟨call P d, hx⟩ m))) := fun sw =>
    ps_imp (ps_set g.nd hi h1 (ih1 g.toGE he).1 sw h2) fun D σ H q => asg_rd g hk q
  cases hc : isComp e with
  | false => exact plain (swaps_no hc _ _ _)
  | true =>
    cases e with
    | ListComp el gs scope cp =>
      cases hb : swC X.env.scope scope x p1.line cp.line with
      | false => exact plain (by rw [swaps_lc g.kind, hb])
      | true =>
        obtain ⟨hv, t, it, ifs, rfl, L⟩ := lc_tr ih g.toGE he
        obtain ⟨own, wi, g', tt, te, q1, q2, q3, q4, q5, q6, q7⟩ := L
        have hloc : X.env.scope.names.lookup x = some .local := by
          unfold swC at hb
          simp only [Bool.and_eq_true] at hb
          exact beq_iff_eq.mp hb.1.1
        refine ps_imp (ps_setLc (g.cold hv).2.1 g.nd hi hloc (by rw [swaps_lc g.kind, hb]) q1 q2 q3 q4 q5 q6) fun D σ H q => ?_
        exact q7 _ _ _ (asg_rd g hk q)
    | SetComp => simp only [trE] at he; cases he
    | DictComp => simp only [trE] at he; cases he
    | _ => cases hc
end
end Pl

namespace Pl
open PySem PySem.Spec PyProof.Rows L2
theorem sw_ok {ts vs : List Expr} {env : Env} {k1 k2 : Nat} {q1 q2 : Pos} {r : Option (List Str)} (hk : env.scope.kind = .function) (h : swOf env.scope ts vs = some r) : swappedStores [.Tuple ts k1 q1] (.Tuple vs k2 q2) env = pure r := by
  have hb : (env.blockKind != ScopeKind.function) = false := by unfold Env.blockKind; rw [hk]; rfl
  unfold swOf at h
  simp only [swappedStores, hb, Bool.or_false]
  split at h
  · rename_i c1
    cases h
    exact if_pos c1
  · rename_i c1
    refine (if_neg c1).trans ?_
    split at h
    · rename_i c2
      cases h
      exact if_pos c2
    · rename_i c2
      refine (if_neg c2).trans ?_
      split at h
      · rename_i c3
        cases h
        exact if_pos c3
      · rename_i c3
        refine (if_neg c3).trans ?_
        split at h
        · rename_i c4
          cases h
          exact if_pos c4
        · rename_i c4
          refine (if_neg c4).trans ?_
          split at h
          · cases h
          · rename_i c5
            cases h
            exact (if_neg c5).trans rfl
section
variable {P : Prog} {A : Nm → Addr} {G : Nm → Bool} {d : Nat} {hx : Hx} {Φ : L2.St → Prop} {c : TC} {X : Cx} {W : WX} {n : Nat} {pos p1 p2 p3 : Pos}
theorem stored2 {i j : Nat} {σ : L2.St} {v w : V} : Stored [i, j] σ ((σ.set i (some v)).set j (some w)) where
  len := by simp
  off := fun k hk => by
    simp only [List.mem_cons, List.not_mem_nil, or_false, not_or] at hk
    rw [List.getElem?_set_ne (Ne.symm hk.2), List.getElem?_set_ne (Ne.symm hk.1)]
theorem stored3 {i j l : Nat} {σ : L2.St} {v w z : V} : Stored [i, j, l] σ (((σ.set i (some v)).set j (some w)).set l (some z)) where
  len := by simp
  off := fun k hk => by
    simp only [List.mem_cons, List.not_mem_nil, or_false, not_or] at hk
    rw [List.getElem?_set_ne (Ne.symm hk.2.2), List.getElem?_set_ne (Ne.symm hk.2.1), List.getElem?_set_ne (Ne.symm hk.1)]
theorem plain_ok {x : Str} {i : Nat} (h : plainLoc c x = some i) : slotOf c x = some i ∧ c.sc.names.lookup x = some .local := by
  unfold plainLoc at h
  split at h
  · rename_i q; exact ⟨h, q⟩
  · cases h
/-- a tuple is stored: its items -/
theorem par_rd {is : List Nat} {m : Loc → AH → Rs (List U)} {D : Ends} {σ : L2.St} {H : Hp} (q : tS X.K X.mg Φ W (mAsg (.tup is) fun ρ h => (m ρ h).bind fun us h => if us.length ≤ sln then .ok (.tup us) h else .bad) D σ H) :
    tA X.K X.mg Φ W m σ H fun vs H1 => ∃ w1 h1 ρ us ρ', w1.H = H1 ∧ Sim X.K X.mg w1 h1 ∧ RelL X.K w1 ρ σ ∧ Φ σ ∧ RelUs X.K w1 us vs ∧ setAll is us ρ = some ρ' ∧ OutS X.K X.mg Φ W w1 D (.nx ρ' h1) := by
  have e : (mAsg (.tup is) fun ρ h => (m ρ h).bind fun us h => if us.length ≤ sln then .ok (.tup us) h else .bad) = fun ρ h => (m ρ h).go ρ fun us h => if us.length ≤ sln then (match setAll is us ρ with
      | some ρ' => .nx ρ' h
      | none => .bad) else .bad := by
    funext ρ h
    show ((m ρ h).bind fun us h => if us.length ≤ sln then Rs.ok (U.tup us) h else .bad).go ρ _ = _
    cases m ρ h with
    | ok us h' =>
      show ((if us.length ≤ sln then Rs.ok (.tup us) h' else .bad) : Rs U).go ρ _ = if us.length ≤ sln then _ else _
      split <;> rfl
    | exc k fs h' => rfl
    | bad => rfl
  rw [e] at q
  refine (tS.go (R := RelUs X.K) q).imp ?_
  rintro vs H1 ⟨w1, h1, ρ, us, rfl, S, L, F, r, o⟩
  split at o
  · cases es : setAll is us ρ with
    | none => simp only [es] at o; exact o.elim
    | some ρ' =>
      simp only [es] at o
      exact ⟨w1, h1, ρ, us, ρ', rfl, S, L, F, r, es, o⟩
  · exact o.elim
theorem ss_par2 (ih : IHE P A G d n) (g : GS P A G d hx Φ c X W) (hv : c.hv = none) {x y : Str} {a b : Expr} {i j : Nat} {ma mb : E} {k1 k2 : Nat} {pt pt2 : Pos} (hi : plainLoc c x = some i) (hj : plainLoc c y = some j) (hij : i ≠ j) (ea : trE c n a = some ma) (eb : trE c n b = some mb)
    (hw : swOf c.sc [.Name x p1, .Name y p2] [a, b] = some (some [x, y])) : PS X (.Assign [.Tuple [.Name x p1, .Name y p2] k1 pt] (.Tuple [a, b] k2 pt2) pos) (tS X.K X.mg Φ W (mAsg (.tup [i, j]) (evE P ⟨call P d, hx⟩ (.tup [ma, mb])))) := by
  obtain ⟨s1, l1⟩ := plain_ok hi
  obtain ⟨s2, l2⟩ := plain_ok hj
  obtain ⟨n1, _, _, h1⟩ := slot_ok s1
  obtain ⟨n2, _, _, h2⟩ := slot_ok s2
  have em : mapO (trE c n) [a, b] = some [ma, mb] := by simp only [mapO, ea, eb]
  rw [← g.sc] at l1 l2 hw
  refine ps_imp (ps_par (g.cold hv).2.1 g.nd (by rw [g.N]; exact n1) (by rw [g.N]; exact n2) hij l1 l2 (snd_es ih g.toGE em) (sw_ok g.kind hw)) fun D σ H q => ?_
  rw [show evE P ⟨call P d, hx⟩ (.tup [ma, mb]) = _ from by funext ρ h; rw [evE]] at q
  refine (par_rd q).imp ?_
  rintro vs H1 ⟨w1, h1', ρ, us, ρ', rfl, S, L, F, r, es, o⟩
  cases us with
  | nil => cases es
  | cons u us =>
    cases us with
    | nil => cases es
    | cons u2 us =>
      cases us with
      | cons _ _ => cases es
      | nil =>
        obtain ⟨v, v2, rfl, r1, r2⟩ := r.two
        cases es
        refine ⟨v, v2, rfl, o.here S ((L.set i r1).set j r2) (g.keep (is := [i, j]) (fun k hk => ?_) stored2 F)⟩
        simp only [List.mem_cons, List.not_mem_nil, or_false] at hk
        rcases hk with rfl | rfl
        · exact ⟨x, n1, h1⟩
        · exact ⟨y, n2, h2⟩
theorem ss_par3 (ih : IHE P A G d n) (g : GS P A G d hx Φ c X W) (hv : c.hv = none) {x y z : Str} {a b e : Expr} {i j l : Nat} {ms : List E} {k1 k2 : Nat} {pt pt2 : Pos} (hi : plainLoc c x = some i) (hj : plainLoc c y = some j) (hl : plainLoc c z = some l) (hij : i ≠ j) (hil : i ≠ l) (hjl : j ≠ l)
    (em : mapO (trE c n) [a, b, e] = some ms)
    (hw : swOf c.sc [.Name x p1, .Name y p2, .Name z p3] [a, b, e] = some (some [x, y, z])) : PS X (.Assign [.Tuple [.Name x p1, .Name y p2, .Name z p3] k1 pt] (.Tuple [a, b, e] k2 pt2) pos) (tS X.K X.mg Φ W (mAsg (.tup [i, j, l]) (evE P ⟨call P d, hx⟩ (.tup ms)))) := by
  obtain ⟨s1, l1⟩ := plain_ok hi
  obtain ⟨s2, l2⟩ := plain_ok hj
  obtain ⟨s3, l3⟩ := plain_ok hl
  obtain ⟨n1, _, _, h1⟩ := slot_ok s1
  obtain ⟨n2, _, _, h2⟩ := slot_ok s2
  obtain ⟨n3, _, _, h3⟩ := slot_ok s3
  rw [← g.sc] at l1 l2 l3 hw
  refine ps_imp (ps_par3 (g.cold hv).2.1 g.nd (by rw [g.N]; exact n1) (by rw [g.N]; exact n2) (by rw [g.N]; exact n3) hij hil hjl l1 l2 l3 (snd_es ih g.toGE em) (sw_ok g.kind hw)) fun D σ H q => ?_
  rw [show evE P ⟨call P d, hx⟩ (.tup ms) = _ from by funext ρ h; rw [evE]] at q
  refine (par_rd q).imp ?_
  rintro vs H1 ⟨w1, h1', ρ, us, ρ', rfl, S, L, F, r, es, o⟩
  cases us with
  | nil => cases es
  | cons u us =>
    cases us with
    | nil => cases es
    | cons u2 us =>
      cases us with
      | nil => cases es
      | cons u3 us =>
        cases us with
        | cons _ _ => cases es
        | nil =>
          obtain ⟨v, vs', rfl, r1, rr⟩ := r
          obtain ⟨v2, v3, rfl, r2, r3⟩ := RelUs.two rr
          cases es
          refine ⟨v, v2, v3, rfl, o.here S (((L.set i r1).set j r2).set l r3) (g.keep (is := [i, j, l]) (fun k hk => ?_) stored3 F)⟩
          simp only [List.mem_cons, List.not_mem_nil, or_false] at hk
          rcases hk with rfl | rfl | rfl
          · exact ⟨x, n1, h1⟩
          · exact ⟨y, n2, h2⟩
          · exact ⟨z, n3, h3⟩
/-- o.f = e -/
theorem ss_fld (ih : IHE P A G d n) (g : GS P A G d hx Φ c X W) {o e : Expr} {f : Nm} {mo me : E} (eo : trE c n o = some mo) (ee : trE c n e = some me) : PS X (.Assign [.Attribute o (nstr f) p1] e pos) (tS X.K X.mg Φ W (evS P ⟨call P d, hx⟩ (.fld mo f me))) := by
  refine ps_imp (ps_fld (ih g.toGE eo).1 (ih g.toGE ee).1 (by cases e <;> rfl)) fun D σ H q => ?_
  rw [show evS P ⟨call P d, hx⟩ (.fld mo f me) = _ from by funext ρ h; rw [evS]] at q
  refine (tS.go (R := RelU X.K) q).imp ?_
  rintro y H1 ⟨w1, h1, ρ, u, rfl, S, L, F, r, o1⟩
  refine ⟨w1, h1, ρ, rfl, S, L, F, (OutS.go (R := RelU X.K) L F o1).imp ?_⟩
  rintro x H2 ⟨w2, h2, v, rfl, S2, E2, r2, o2⟩
  cases v with
  | ref m =>
    obtain ⟨hlt, rfl⟩ := r2
    cases e1 : getI h2 m with
    | none => simp only [e1] at o2; exact o2.elim
    | some cf =>
      obtain ⟨k, fs⟩ := cf
      simp only [e1] at o2
      split at o2
      · rename_i hc
        obtain ⟨C, dx, gs, h3, h4, h5⟩ := S2.obj m _ (getI_at e1)
        obtain ⟨C', e2, cl, na⟩ := g.fc.flds k f hc.2
        rw [h4] at e2; cases e2
        refine ⟨_, C, dx, gs, rfl, h3, cl, na, by rw [← relF_len h5]; exact hc.1, ?_⟩
        obtain ⟨S3, E3⟩ := S2.write (o' := .ins k (setF f u fs)) (ho := .ins C dx (putF (nstr f) y gs)) (getI_at e1) rfl rfl fun w' E q => ⟨C, dx, _, q, h4, relF_set ((r.mono E2).mono E) (h5.mono E)⟩
        exact o2 _ σ S3 E3 ((L.mono E2).mono E3) F
      · exact o2.elim
  | _ => exact o2.elim
/-- o[i] = e -/
theorem ss_sub (ih : IHE P A G d n) (g : GS P A G d hx Φ c X W) {o i e : Expr} {mo mi me : E} (hs : notSlice i = true) (eo : trE c n o = some mo) (ei : trE c n i = some mi) (ee : trE c n e = some me) : PS X (.Assign [.Subscript o i p1] e pos) (tS X.K X.mg Φ W (evS P ⟨call P d, hx⟩ (.sub mo mi me))) := by
  refine ps_imp (ps_asg (ih g.toGE ee).1 (pg_sub (ih g.toGE eo).1 (ih g.toGE ei).1 set_list (fun v => by cases i <;> first | rfl | cases hs)) (by cases e <;> rfl) (by cases e <;> rfl)) fun D σ H q => ?_
  rw [show evS P ⟨call P d, hx⟩ (.sub mo mi me) = _ from by funext ρ h; rw [evS]] at q
  refine (tS.go (R := RelU X.K) q).imp ?_
  rintro y H1 ⟨w1, h1, ρ, u, rfl, S, L, F, r, o1⟩
  refine ⟨w1, h1, ρ, rfl, S, L, F, (OutS.go (R := RelU X.K) L F o1).imp ?_⟩
  rintro x H2 ⟨w2, h2, v, rfl, S2, E2, r2, o2⟩
  refine ⟨w2, h2, ρ, rfl, S2, L.mono E2, F, (OutS.go (R := RelU X.K) (L.mono E2) F o2).imp ?_⟩
  rintro z H3 ⟨w3, h3, kk, rfl, S3, E3, r3, o3⟩
  cases v with
  | ref m =>
    cases kk with
    | int jj =>
      cases r3
      obtain ⟨hlt, rfl⟩ := r2
      cases e1 : getM h3 m with
      | none => simp only [e1] at o3; exact o3.elim
      | some xs =>
        simp only [e1] at o3
        cases e2 : L2.ixN xs.length jj with
        | none => simp only [e2] at o3; exact o3.elim
        | some q =>
          simp only [e2] at o3
          obtain ⟨_, ys, hy, ry⟩ := getM_rel S3 e1
          have hμ : w3.μ m = w2.μ m := E3.mu m hlt
          rw [hμ] at hy
          rw [ry.length] at e2
          refine ⟨_, ys, jj, q, rfl, rfl, hy, e2, ?_⟩
          obtain ⟨S4, E4⟩ := S3.write (o' := .lst (xs.set q u)) (ho := .lst (ys.set q y)) (getM_at e1) rfl rfl fun w' E z => ⟨_, z, (ry.mono E).set q (((r.mono E2).mono E3).mono E)⟩
          rw [hμ] at S4 E4
          exact o3 _ σ S4 E4 (((L.mono E2).mono E3).mono E4) F
    | _ => exact o3.elim
  | _ => cases kk <;> exact o3.elim
end
end Pl

namespace Pl
open PySem PySem.Spec PyProof.Rows L2
section
variable {P : Prog} {A : Nm → Addr} {G : Nm → Bool} {d : Nat} {hx : Hx} {Φ : L2.St → Prop} {c : TC} {X : Cx} {W : WX} {n : Nat} {pos p1 p2 p3 : Pos}
/-! ### loops -/
theorem ss_while (g : GS P A G d hx Φ c X W) (hv : c.hv = none) {t : Expr} {b : List Stmt} {mt : Loc → AH → Rs U} {mb : Loc → AH → Rt} (ht : PT X t (tT X.K X.mg Φ W mt)) (hb : PSs X b (tS X.K X.mg Φ W mb)) :
    PS X (.While t b [] pos) (tS X.K X.mg Φ W fun ρ h => (loopF (whlF mt mb) (ρ, h)).getD .bad) := by
  refine ps_imp (ps_while (g.own hv) ht hb) fun D σ H q => ?_
  obtain ⟨w, h, ρ, rfl, S, L, F, o⟩ := q
  dsimp only at o
  cases e : loopF (whlF mt mb) (ρ, h) with
  | none => rw [e] at o; exact o.elim
  | some r0 =>
    rw [e] at o
    obtain ⟨n0, it⟩ := loopF_some e
    refine ⟨fun m σ H => ∃ (w : Wd) (h : AH) (ρ : Loc) (r : Rt), w.H = H ∧ Sim X.K X.mg w h ∧ RelL X.K w ρ σ ∧ Φ σ ∧ iterN (whlF mt mb) m (ρ, h) = some r ∧ OutS X.K X.mg Φ W w D r, ⟨n0, w, h, ρ, r0, rfl, S, L, F, it, o⟩, ?_⟩
    rintro m σ H ⟨w, h, ρ, r, rfl, S, L, F, it, o⟩
    refine ⟨w, h, ρ, rfl, S, L, F, ?_⟩
    cases m with
    | zero => cases it
    | succ m =>
      unfold iterN at it
      cases ec : mt ρ h with
      | bad =>
        have ef : whlF mt mb (ρ, h) = .inr .bad := by unfold whlF; simp only [ec]
        rw [ef] at it
        cases it
        exact o
      | exc k fs h1 =>
        have ef : whlF mt mb (ρ, h) = .inr (.xc k fs ρ h1) := by unfold whlF; simp only [ec]
        rw [ef] at it
        cases it
        exact fun w2 cls dd S2 E2 x => o w2 σ cls dd S2 E2 (L.mono E2) F x
      | ok u h1 =>
        by_cases hub : ∃ bb, u = .bl bb
        · obtain ⟨bb, rfl⟩ := hub
          refine ⟨bb, rfl, fun w2 S2 E2 => ?_⟩
          cases bb with
          | false =>
            have ef : whlF mt mb (ρ, h) = .inr (.nx ρ h1) := by unfold whlF; simp only [ec]
            rw [ef] at it
            cases it
            exact o w2 σ S2 E2 (L.mono E2) F
          | true =>
            rw [if_pos rfl]
            refine ⟨fun σ H => ∃ (w : Wd) (h : AH) (ρ : Loc) (r : Rt), w.H = H ∧ Sim X.K X.mg w h ∧ RelL X.K w ρ σ ∧ Φ σ ∧ iterN (whlF mt mb) m (ρ, h) = some r ∧ OutS X.K X.mg Φ W w D r, fun σ' H' z => ⟨m, Nat.lt_succ_self m, z⟩, ?_⟩
            refine ⟨w2, h1, ρ, rfl, S2, L.mono E2, F, ?_⟩
            cases eb : mb ρ h1 with
            | bad =>
              have ef : whlF mt mb (ρ, h) = .inr .bad := by unfold whlF; simp only [ec, eb]
              rw [ef] at it
              cases it
              exact o
            | nx ρ' h' =>
              have ef : whlF mt mb (ρ, h) = .inl (ρ', h') := by unfold whlF; simp only [ec, eb]
              rw [ef] at it
              exact fun w3 σ3 S3 E3 L3 F3 => ⟨w3, h', ρ', r, rfl, S3, L3, F3, it, OutS.mono (E2.trans E3) o⟩
            | ct ρ' h' =>
              have ef : whlF mt mb (ρ, h) = .inl (ρ', h') := by unfold whlF; simp only [ec, eb]
              rw [ef] at it
              exact fun w3 σ3 S3 E3 L3 F3 => ⟨w3, h', ρ', r, rfl, S3, L3, F3, it, OutS.mono (E2.trans E3) o⟩
            | bk ρ' h' =>
              have ef : whlF mt mb (ρ, h) = .inr (.nx ρ' h') := by unfold whlF; simp only [ec, eb]
              rw [ef] at it
              cases it
              exact fun w3 σ3 S3 E3 L3 F3 => o w3 σ3 S3 (E2.trans E3) L3 F3
            | rt u' h' =>
              have ef : whlF mt mb (ρ, h) = .inr (.rt u' h') := by unfold whlF; simp only [ec, eb]
              rw [ef] at it
              cases it
              exact fun w3 v S3 E3 r3 => o w3 v S3 (E2.trans E3) r3
            | xc k fs ρ' h' =>
              have ef : whlF mt mb (ρ, h) = .inr (.xc k fs ρ' h') := by unfold whlF; simp only [ec, eb]
              rw [ef] at it
              cases it
              exact fun w3 σ3 cls dd S3 E3 L3 F3 x => o w3 σ3 cls dd S3 (E2.trans E3) L3 F3 x
        · have ef : whlF mt mb (ρ, h) = .inr .bad := by
            unfold whlF
            simp only [ec]
            cases u with
            | bl b => exact absurd ⟨b, rfl⟩ hub
            | _ => rfl
          rw [ef] at it
          cases it
          exact o.elim
theorem ss_for (g : GS P A G d hx Φ c X W) (hv : c.hv = none) {tg it : Expr} {b : List Stmt} {t : Tg} {mi : Loc → AH → Rs (List U × List (Nat × List U))} {mb : Loc → AH → Rt} (ht : tgOf c tg = some t) (hi : PI X tg it (tG X.K X.mg (RI X.K X.mg) Φ W mi)) (hs : ∀ x, foldedSetIterable it X.env x = pure x)
    (hb : PSs X b (tS X.K X.mg Φ W mb)) : PS X (.For tg it b [] pos) (tS X.K X.mg Φ W fun ρ h => (mi ρ h).go ρ fun p h => forL (fun x ρ h => match bindT t x ρ with
      | some ρ' => mb ρ' h
      | none => .bad) p.2 p.1 ρ h) := by
  refine ps_imp (ps_for (g.own hv) (g.cold hv).2.1 hi (pg_tg (g.cold hv).2.1 g.N g.nd g.tgt ht) hb hs) fun D σ H q => ?_
  refine (tS.go (R := RI X.K X.mg) q).imp ?_
  rintro J H1 ⟨w1, h1, ρ, p, rfl, S1, L1, F1, wk, o⟩
  generalize hf : (fun x ρ h => match bindT t x ρ with
      | some ρ' => mb ρ' h
      | none => .bad : U → Loc → AH → Rt) = f at o
  refine ⟨fun i m σ H => ∃ (w : Wd) (h : AH) (ρ : Loc), w.H = H ∧ Sim X.K X.mg w h ∧ RelL X.K w ρ σ ∧ Φ σ ∧ Ext w1 w ∧ m = p.1.length - i ∧ i ≤ p.1.length ∧ OutS X.K X.mg Φ W w D (forL f p.2 (p.1.drop i) ρ h),
    ⟨_, w1, h1, ρ, rfl, S1, L1, F1, Ext.rfl', rfl, Nat.zero_le _, o⟩, ?_⟩
  rintro i m σ H ⟨w, h, ρ, rfl, S, L, F, E, rfl, hi, o⟩
  cases ed : p.1.drop i with
  | nil =>
    rw [ed] at o
    have hn : i = p.1.length := by
      have := congrArg List.length ed
      simp at this
      omega
    unfold forL at o
    split at o
    · rename_i st
      exact .inl ⟨by rw [hn]; exact wk.stop w h E S st, o.here S L F⟩
    · exact o.elim
  | cons x xs =>
    rw [ed] at o
    have hi' : i < p.1.length := by
      by_cases z : i < p.1.length
      · exact z
      · rw [List.drop_eq_nil_of_le (by omega)] at ed; cases ed
    have ex : p.1[i]? = some x := by
      have := congrArg (fun l => l[0]?) ed
      simpa using this
    have er : p.1.drop (i + 1) = xs := by
      have := congrArg (List.drop 1) ed
      simpa [Nat.add_comm] using this
    unfold forL at o
    split at o
    · rename_i st
      obtain ⟨g1, g2⟩ := wk.go i w h x E S st ex
      refine .inr ⟨g1, fun σ H => ∃ (w : Wd) (h : AH) (ρ : Loc), w.H = H ∧ Sim X.K X.mg w h ∧ RelL X.K w ρ σ ∧ Φ σ ∧ Ext w1 w ∧ OutS X.K X.mg Φ W w D (forL f p.2 (p.1.drop (i + 1)) ρ h), ?_, ?_⟩
      · rintro σ' H' ⟨w', h', ρ', e1, S', L', F', E', o'⟩
        exact ⟨p.1.length - (i + 1), by omega, w', h', ρ', e1, S', L', F', E', rfl, hi', o'⟩
      · intro v H' y
        obtain ⟨w2, rfl, S2, E2, r2⟩ := g2 v H' y
        rw [er]
        subst hf
        dsimp only at o
        cases eb : bindT t x ρ with
        | none => simp only [eb] at o; exact o.elim
        | some ρ' =>
          simp only [eb] at o
          refine bind_ok r2 eb ((L.mono E2).part _) fun σ2 L2 s2 => ⟨w2, h, ρ', rfl, S2, L2, g.keep (tg_slots ht) s2 F, ?_⟩
          cases em : mb ρ' h with
          | bad => rw [em] at o; exact o
          | nx ρ2 h2 => rw [em] at o; exact fun w3 σ3 S3 E3 L3 F3 => ⟨w3, h2, ρ2, rfl, S3, L3, F3, (E.trans E2).trans E3, OutS.mono (E2.trans E3) o⟩
          | ct ρ2 h2 => rw [em] at o; exact fun w3 σ3 S3 E3 L3 F3 => ⟨w3, h2, ρ2, rfl, S3, L3, F3, (E.trans E2).trans E3, OutS.mono (E2.trans E3) o⟩
          | bk ρ2 h2 => rw [em] at o; exact fun w3 σ3 S3 E3 L3 F3 => o w3 σ3 S3 (E2.trans E3) L3 F3
          | rt u2 h2 => rw [em] at o; exact fun w3 v S3 E3 r3 => o w3 v S3 (E2.trans E3) r3
          | xc k fs ρ2 h2 => rw [em] at o; exact fun w3 σ3 cls dd S3 E3 L3 F3 xx => o w3 σ3 cls dd S3 (E2.trans E3) L3 F3 xx
    · exact o.elim
/-! ### raise -/
theorem ss_raise (g : GS P A G d hx Φ c X W) (hv : c.hv = none) {k : Nm} {m : Str} {j : Nat} (hg : Gl X (nstr k)) (hp : plainN (nstr k) = true) : PS X (.Raise (some (.Call (.Name (nstr k) p1) [.Constant (.str m) j p2] [] p3)) none pos) (tS X.K X.mg Φ W fun ρ h => if P.exn k = true then .xc k [] ρ h else .bad) := by
  by_cases he : P.exn k = true
  · obtain ⟨C, hC, ef⟩ := g.fc.exc k he
    obtain ⟨bmB, B, newId, initId, F, q⟩ := ef.exi
    refine ps_imp (ps_raise (g.cold hv).2.1 g.tk (pmk_own F q hC ef.keep (raises_own ef.sub ef.ty) hg (plain_dbg hp))) fun D σ H z => ?_
    obtain ⟨w, h, ρ, rfl, S, L, Fi, o⟩ := z
    simp only [if_pos he] at o
    exact o w σ (.ref C) none S Ext.rfl' L Fi ⟨C, rfl, hC, rfl, rfl⟩
  · refine ⟨fun pins s σ H D I z => ?_⟩
    obtain ⟨w, h, ρ, rfl, S, L, Fi, o⟩ := z
    simp only [if_neg he] at o
    exact o.elim
end
end Pl

namespace Pl
open PySem PySem.Spec PyProof.Rows L2
/-! ### an except suite -/
/-- isinstance(e, (c, ..)), e the exception that the suite holds -/
def rIsET (K : PySem.W.Frag) (D a : Addr) : List V → Hp → VK → Prop := fun xs H Q => ∃ (tp : Addr) (cs : List V) (ws : List Value) (b : Bool), xs = [.ref a, .ref tp] ∧ H tp = some (.tup cs) ∧ Paired ClsV cs ws ∧ PySem.W.kitAny K (.ref D) ws = some b ∧ Q (.bl b) H
theorem call_isET {X : Cx} {a D : Addr} {oe : Obj} {pn : List (Addr × Obj)} (C : ExcC X.K D) (hz : Zc (.ref D) none oe) (hf : ∃ vs, oe.data = .fields vs) : CallR (X.suite a ((a, oe) :: pn)) (.builtin "isinstance") (rIsET X.K D a) := by
  intro pins s σ H xs us Q I r h
  obtain ⟨tp, cs, ws, b, rfl, hT, k, e, q⟩ := h
  cases r with
  | cons rx rr =>
    cases rr with
    | cons rt rr =>
      cases rr
      cases rx
      cases (show _ = Value.ref tp from rt)
      obtain ⟨hget, _⟩ := I.pin (a, oe) (List.mem_append.mpr (.inl List.mem_cons_self))
      obtain ⟨vs, hv⟩ := hf
      have J : PySem.W.InstAt s.heap a oe D none := by
        obtain ⟨oc, od, oda, osl⟩ := oe
        obtain ⟨h1, h2⟩ := hz
        dsimp only at h1 h2 hv
        subst h1 h2 hv
        exact ⟨hget, rfl, rfl, trivial⟩
      obtain ⟨_, its, rv, o, h1, h2, n, h3⟩ := (show ObjOk X.prog X.w H s.heap tp (.tup cs) from I.hok tp _ hT)
      have e3 := ClsV.all k rv
      subst e3
      obtain ⟨oc, od, dt, sl⟩ := o
      simp only at h2 h3
      subst h2 h3
      exact PySem.W.kia_tup (PySem.W.handS_kitx_exc C.hg C.hk C.hs C.hd C.ha C.hn C.ht C.hm) I.kIn J h1 e (fun z => nomatch z) fun tk => ⟨.bl b, H, I.kept (t' := tk) fun _ _ z => z, rfl, q⟩
section
variable {P : Prog} {A : Nm → Addr} {G : Nm → Bool} {d : Nat} {hx : Hx} {Φ : L2.St → Prop} {c : TC} {X : Cx} {W : WX} {n : Nat} {pos p1 p2 p3 : Pos}
/-- the slot of the caught one -/
def ΦH (c : TC) (y : Str) (a : Addr) (σ : L2.St) : Prop := ∀ i, idxN c.N y = some i → i < σ.length → σ[i]? = some (some (.ref a))
theorem exc_name {t : Expr} {k : Nm} (h : excOf c t = some k) : ∃ x p, t = .Name x p ∧ gloB c.sc x = true ∧ plainN x = true ∧ c.gk x = some (.exc k) := by
  unfold excOf at h
  split at h
  · rename_i x p
    split at h
    · rename_i hc
      simp only [Bool.and_eq_true] at hc
      split at h
      · rename_i k' ek
        cases h
        exact ⟨x, p, rfl, hc.1.2, hc.2, ek⟩
      · cases h
    · cases h
  · cases h
/-- an exception class's name as a value -/
theorem exc_val {X : Cx} {t : Expr} {k : Nm} {D : Addr} (gk : GK c G X.K X.mg) (hsc : X.env.scope = c.sc) (h : excOf c t = some k) (hD : X.mg (nstr k) = some (.ref D)) : PE X t (tC (.ref D)) ∧ ∀ env, starEach [t] env = [(false, eval t env)] := by
  obtain ⟨x, p, rfl, h1, h2, h3⟩ := exc_name h
  have e := gk.exc x k h3
  subst e
  refine ⟨pe_glob ?_ hD rfl (plain_dbg h2), fun _ => rfl⟩
  show X.env.scope.names.lookup _ = _
  rw [hsc]; exact gloB_ok h1
/-- the names of several -/
theorem exc_vals {X : Cx} (gk : GK c G X.K X.mg) (hsc : X.env.scope = c.sc) (fx : ∀ k, P.exn k = true → ∃ D, X.mg (nstr k) = some (.ref D)) : ∀ {ts : List Expr} {ks : List Nm}, mapO (excOf c) ts = some ks → ks.all P.exn = true →
    ∃ Ds : List Addr, PA X ts (fun _ H Q => Q (Ds.map V.ref) H) ∧ Ds.length = ks.length ∧ ∀ (i : Nat) (k : Nm) (D : Addr), ks[i]? = some k → Ds[i]? = some D → X.mg (nstr k) = some (.ref D)
  | [], ks, h, _ => by
    cases h
    exact ⟨[], pa_imp pa_nil fun _ _ _ q => q, rfl, fun i k D h => by simp at h⟩
  | t :: ts, ks, h, ha => by
    unfold mapO at h
    cases e1 : excOf c t with
    | none => rw [e1] at h; cases h
    | some k =>
      rw [e1] at h
      cases e2 : mapO (excOf c) ts with
      | none => rw [e2] at h; cases h
      | some ks' =>
        rw [e2] at h
        cases h
        simp only [List.all_cons, Bool.and_eq_true] at ha
        obtain ⟨D, hD⟩ := fx k ha.1
        obtain ⟨Ds, q1, q2, q3⟩ := exc_vals gk hsc fx e2 ha.2
        refine ⟨D :: Ds, pa_imp (pa_cons (exc_val gk hsc e1 hD).1 q1 ?_) fun _ _ _ q => q, by simp [q2], fun i k' D' h1 h2 => ?_⟩
        · obtain ⟨x, p, rfl, _⟩ := exc_name e1
          rfl
        · cases i with
          | zero => cases h1; cases h2; exact hD
          | succ i => exact q3 i k' D' (by simpa using h1) (by simpa using h2)
theorem kit_all {K : PySem.W.Frag} {C : Addr} {sub : Nm → Bool} : ∀ {ks : List Nm} {Ds : List Addr}, Ds.length = ks.length → (∀ (i : Nat) (k : Nm) (D : Addr), ks[i]? = some k → Ds[i]? = some D → PySem.W.kitOne K (.ref C) (.ref D) = some (sub k)) → PySem.W.kitAny K (.ref C) (Ds.map Value.ref) = some (ks.any sub)
  | [], Ds, hl, _ => by
    cases Ds with
    | nil => rfl
    | cons _ _ => cases hl
  | k :: ks, Ds, hl, h => by
    cases Ds with
    | nil => cases hl
    | cons D Ds =>
      have h0 := h 0 k D rfl rfl
      have hr := kit_all (ks := ks) (Ds := Ds) (by simpa using hl) fun i k' D' h1 h2 => h (i + 1) k' D' (by simpa using h1) (by simpa using h2)
      show PySem.W.kitAny K (.ref C) (Value.ref D :: Ds.map Value.ref) = some (sub k || ks.any sub)
      refine kitAny_cons h0 (fun e => by rw [e, Bool.false_or]; exact hr) fun e => by rw [e]; rfl
theorem paired_ref : ∀ Ds : List Addr, Paired ClsV (Ds.map V.ref) (Ds.map Value.ref)
  | [] => .nil
  | D :: Ds => .cons (.own D) (paired_ref Ds)
/-- the suite's context -/
theorem GS.suite (g : GS P A G d hx Φ c X W) {y : Str} (hy : ∀ i, idxN c.N y = some i → locB c.sc y = true ∧ plainN y = true) {a : Addr} {oe : Obj} {pn : List (Addr × Obj)} {C : Addr} {k : Nm} (hk : P.exn k = true) (hC : X.mg (nstr k) = some (.ref C)) (hz : Zc (.ref C) none oe) (hf : ∃ vs, oe.data = .fields vs) :
    GS P A G d (some (k, [])) (ΦH c y a) { c with hv := some y } (X.suite a ((a, oe) :: pn)) W0 where
  fn := ⟨g.fn.ok⟩
  fc := g.fc
  gk := ⟨g.gk.fn, g.gk.cls, g.gk.con, g.gk.exc, g.gk.nm⟩
  N := g.N
  nd := g.nd
  sc := g.sc
  loc := g.loc
  tk := fun u s' x => by
    obtain ⟨a, B, sI, pins, σ, H, cls, d, e, I, nb, up, sky, na, os, ag, w⟩ := x
    exact w.elim
  units := g.units
  cold := fun h => (nomatch h)
  hot := fun y' h hi => by
    have h : some y = some y' := h
    cases h
    obtain ⟨i, ei⟩ := Option.isSome_iff_exists.mp hi
    obtain ⟨hl, hp⟩ := hy i ei
    obtain ⟨C', hC', ef⟩ := g.fc.exc k hk
    rw [hC] at hC'; cases hC'
    have hv : ∀ {pp : Pos}, PE (X.suite a ((a, oe) :: pn)) (.Name y pp) (tE X.K X.mg (ΦH c y a) W0 fun _ h => .bad) ∧ PE (X.suite a ((a, oe) :: pn)) (.Name y pp) (fun σ H Q => (i < σ.length → σ[i]? = some (some (.ref a))) ∧ Q (.ref a) H) := fun {pp} => by
      have hp' := hp
      unfold plainN at hp'
      simp only [Bool.and_eq_true, Bool.not_eq_true'] at hp'
      have hix : X.N[i]? = some y := by rw [g.N]; exact idxN_ok ei
      have p := pe_var (X := X.suite a ((a, oe) :: pn)) (pos := pp) (i := i) hix (by show Vis X.env.scope y; rw [g.sc]; exact (locB_ok hl).elim .inl fun z => .inr (.inl z)) hp'.1.1 hp'.1.2
      refine ⟨pe_bad (tE_bad fun _ _ => rfl), ⟨fun pins s σ H Q I q => p.run pins s σ H Q I ⟨_, q.1 ?_, q.2⟩⟩⟩
      have hl := I.len
      have hl : σ.length = X.N.length := hl
      rw [hl]
      exact (List.getElem?_eq_some_iff.mp hix).1
    refine ⟨k, [], rfl, ?_, ?_, ?_⟩
    · intro p pp pos t kk hg et
      by_cases ha : ([kk].all P.exn) = true
      · have hkk : P.exn kk = true := by simpa using ha
        obtain ⟨D, hD, efD⟩ := g.fc.exc kk hkk
        obtain ⟨q1, q2⟩ := exc_val (X := X.suite a ((a, oe) :: pn)) (c := { c with hv := some y }) ⟨g.gk.fn, g.gk.cls, g.gk.con, g.gk.exc, g.gk.nm⟩ g.sc et hD
        refine pe_imp (pe_callB (call_isE ef.isc hz hf) hg g.fc.isi (by first | rfl | kernel_rfl) (pa_cons hv.2 (pa_cons q1 pa_nil (q2 _)) rfl) (by decide) (by decide) rfl (by rw [q2]; rfl)) fun σ H Q q => ?_
        obtain ⟨w, h, ρ, rfl, S, L, F, o⟩ := q
        simp only [if_pos ha] at o
        refine ⟨F i ei, .ref D, .ref D, _, rfl, fun u r => r, g.fc.kitX k kk C D hk hkk hC hD, ?_⟩
        have := o.here (v := .bl (P.sub k kk)) S (by show V.bl _ = .bl (P.sub k kk || false); rw [Bool.or_false])
        exact this
      · exact pe_bad (tE_bad fun ρ h => if_neg ha)
    · intro p pp ts kk pt pos ks hg hlen et
      by_cases ha : (ks.all P.exn) = true
      · obtain ⟨Ds, q1, q2, q3⟩ := exc_vals (X := X.suite a ((a, oe) :: pn)) (c := { c with hv := some y }) ⟨g.gk.fn, g.gk.cls, g.gk.con, g.gk.exc, g.gk.nm⟩ g.sc (fun k h => let ⟨D, hD, _⟩ := g.fc.exc k h; ⟨D, hD⟩) et ha
        refine pe_imp (pe_callB (call_isET ef.isc hz hf) hg g.fc.isi (by first | rfl | kernel_rfl) (pa_cons hv.2 (pa_cons (pe_tup q1) pa_nil rfl) rfl) (by decide) (by decide) rfl rfl) fun σ H Q q => ?_
        obtain ⟨w, h, ρ, rfl, S, L, F, o⟩ := q
        simp only [if_pos ha] at o
        have hs : sln = 16777216 := sizeLine_eq
        have hl2 := mapO_length et
        refine ⟨F i ei, by rw [List.length_map, q2]; show _ ≤ sln; omega, fun pp hpp => ?_⟩
        obtain ⟨w2, hw2, S2, E2⟩ := sim_up (ho := .tup (Ds.map V.ref)) S hpp
        refine ⟨pp, Ds.map V.ref, Ds.map Value.ref, ks.any (P.sub k), rfl, upd_same, paired_ref Ds, kit_all q2 fun j k' D' h1 h2 => g.fc.kitX k k' C D' hk (List.all_eq_true.mp ha k' (List.mem_of_getElem? h1)) hC (q3 j k' D' h1 h2), ?_⟩
        have o2 := (OutG.mono E2 o).here (v := .bl (ks.any (P.sub k))) S2 rfl
        rw [hw2] at o2
        exact o2
      · exact pe_bad (tE_bad fun ρ h => if_neg ha)
    · intro p pos f
      exact pe_bad (tE_bad fun ρ h => rfl)
  kind := g.kind
  own := fun h => (nomatch h)
  stk := g.stk
  fr := g.fr
  all := fun h => (nomatch h)
  keep := fun {is σ σ'} hk s F i ei hlt => by
    rw [s.off i fun hi => ?_]
    · exact F i ei (by rw [← s.len]; exact hlt)
    · obtain ⟨x, e1, e2⟩ := hk i hi
      have e3 := idxN_ok ei
      rw [e1] at e3
      cases e3
      exact e2 rfl
end
end Pl

namespace Pl
open PySem PySem.Spec PyProof.Rows L2
section
variable {P : Prog} {A : Nm → Addr} {G : Nm → Bool} {d : Nat} {hx : Hx} {Φ : L2.St → Prop} {c : TC} {X : Cx} {W : WX} {n : Nat} {pos p1 p2 p3 : Pos}
theorem RelL.setN {K : PySem.W.Frag} {w : Wd} {ρ : Loc} {σ : L2.St} (r : RelL K w ρ σ) (i : Nat) (x : Option V) : RelL K w (ρ.set i none) (σ.set i x) := by
  refine ⟨by simp [r.1], fun j u e => ?_⟩
  by_cases hj : i = j
  · subst hj
    by_cases hl : i < ρ.length
    · rw [List.getElem?_set_self hl] at e; cases e
    · rw [List.getElem?_eq_none (by simp; omega)] at e; cases e
  · rw [List.getElem?_set_ne hj] at e
    obtain ⟨v, h1, h2⟩ := r.2 j u e
    exact ⟨v, by rw [List.getElem?_set_ne hj]; exact h1, h2⟩
/-! ### try -/
/-- the context of a try's body -/
theorem GS.tr (g : GS P A G d hx Φ c X W) {W' : WX} {pn : List (Addr × Obj)} {xe : Value → Shared → Prop} (tk : Takes (X.tr pn xe) W') (hp : PassesOwn (model X.prog X.w) X.A X.env xe) (hv : c.hv = none) : GS P A G d hx Φ c (X.tr pn xe) W' where
  fn := ⟨g.fn.ok⟩
  fc := g.fc
  gk := g.gk
  N := g.N
  nd := g.nd
  sc := g.sc
  loc := g.loc
  tk := tk
  units := g.units
  cold := g.cold
  hot := fun y h => by rw [hv] at h; cases h
  kind := g.kind
  own := fun _ => hp
  stk := g.stk
  fr := g.fr
  all := g.all
  keep := g.keep
def IHS (P : Prog) (A : Nm → Addr) (G : Nm → Bool) (d n : Nat) : Prop := ∀ {hx : Hx} {Φ : L2.St → Prop} {c : TC} {X : Cx} {W : WX} {st : Stmt} {s : S}, GS P A G d hx Φ c X W → trS c n st = some s → PS X st (tS X.K X.mg Φ W (evS P ⟨call P d, hx⟩ s))
theorem snd_ss (ih : IHS P A G d n) (g : GS P A G d hx Φ c X W) : ∀ {sts : List Stmt} {ss : List S}, mapO (trS c n) sts = some ss → PSs X sts (tS X.K X.mg Φ W (evSs P ⟨call P d, hx⟩ ss))
  | [], ss, h => by
    cases h
    refine pss_imp pss_nil fun D σ H q => ?_
    obtain ⟨w, h, ρ, rfl, S, L, F, o⟩ := q
    rw [evSs] at o
    exact o.here S L F
  | st :: sts, ss, h => by
    unfold mapO at h
    cases e1 : trS c n st with
    | none => rw [e1] at h; cases h
    | some s =>
      rw [e1] at h
      cases e2 : mapO (trS c n) sts with
      | none => rw [e2] at h; cases h
      | some ss' =>
        rw [e2] at h
        cases h
        refine pss_imp (pss_cons (ih g e1) (snd_ss ih g e2)) fun D σ H q => ?_
        obtain ⟨w, h, ρ, rfl, S, L, F, o⟩ := q
        rw [evSs] at o
        exact ⟨w, h, ρ, rfl, S, L, F, OutS.seq o⟩
/-- the suite's reading -/
abbrev tSu (P : Prog) (X : Cx) (d : Nat) (c : TC) (y : Str) (s' : List S) (a : Addr) (cls : Value) (dd : Option Addr) : TS := fun D σ H => ∃ k : Nm, (P.exn k = true ∧ dd = none ∧ ∃ C, cls = .ref C ∧ X.mg (nstr k) = some (.ref C)) ∧ tS X.K X.mg (ΦH c y a) W0 (evSs P ⟨call P d, some (k, [])⟩ s') D σ H
theorem suite_ok (ih : IHS P A G d n) (g : GS P A G d hx Φ c X W) {y : Str} (hy : ∀ i, idxN c.N y = some i → locB c.sc y = true ∧ plainN y = true) {su : List Stmt} {s' : List S} (es : mapO (trS { c with hv := some y } n) su = some s') :
    ∀ (a : Addr) (oe : Obj) (cls : Value) (dd : Option Addr) (pn : List (Addr × Obj)), Zc cls dd oe → (∃ vs, oe.data = .fields vs) → PSs (X.suite a ((a, oe) :: pn)) su (tSu P X d c y s' a cls dd) := fun a oe cls dd pn hz hf => by
  refine pss_ex fun k ⟨hk, hd, C, e1, e2⟩ => ?_
  subst hd e1
  exact snd_ss ih (g.suite hy hk e2 hz hf (pn := pn)) es
/-- the outcome of a suite, its end -/
theorem suite_out {Φ' : L2.St → Prop} {w : Wd} {D D' : Ends} {i : Option Nat} {r : Rt} (hnx : ∀ ρ (w' : Wd) σ h, Sim X.K X.mg w' h → RelL X.K w' ρ σ → (∀ σ2, RelL X.K w' (clr i ρ) σ2 → D.nx σ2 w'.H → True) → True)
    (n1 : ∀ (w' : Wd) ρ σ, RelL X.K w' ρ σ → Φ' σ → ∃ σ2, RelL X.K w' (clr i ρ) σ2 ∧ Φ σ2 ∧ (∀ H, D.nx σ2 H → D'.nx σ H) ∧ (∀ H, D.bk σ2 H → D'.bk σ H) ∧ (∀ H, D.ct σ2 H → D'.ct σ H)) (n2 : D'.rt = D.rt) (o : OutS X.K X.mg Φ W w D (r.off i)) : OutS X.K X.mg Φ' W0 w D' r := by
  cases r with
  | nx ρ h => exact fun w' σ S E L F => let ⟨σ2, q1, q2, q3, _, _⟩ := n1 w' ρ σ L F; q3 _ (o w' σ2 S E q1 q2)
  | bk ρ h => exact fun w' σ S E L F => let ⟨σ2, q1, q2, _, q3, _⟩ := n1 w' ρ σ L F; q3 _ (o w' σ2 S E q1 q2)
  | ct ρ h => exact fun w' σ S E L F => let ⟨σ2, q1, q2, _, _, q3⟩ := n1 w' ρ σ L F; q3 _ (o w' σ2 S E q1 q2)
  | rt u h => exact fun w' v S E r => by rw [n2]; exact o w' v S E r
  | xc k fs ρ h => exact o.elim
  | bad => exact o.elim
/-- the wish of the clause -/
theorem try_rd (g : GS P A G d hx Φ c X W) (hv : c.hv = none) {k : Nm} (hk : P.exn k = true) {b : List S} {i : Option Nat} {s' : List S} {D : Ends} {σ : L2.St} {H : Hp} {Wc : WX} (q : tS X.K X.mg Φ W (evS P ⟨call P d, hx⟩ (.try_ b k i s')) D σ H)
    (hw : ∀ (w : Wd) (h : AH) (ρ : Loc) (σ : L2.St) (kk : Nm) (cls : Value) (dd : Option Addr), Sim X.K X.mg w h → RelL X.K w ρ σ → P.exn kk = true → RelX X.mg kk [] cls dd →
      OutS X.K X.mg Φ W w D (if P.sub kk k = true then (evSs P ⟨call P d, some (kk, [])⟩ s' (clr i ρ) h).off i else .xc kk [] ρ h) → Wc cls dd σ w.H) : tS X.K X.mg Φ Wc (evSs P ⟨call P d, hx⟩ b) D σ H := by
  obtain ⟨hx0, _, _⟩ := g.cold hv
  subst hx0
  obtain ⟨w, h, ρ, rfl, S, L, F, o⟩ := q
  refine ⟨w, h, ρ, rfl, S, L, F, ?_⟩
  rw [evS, if_pos ⟨rfl, hk⟩] at o
  cases e : evSs P ⟨call P d, none⟩ b ρ h with
  | nx ρ' h' => rw [e] at o; exact o
  | bk ρ' h' => rw [e] at o; exact o
  | ct ρ' h' => rw [e] at o; exact o
  | rt u h' => rw [e] at o; exact o
  | bad => rw [e] at o; exact o
  | xc kk fs ρ' h' =>
    rw [e] at o
    simp only at o
    split at o
    · rename_i he
      intro w' σ' cls dd S' E' L' F' rx
      have hfs : fs = [] := by obtain ⟨C, _, _, h3, _⟩ := rx; exact h3
      subst hfs
      exact hw w' h' ρ' σ' kk cls dd S' L' he rx (OutS.mono E' o)
    · exact o.elim
theorem ss_try_only (ih : IHS P A G d n) (g : GS P A G d hx Φ c X W) (hv : c.hv = none) {x : Str} {k : Nm} {b : List Stmt} {b' : List S} {b₀ : Stmt} {su : List Stmt} {s' : List S} {np pos' : Pos} (hg : Gl X x) (hp : plainN x = true) (ek : c.gk x = some (.exc k)) (eb : mapO (trS c n) b = some b')
    (hq : idxN c.N "?" = none) (es : mapO (trS { c with hv := some "?" } n) (b₀ :: su) = some s') : PS X (.Try b [.ExceptHandler (some (.Name x np)) none (b₀ :: su) pos'] [] [] pos) (tS X.K X.mg Φ W (evS P ⟨call P d, hx⟩ (.try_ b' k none s'))) := by
  have e := g.gk.exc x k ek
  subst e
  by_cases hk : P.exn k = true
  · obtain ⟨D0, hD, ef⟩ := g.fc.exc k hk
    refine ps_imp (ps_try_only (c := .ref D0) (Wout := W) (ts := tSu P X d c "?" s') (tb := fun W' => tS X.K X.mg Φ W' (evSs P ⟨call P d, hx⟩ b')) g.stk g.fr ⟨hg, plain_dbg hp, .inl hD⟩ g.tk (fun W' pn xe tk hp => snd_ss ih (g.tr tk hp hv) eb) (suite_ok ih g (fun i ei => by rw [hq] at ei; cases ei) es)) fun D σ H q => ?_
    refine try_rd g hv hk q fun w h ρ σ kk cls dd S L h1 rx o => ?_
    obtain ⟨C, rfl, hC, _, rfl⟩ := rx
    refine ⟨P.sub kk k, g.fc.exm kk k C D0 h1 hk hC hD, fun hb a na => ?_, fun hb => ?_⟩
    · rw [if_pos hb] at o
      refine ⟨kk, ⟨h1, rfl, C, rfl, hC⟩, w, h, ρ, rfl, S, L, (fun i ei => by rw [hq] at ei; cases ei), ?_⟩
      exact suite_out (i := none) (fun _ _ _ _ _ _ _ => trivial) (fun w' ρ σ L _ => ⟨σ, L, g.all hv σ, fun _ q => q, fun _ q => q, fun _ q => q⟩) rfl o
    · rw [if_neg (by rw [hb]; decide)] at o
      exact o w σ (.ref C) none S Ext.rfl' L (g.all hv σ) ⟨C, rfl, hC, rfl, rfl⟩
  · refine ⟨fun pins s σ H D I z => ?_⟩
    obtain ⟨w, h, ρ, rfl, S, L, F, o⟩ := z
    rw [evS, if_neg fun z => hk z.2] at o
    exact o.elim
theorem ss_try_as (ih : IHS P A G d n) (g : GS P A G d hx Φ c X W) (hv : c.hv = none) {x y : Str} {i : Nat} {k : Nm} {b : List Stmt} {b' : List S} {b₀ : Stmt} {su : List Stmt} {s' : List S} {np pos' : Pos} (hg : Gl X x) (hp : plainN x = true) (ek : c.gk x = some (.exc k)) (eb : mapO (trS c n) b = some b')
    (hi : plainLoc c y = some i) (es : mapO (trS { c with hv := some y } n) (b₀ :: su) = some s') : PS X (.Try b [.ExceptHandler (some (.Name x np)) (some y) (b₀ :: su) pos'] [] [] pos) (tS X.K X.mg Φ W (evS P ⟨call P d, hx⟩ (.try_ b' k (some i) s'))) := by
  have e := g.gk.exc x k ek
  subst e
  obtain ⟨hs, hl⟩ := plain_ok hi
  obtain ⟨hix, hp2⟩ : idxN c.N y = some i ∧ plainN y = true := by
    unfold slotOf at hs
    split at hs
    · rename_i j hj
      split at hs
      · rename_i hc
        cases hs
        simp only [Bool.and_eq_true] at hc
        exact ⟨hj, hc.1.2⟩
      · cases hs
    · cases hs
  have hlb := (slot_ok hs).2.1
  by_cases hk : P.exn k = true
  · obtain ⟨D0, hD, ef⟩ := g.fc.exc k hk
    refine ps_imp (ps_try_as (c := .ref D0) (Wout := W) (i := i) (n := y) (ts := tSu P X d c y s') (tb := fun W' => tS X.K X.mg Φ W' (evSs P ⟨call P d, hx⟩ b')) g.stk g.fr g.nd (by rw [g.N]; exact idxN_ok hix) (by show X.env.scope.names.lookup y = _; rw [g.sc]; exact hl) ⟨hg, plain_dbg hp, .inl hD⟩ g.tk (fun W' pn xe tk hp => snd_ss ih (g.tr tk hp hv) eb)
      (suite_ok ih g (fun _ _ => ⟨hlb, hp2⟩) es)) fun D σ H q => ?_
    refine try_rd g hv hk q fun w h ρ σ kk cls dd S L h1 rx o => ?_
    obtain ⟨C, rfl, hC, _, rfl⟩ := rx
    refine ⟨P.sub kk k, g.fc.exm kk k C D0 h1 hk hC hD, fun hb a na => ?_, fun hb => ?_⟩
    · rw [if_pos hb] at o
      refine ⟨kk, ⟨h1, rfl, C, rfl, hC⟩, w, h, ρ.set i none, rfl, S, L.setN i _, (fun j ej hl2 => ?_), ?_⟩
      · rw [hix] at ej
        cases ej
        rw [List.length_set] at hl2
        rw [List.getElem?_set_self hl2]
      · exact suite_out (i := some i) (fun _ _ _ _ _ _ _ => trivial) (fun w' ρ σ L _ => ⟨σ.set i none, L.setN i none, g.all hv _, fun _ q => q, fun _ q => q, fun _ q => q⟩) rfl o
    · rw [if_neg (by rw [hb]; decide)] at o
      exact o w σ (.ref C) none S Ext.rfl' L (g.all hv σ) ⟨C, rfl, hC, rfl, rfl⟩
  · refine ⟨fun pins s σ H D I z => ?_⟩
    obtain ⟨w, h, ρ, rfl, S, L, F, o⟩ := z
    rw [evS, if_neg fun z => hk z.2] at o
    exact o.elim
end
end Pl

namespace Pl
open PySem PySem.Spec PyProof.Rows L2
section
variable {P : Prog} {A : Nm → Addr} {G : Nm → Bool} {d : Nat} {hx : Hx} {Φ : L2.St → Prop} {c : TC} {X : Cx} {W : WX} {n : Nat} {pos p1 p2 p3 : Pos}
theorem ps_eq {st : Stmt} {m m' : Loc → AH → Rt} (p : PS X st (tS X.K X.mg Φ W m)) (h : ∀ ρ h, m' ρ h = m ρ h) : PS X st (tS X.K X.mg Φ W m') := by
  rw [show m' = m from funext fun ρ => funext fun a => h ρ a]
  exact p
theorem sndS (n : Nat) : IHS P A G d n := by
  induction n with
  | zero =>
    unfold IHS
    intro hx Φ c X W st s g h
    cases h
  | succ n ih =>
    unfold IHS
    intro hx Φ c X W st s g h
    have ihe : IHE P A G d n := sndE n
    unfold trS at h
    split at h
    · -- x = e
      rename_i x px e pos
      split at h
      · rename_i i m hi he
        cases h
        cases n with
        | zero => cases he
        | succ n =>
          refine ps_eq (ss_name (sndE n) ihe g hi he) fun ρ h => ?_
          rw [evS] <;> rfl
      · cases h
    · -- a display of names = a display
      rename_i ts k1 pt vs k2 pt2 pos
      split at h
      · cases h
      · rename_i hv
        have hv : c.hv = none := by simpa using hv
        split at h
        · rename_i hw
          split at h
          · rename_i is ms e1 e2
            cases h
            rw [← g.sc] at hw
            have pe : PE X (.Tuple vs k2 pt2) (tE X.K X.mg Φ W (evE P ⟨call P d, hx⟩ (.tup ms))) := pe_eq (se_tup (snd_es ihe g.toGE e2)) fun ρ h => by rw [evE]
            have ht : tgOf c (.Tuple ts k1 pt) = some (.tup is) := by show (mapO (nameSlot c) ts).map Tg.tup = _; rw [e1]; rfl
            refine ps_imp (ps_asg pe (pg_tg (g.cold hv).2.1 g.N g.nd g.tgt ht) rfl (sw_ok g.kind hw)) fun D σ H q => asg_rd g (tg_slots ht) ?_
            refine Eq.mp (congrArg (fun m => tS X.K X.mg Φ W m D σ H) ?_) q
            funext ρ h
            rw [evS] <;> rfl
          · cases h
        · rename_i x y hw
          split at h
          · rename_i x' px y' py a b
            split at h
            · rename_i i j ma mb e1 e2 e3 e4
              split at h
              · rename_i hc
                cases h
                obtain ⟨rfl, rfl, hij⟩ := hc
                refine ps_eq (ss_par2 ihe g hv e1 e2 hij e3 e4 hw) fun ρ h => ?_
                rw [evS] <;> rfl
              · cases h
            · cases h
          · cases h
        · rename_i x y z hw
          split at h
          · rename_i x' px y' py z' pz a b e
            split at h
            · rename_i i j l es e1 e2 e3 e4
              split at h
              · rename_i hc
                cases h
                obtain ⟨rfl, rfl, rfl, hij, hil, hjl⟩ := hc
                refine ps_eq (ss_par3 ihe g hv e1 e2 e3 hij hil hjl e4 hw) fun ρ h => ?_
                rw [evS] <;> rfl
              · cases h
            · cases h
          · cases h
        · cases h
    · -- a display of names = e
      rename_i ts k1 pt e pos hne
      split at h
      · cases h
      · rename_i hv
        have hv : c.hv = none := by simpa using hv
        split at h
        · rename_i is m e1 e2
          cases h
          have ht : tgOf c (.Tuple ts k1 pt) = some (.tup is) := by show (mapO (nameSlot c) ts).map Tg.tup = _; rw [e1]; rfl
          refine ps_imp (ps_asg (ihe g.toGE e2).1 (pg_tg (g.cold hv).2.1 g.N g.nd g.tgt ht) (show swapsWith e (some (.Tuple ts k1 pt)) pos.line X.env = pure false from swaps_tup _ _) (by cases e <;> first | rfl | exact absurd rfl (hne _ _ _))) fun D σ H q => asg_rd g (tg_slots ht) ?_
          refine Eq.mp (congrArg (fun m => tS X.K X.mg Φ W m D σ H) ?_) q
          funext ρ h
          rw [evS] <;> rfl
        · cases h
    · -- a field
      rename_i o f p1 e pos
      split at h
      · rename_i mo fn me e1 e2 e3
        cases h
        have ef := g.gk.nm f fn e2
        subst ef
        exact ss_fld ihe g e1 e3
      · cases h
    · rename_i o i p1 e pos
      split at h
      · rename_i hs
        split at h
        · rename_i mo mi me e1 e2 e3
          cases h
          exact ss_sub ihe g hs e1 e2 e3
        · cases h
      · cases h
    · -- an expression
      rename_i e pos
      split at h
      · cases h
      · rename_i hcmp
        obtain ⟨m, em, rfl⟩ := Option.map_eq_some_iff.mp h
        refine ps_imp (ps_expr (ihe g.toGE em).1 (swaps_no (by simpa using hcmp) _ _ _)) fun D σ H q => ?_
        rw [show evS P ⟨call P d, hx⟩ (.ex m) = _ from by funext ρ h; rw [evS]] at q
        refine (tS.go (R := RelU X.K) q).imp ?_
        rintro x H1 ⟨w1, h1, ρ, u, rfl, S, L, F, r, o⟩
        exact o.here S L F
    · -- if
      rename_i t a b pos
      split at h
      · cases h
      · rename_i hif
        split at h
        · rename_i mt sa sb e1 e2 e3
          cases h
          refine ps_imp (ps_if ((ihe g.toGE e1).2 (by simpa using hif)) (snd_ss ih g e2) (snd_ss ih g e3)) fun D σ H q => ?_
          rw [show evS P ⟨call P d, hx⟩ (.ite mt sa sb) = _ from by funext ρ h; rw [evS]] at q
          refine (tS.test (fun ρ u h hb => ?_) q).imp ?_
          · cases u with
            | bl b => exact absurd rfl (hb b)
            | _ => rfl
          · rintro bb H1 ⟨w1, h1, ρ, rfl, S, L, F, o⟩
            cases bb with
            | true => exact ⟨w1, h1, ρ, rfl, S, L, F, o⟩
            | false => exact ⟨w1, h1, ρ, rfl, S, L, F, o⟩
        · cases h
    · -- while
      rename_i t a pos
      split at h
      · cases h
      · rename_i hif
        simp only [Bool.or_eq_true, not_or, Bool.not_eq_true, Option.isSome_eq_false_iff, Option.isNone_iff_eq_none] at hif
        obtain ⟨hif, hv⟩ := hif
        split at h
        · rename_i mt sa e1 e2
          cases h
          obtain ⟨hx0, _, _⟩ := g.cold hv
          subst hx0
          refine ps_eq (ss_while g hv ((ihe g.toGE e1).2 hif) (snd_ss ih g e2)) fun ρ h => ?_
          rw [evS, if_pos rfl] <;> rfl
        · cases h
    · -- for
      rename_i t it b pos
      split at h
      · cases h
      · rename_i hv
        have hv : c.hv = none := by simpa using hv
        split at h
        · rename_i k its t' b' e1 e2 e3
          split at h
          · rename_i z
            cases h
            obtain ⟨hx0, _, _⟩ := g.cold hv
            subst hx0
            obtain ⟨hi, hs⟩ := snd_it ihe g.toGE e1 z
            refine ps_eq (ss_for g hv e2 hi hs (snd_ss ih g e3)) fun ρ h => ?_
            rw [evS, if_pos rfl] <;> rfl
          · cases h
        · cases h
    · -- return
      rename_i e pos
      obtain ⟨m, em, rfl⟩ := Option.map_eq_some_iff.mp h
      refine ps_imp (ps_ret (ihe g.toGE em).1) fun D σ H q => ?_
      rw [show evS P ⟨call P d, hx⟩ (.ret m) = _ from by funext ρ h; rw [evS]] at q
      refine (tS.go (R := RelU X.K) q).imp ?_
      rintro x H1 ⟨w1, h1, ρ, u, rfl, S, L, F, r, o⟩
      exact o w1 x S Ext.rfl' r
    · cases h
      refine ps_imp ps_retN fun D σ H q => ?_
      obtain ⟨w, h, ρ, rfl, S, L, F, o⟩ := q
      rw [evS, evE] at o
      exact o w .non S Ext.rfl' rfl
    · cases h
      refine ps_imp ps_break fun D σ H q => ?_
      obtain ⟨w, h, ρ, rfl, S, L, F, o⟩ := q
      rw [evS] at o
      exact o w σ S Ext.rfl' L F
    · cases h
      refine ps_imp ps_continue fun D σ H q => ?_
      obtain ⟨w, h, ρ, rfl, S, L, F, o⟩ := q
      rw [evS] at o
      exact o w σ S Ext.rfl' L F
    · cases h
      refine ps_imp ps_pass fun D σ H q => ?_
      obtain ⟨w, h, ρ, rfl, S, L, F, o⟩ := q
      rw [evS] at o
      exact o w σ S Ext.rfl' L F
    · -- raise
      rename_i x px m j pm p3 pos
      split at h
      · rename_i hc
        simp only [Bool.and_eq_true, Option.isNone_iff_eq_none] at hc
        obtain ⟨⟨⟨_, hgl⟩, hp⟩, hv⟩ := hc
        split at h
        · rename_i k ek
          cases h
          have e := g.gk.exc x k ek
          subst e
          obtain ⟨hx0, _, _⟩ := g.cold hv
          subst hx0
          refine ps_eq (ss_raise g hv (g.glob hgl) hp) fun ρ h => ?_
          rw [evS]
          by_cases he : P.exn k = true
          · rw [if_pos ⟨rfl, he⟩, if_pos he]
          · rw [if_neg fun z => he z.2, if_neg he]
        · cases h
      · cases h
    · -- try
      rename_i b x px nm b0 su p' pos
      split at h
      · rename_i hc
        simp only [Bool.and_eq_true, Option.isNone_iff_eq_none] at hc
        obtain ⟨⟨⟨_, hgl⟩, hp⟩, hv⟩ := hc
        split at h
        · rename_i k b' ek eb
          split at h
          · split at h
            · rename_i hq
              obtain ⟨s', es, rfl⟩ := Option.map_eq_some_iff.mp h
              exact ss_try_only ih g hv (g.glob hgl) hp ek eb (by simpa using hq) es
            · cases h
          · split at h
            · rename_i y i s' ei es
              cases h
              exact ss_try_as ih g hv (g.glob hgl) hp ek eb ei es
            · cases h
        · cases h
      · cases h
    · cases h
end
end Pl

namespace Pl
open PySem PySem.Spec PyProof.Rows L2
/-! ### defs -/
/-- what is known of a def -/
def DefT (K : PySem.W.Frag) (gk : Str → Option Gk) (nm : Str → Option Nm) (fa : Addr) (F : Fn) : Prop :=
  ∃ (x qual : Str) (params : Arguments) (body : List Stmt) (scope : Scope) (fd : FuncData) (N ps : List Str) (n : Nat), FunD K x qual params body scope [] [] fa fd ∧ FnScope N ps scope ∧ Binds K fd ps [] ∧ ps.length = F.n ∧ N.length = F.m ∧
    mapO (trS ⟨gk, nm, scope, N, none, fun _ => true⟩ n) body = some F.body
section
variable {P : Prog} {A : Nm → Addr} {G : Nm → Bool} {prog : Program} {w : World} {K : PySem.W.Frag} {mg : Str → Option Value} {base : Heap}
theorem relL_start {wd : Wd} {us : List U} {vs : List V} {m : Nat} {N : List Str} (hm : N.length = m) (r : RelUs K wd us vs) : RelL K wd (startU m us) (L2.start N vs) := by
  have hl := r.length
  refine ⟨by unfold startU L2.start; simp [hl, hm], fun i u e => ?_⟩
  unfold startU at e
  by_cases hi : i < us.length
  · rw [List.getElem?_append_left (by simpa using hi), List.getElem?_map] at e
    cases q : us[i]? with
    | none => rw [q] at e; cases e
    | some u' =>
      rw [q] at e
      cases e
      obtain ⟨v, h1, h2⟩ := r.get q
      refine ⟨v, ?_, h2⟩
      unfold L2.start
      rw [List.getElem?_append_left (by simpa [← hl] using hi), List.getElem?_map, h1]
      rfl
  · rw [List.getElem?_append_right (by simpa using hi), List.getElem?_replicate] at e
    split at e <;> cases e
theorem fin_out {W : WX} {wd : Wd} {Q : VK} {r : Rt} (o : OutG K mg (RelU K) W [] wd Q r.fin) (hW : ∀ cls d σ H, W cls d [] H → W cls d σ H) : OutS K mg (fun _ => True) W wd { nx := fun _ H' => Q .non H', rt := Q } r := by
  cases r with
  | nx ρ h => exact fun w' σ S E _ _ => o w' .non S E rfl
  | rt u h => exact fun w' v S E r => o w' v S E r
  | xc c fs ρ h => exact fun w' σ cls d S E _ _ x => hW _ _ _ _ (o w' cls d S E x)
  | bk ρ h => exact o.elim
  | ct ρ h => exact o.elim
  | bad => exact o.elim
/-- all defs keep their promises at a depth -/
def Fam (P : Prog) (A : Nm → Addr) (prog : Program) (w : World) (K : PySem.W.Frag) (mg : Str → Option Value) (base : Heap) (d : Nat) : Prop :=
  ∀ (f : Nm) (F : Fn), P.fn f = some F → ∃ fd ps, FnOk prog w K mg base (L2.CX prog w) (2 * d) (A f) fd ps (spF P K mg d f) ∧ Binds K fd ps [] ∧ ps.length = F.n
theorem fn_step {gk : Str → Option Gk} {nm : Str → Option Nm} (Fc : Facts P K mg A G) (hgk : ∀ c : TC, c.gk = gk → c.nm = nm → GK c G K mg) {d : Nat} (ih : Fam P A prog w K mg base d) {f : Nm} {F : Fn} (e : P.fn f = some F)
    {x qual : Str} {params : Arguments} {body : List Stmt} {scope : Scope} {fd : FuncData} {N ps : List Str} {n : Nat} (h1 : FunD K x qual params body scope [] [] (A f) fd) (h2 : FnScope N ps scope) (h4 : ps.length = F.n) (h5 : N.length = F.m)
    (h6 : mapO (trS ⟨gk, nm, scope, N, none, fun _ => true⟩ n) body = some F.body) : FnOk prog w K mg base (L2.CX prog w) (2 * (d + 1)) (A f) fd ps (spF P K mg (d + 1) f) := by
  refine h1.ok (k := 2 * d + 1) (N := N) (ps := ps) h2 (fun vs H Q E q => ?_) fun cdv Ar outer s H vs Q E hr q => ?_
  · obtain ⟨w, h, us, _, _, r, ⟨F', e', hl⟩, _⟩ := q
    rw [e] at e'; cases e'
    rw [← r.length, hl, h4]
  · obtain ⟨wd, h, us, rfl, S, r, ⟨F', e', hl⟩, o⟩ := q
    rw [e] at e'; cases e'
    generalize hX : cxOf (L2.CX prog w) prog w K mg base N qual scope (A f) cdv Ar outer s wd.H E = X
    have hroom : Room (2 * d + 1) X.A := by rw [← hX]; exact hr
    have un := hroom.un
    have g : GS P A G d none (fun _ => True) ⟨gk, nm, scope, N, none, fun _ => true⟩ X (fun cls d _ H => E cls d H) :=
      { fn := ⟨by subst hX; exact ih⟩
        fc := by subst hX; exact Fc
        gk := by subst hX; exact hgk _ rfl rfl
        N := by subst hX; rfl
        nd := by subst hX; exact h2.nd
        sc := by subst hX; rfl
        loc := fun _ _ _ => .inl (by subst hX; rfl)
        tk := by subst hX; exact takes_of rfl rfl rfl rfl
        units := by omega
        cold := fun _ => ⟨rfl, by subst hX; rfl, hroom⟩
        hot := fun y h => (nomatch h)
        kind := by subst hX; exact h2.kind
        own := fun _ => by subst hX; exact passes_of rfl
        stk := by subst hX; rfl
        fr := by subst hX; rfl
        all := fun _ _ => trivial
        keep := fun _ _ _ => trivial }
    refine ⟨_, snd_ss (sndS n) g h6, ?_⟩
    have hK : X.K = K := by subst hX; rfl
    have hmg : X.mg = mg := by subst hX; rfl
    rw [hK, hmg]
    refine ⟨wd, h, startU F.m us, rfl, S, relL_start h5 r, trivial, ?_⟩
    unfold Pl.call at o
    rw [e] at o
    simp only at o
    rw [if_pos hl] at o
    exact fin_out o fun _ _ _ _ q => q
/-- every def keeps its promise, at every depth -/
theorem fns_ok {gk : Str → Option Gk} {nm : Str → Option Nm} (Fc : Facts P K mg A G) (hgk : ∀ c : TC, c.gk = gk → c.nm = nm → GK c G K mg) (D : ∀ f F, P.fn f = some F → DefT K gk nm (A f) F) : ∀ d : Nat, Fam P A prog w K mg base d
  | 0, f, F, e => by
    obtain ⟨x, qual, params, body, scope, fd, N, ps, n, h1, h2, h3, h4, h5, h6⟩ := D f F e
    refine ⟨fd, ps, ⟨fun vs H Q E q => ?_, fun A outer s H args us vs Q E hr he hb hv q => ?_⟩, h3, h4⟩
    · obtain ⟨w, h, us, _, _, _, _, o⟩ := q
      exact o.elim
    · obtain ⟨w, h, us, _, _, _, _, o⟩ := q
      exact o.elim
  | d + 1, f, F, e => by
    obtain ⟨x, qual, params, body, scope, fd, N, ps, n, h1, h2, h3, h4, h5, h6⟩ := D f F e
    exact ⟨fd, ps, fn_step Fc hgk (fns_ok Fc hgk D d) e h1 h2 h4 h5 h6, h3, h4⟩
end
end Pl

namespace Pl
open PySem PySem.Spec PyProof.Rows L2
/-! ### the module's facts, by one look at a part of the heap -/
theorem all_mem {p : Nm → Bool} (h : allNm.all p = true) (n : Nm) : p n = true := List.all_eq_true.mp h n (List.mem_of_find?_eq_some (nofS_nstr n))
section
variable (P : Prog) (whr : Nm → Str × Option Str) (K : PySem.W.Frag)
def nsV (x : Str) : Option (Option Value) := PySem.W.nsIn K mainGlobals x
def freeB (x : Str) : Bool := He.eqO (nsV K x) (some none)
def refB (x : Str) (a : Addr) : Bool := He.eqO (nsV K x) (some (some (.ref a)))
abbrev fA (f : Nm) : Addr := He.fAd K (whr f)
abbrev cA (c : Nm) : Addr := He.ga K (nstr c)
/-- a def of the module itself -/
def fnG (n : Nm) : Bool := (P.fn n).isSome && ((whr n).2.isNone && decide ((whr n).1 = nstr n))
def gkN (n : Nm) : Option Gk := if fnG P whr n then some (.fn n) else if (P.init n).isSome then some (.cls n) else if P.exn n then some (.exc n) else if (P.con n).isSome then some (.con n) else none
def gkS (x : Str) : Option Gk := (nofS x).bind (gkN P whr)
def cfB (C : Addr) : Bool := PySem.W.plainGet K C Str.empty && (PySem.W.hasDictIn K C && (PySem.W.plainOver K C && (He.eqO (PySem.W.findIn K (.ref C) "__setattr__") (some (some (.builtin "object.__setattr__"))) &&
  (He.eqO (PySem.W.findIn K (.ref C) "__class__") (some (some (.builtin "object.__class__"))) && (He.eqO (PySem.W.specialIn K (.builtin "object.__class__") "__get__") (some (some (.builtin "getset_descriptor.__get__"))) &&
  (decide (PySem.W.takesIn K (.builtin "object.__class__") = some true) && decide (PySem.W.mroIn K C (.type "object") = some true)))))))
def methB (C : Addr) (m : Str) (a : Addr) : Bool := He.eqO (PySem.W.findIn K (.ref C) m) (some (some (.ref a))) && (PySem.W.isFn K (.ref a) && PySem.W.keepIn K (.ref a))
def mkB (C a : Addr) : Bool := PySem.W.makesIn K C && (He.eqO (PySem.W.findIn K (.ref C) "__init__") (some (some (.ref a))) && (PySem.W.isFn K (.ref a) && PySem.W.keepIn K (.ref C)))
def efB (C : Addr) : Bool := PySem.W.keepIn K (.ref C) && (PySem.W.excIn K C He.veBase "ValueError.__new__" && (decide (PySem.W.subIn K (.ref C) (.type "BaseException") = some true) && (decide (PySem.W.typeIn K (.ref C) = some (.type "type")) &&
  (He.eqO (PySem.W.findIn K (.ref C) "__getattribute__") (some (some (.builtin "BaseException.__getattribute__"))) && (He.eqO (PySem.W.findIn K (.ref C) "__getattr__") (some none) && (PySem.W.hasDictIn K C &&
  (He.eqO (PySem.W.findIn K (.ref C) "__class__") (some (some (.builtin "object.__class__"))) && (He.eqO (PySem.W.specialIn K (.builtin "object.__class__") "__get__") (some (some (.builtin "getset_descriptor.__get__"))) &&
  (decide (PySem.W.takesIn K (.builtin "object.__class__") = some true) && decide (PySem.W.mroIn K C (.type "object") = some true))))))))))
def isCl (c : Nm) : Bool := (P.init c).isSome
def ckFree : Bool := freeB K "isinstance" && (freeB K "range" && (freeB K "zip" && (freeB K "dict" && (freeB K "bool" && allBi.all fun b => freeB K (biName b)))))
def ckGlob : Bool := allNm.all fun f => !fnG P whr f || (refB K (nstr f) (fA whr K f) && PySem.W.keepIn K (.ref (fA whr K f)))
def ckCls : Bool := allNm.all fun c => !isCl P c || (refB K (nstr c) (cA K c) && cfB K (cA K c))
def ckMeth : Bool := allNm.all fun c => if isCl P c then allNm.all fun m => match P.meth c m with
    | some f => methB K (cA K c) (nstr m) (fA whr K f)
    | none => true
  else allNm.all fun m => (P.meth c m).isNone
def ckInit : Bool := allNm.all fun c => match P.init c with
    | some f => mkB K (cA K c) (fA whr K f)
    | none => true
def ckFlds : Bool := allNm.all fun c => if isCl P c then (P.flds c).all fun f => He.eqO (PySem.W.findIn K (.ref (cA K c)) (nstr f)) (some none) else (P.flds c).isEmpty
/-- each class of the module, whatever its name -/
def eachCl (p : Nm → Addr → Bool) : Bool := allNm.all fun d => match nsV K (nstr d) with
    | some (some (.ref D)) => !cfB K D || p d D
    | some _ => true
    | none => false
def ckKitO : Bool := allNm.all fun c => !isCl P c || eachCl K fun d D => decide (PySem.W.kitOne K (.ref (cA K c)) (.ref D) = some (P.sub c d))
def ckKitT : Bool := allNm.all fun c => !isCl P c || bTys.all fun T => decide (PySem.W.kitOne K (.ref (cA K c)) (.type T) = some false)
def ckKitB : Bool := eachCl K fun _ D => bTys.all fun T => decide (PySem.W.kitOne K (.type T) (.ref D) = some false)
def ckExc : Bool := allNm.all fun c => !P.exn c || (refB K (nstr c) (cA K c) && efB K (cA K c))
def ckExm : Bool := allNm.all fun c => !P.exn c || allNm.all fun d => !P.exn d || (decide (PySem.W.exmOne K (.ref (cA K c)) (.ref (cA K d)) = some (P.sub c d)) && decide (PySem.W.kitOne K (.ref (cA K c)) (.ref (cA K d)) = some (P.sub c d)))
def conB (x : Str) : U → Bool
  | .int i => (He.Fa.int x i).ok K
  | .str s => (He.Fa.str x s).ok K
  | _ => false
def ckCon : Bool := allNm.all fun g => match P.con g with
    | some u => conB K (nstr g) u
    | none => true
def ckAll : Bool := ckFree K && (ckGlob P whr K && (ckCls P K && (ckMeth P whr K && (ckInit P whr K && (ckFlds P K && (ckKitO P K && (ckKitT P K && (ckKitB K && (ckExc P K && (ckExm P K && ckCon P K))))))))))
end
section
variable {P : Prog} {whr : Nm → Str × Option Str} {K : PySem.W.Frag} {h : Heap} {mg : Str → Option Value}
theorem refB_ok (X : K.In h) (G : h.Ns mainGlobals mg) {x : Str} {a : Addr} (c : refB K x a = true) : mg x = some (.ref a) := PySem.W.mg_of X G (He.eqO_ok c)
theorem freeB_ok (X : K.In h) (G : h.Ns mainGlobals mg) {x : Str} (c : freeB K x = true) : mg x = none := PySem.W.mg_none_of X G (He.eqO_ok c)
theorem cfB_ok {C : Addr} (c : cfB K C = true) : CF K C := by
  unfold cfB at c
  simp only [Bool.and_eq_true, decide_eq_true_eq] at c
  obtain ⟨c1, c2, c3, c4, c5, c6, c7, c8⟩ := c
  exact ⟨⟨c1, c2, c3, He.eqO_ok c4⟩, He.eqO_ok c5, He.eqO_ok c6, c7, c8⟩
theorem eqO_to {a b : Option (Option Value)} (e : a = b) : He.eqO a b = true := decide_eq_true e
theorem cfB_of {C : Addr} (c : CF K C) : cfB K C = true := by
  unfold cfB
  simp only [Bool.and_eq_true, decide_eq_true_eq]
  exact ⟨c.cls.pg, c.cls.hd, c.cls.po, eqO_to c.cls.sa, eqO_to c.ga, eqO_to c.gs, c.tk, c.mro⟩
theorem efB_ok {C : Addr} (c : efB K C = true) : EF K C := by
  unfold efB at c
  simp only [Bool.and_eq_true, decide_eq_true_eq] at c
  obtain ⟨c1, c2, c3, c4, c5, c6, c7, c8, c9, c10, c11⟩ := c
  exact ⟨c1, ⟨_, _, _, _, PySem.F.excBase_ValueError, c2⟩, c3, c4, ⟨He.eqO_ok c5, He.eqO_ok c6, c3, c7, He.eqO_ok c8, He.eqO_ok c9, c10, c11⟩⟩
theorem or_of {a b : Bool} (h : (!a || b) = true) (ha : a = true) : b = true := by
  rw [ha] at h
  exact h
theorem eachCl_ok (X : K.In h) (G : h.Ns mainGlobals mg) {p : Nm → Addr → Bool} (c : eachCl K p = true) {d : Nm} {D : Addr} (hD : mg (nstr d) = some (.ref D)) (cf : CF K D) : p d D = true := by
  have c1 := all_mem c d
  cases e : nsV K (nstr d) with
  | none => rw [e] at c1; cases c1
  | some o =>
    cases o with
    | none =>
      have := PySem.W.mg_none_of X G (n := nstr d) e
      rw [hD] at this
      cases this
    | some v =>
      have ev := PySem.W.mg_of X G (n := nstr d) e
      rw [hD] at ev
      cases ev
      rw [e] at c1
      exact or_of c1 (cfB_of cf)
theorem facts_ok (X : K.In h) (G : h.Ns mainGlobals mg) (c : ckAll P whr K = true) : Facts P K mg (fA whr K) (fnG P whr) := by
  unfold ckAll at c
  simp only [Bool.and_eq_true] at c
  obtain ⟨cF, cG, cC, cM, cI, cD, cO, cT, cB, cE, cX, cN⟩ := c
  unfold ckFree at cF
  simp only [Bool.and_eq_true] at cF
  obtain ⟨f1, f2, f3, f4, f5, f6⟩ := cF
  have cls : ∀ c, isCl P c = true → mg (nstr c) = some (.ref (cA K c)) ∧ CF K (cA K c) := fun c hc => by
    have q := or_of (all_mem cC c) hc
    simp only [Bool.and_eq_true] at q
    exact ⟨refB_ok X G q.1, cfB_ok q.2⟩
  have clsD : ∀ c C, (P.init c).isSome = true → mg (nstr c) = some (.ref C) → C = cA K c := fun c C hc hC => by
    rw [(cls c hc).1] at hC
    cases hC; rfl
  have exc : ∀ c, P.exn c = true → mg (nstr c) = some (.ref (cA K c)) ∧ EF K (cA K c) := fun c hc => by
    have q := or_of (all_mem cE c) hc
    simp only [Bool.and_eq_true] at q
    exact ⟨refB_ok X G q.1, efB_ok q.2⟩
  have exm : ∀ c d C D, P.exn c = true → P.exn d = true → mg (nstr c) = some (.ref C) → mg (nstr d) = some (.ref D) → PySem.W.exmOne K (.ref C) (.ref D) = some (P.sub c d) ∧ PySem.W.kitOne K (.ref C) (.ref D) = some (P.sub c d) := fun c d C D hc hd hC hD => by
    rw [(exc c hc).1] at hC
    cases hC
    rw [(exc d hd).1] at hD
    cases hD
    have q := or_of (all_mem (or_of (all_mem cX c) hc) d) hd
    simp only [Bool.and_eq_true, decide_eq_true_eq] at q
    exact q
  exact
    { bi := fun b => freeB_ok X G (List.all_eq_true.mp f6 b (by cases b <;> decide))
      isi := freeB_ok X G f1
      rng := freeB_ok X G f2
      zip := freeB_ok X G f3
      tys := ⟨freeB_ok X G f4, freeB_ok X G f5⟩
      glob := fun f hf => by
        have q := or_of (all_mem cG f) hf
        simp only [Bool.and_eq_true] at q
        exact ⟨refB_ok X G q.1, q.2⟩
      meth := fun c m f e => by
        have q := all_mem cM c
        by_cases hc : isCl P c = true
        · rw [if_pos hc] at q
          have q2 := all_mem q m
          rw [e] at q2
          simp only [methB, Bool.and_eq_true] at q2
          exact ⟨_, (cls c hc).1, (cls c hc).2, ⟨He.eqO_ok q2.1, q2.2.1, q2.2.2⟩⟩
        · rw [if_neg hc] at q
          have q2 := all_mem q m
          rw [e] at q2
          cases q2
      init := fun c f e => by
        have hc : isCl P c = true := by unfold isCl; rw [e]; rfl
        have q := all_mem cI c
        rw [e] at q
        simp only [mkB, Bool.and_eq_true] at q
        exact ⟨_, (cls c hc).1, (cls c hc).2, ⟨q.1, He.eqO_ok q.2.1, q.2.2.1, q.2.2.2⟩⟩
      flds := fun c f e => by
        have q := all_mem cD c
        by_cases hc : isCl P c = true
        · rw [if_pos hc] at q
          exact ⟨_, (cls c hc).1, (cls c hc).2.cls, He.eqO_ok (List.all_eq_true.mp q f (by simpa using e))⟩
        · rw [if_neg hc] at q
          rw [List.isEmpty_iff.mp q] at e
          cases e
      kitO := fun c d C D hc hC hD cf => by
        rw [clsD c C hc hC]
        have q := eachCl_ok X G (or_of (all_mem cO c) hc) hD cf
        simpa using q
      kitT := fun c C T hc hC hT => by
        rw [clsD c C hc hC]
        have q := List.all_eq_true.mp (or_of (all_mem cT c) hc) T hT
        simpa using q
      kitB := fun d D T hD cf hT => by
        have q := List.all_eq_true.mp (eachCl_ok X G cB hD cf) T hT
        simpa using q
      exc := fun c hc => ⟨_, exc c hc⟩
      exm := fun c d C D hc hd hC hD => (exm c d C D hc hd hC hD).1
      kitX := fun c d C D hc hd hC hD => (exm c d C D hc hd hC hD).2
      con := fun g u e => by
        have q := all_mem cN g
        rw [e] at q
        cases u with
        | int i =>
          obtain ⟨t, e2⟩ := He.int_ok X G (x := nstr g) (i := i) q
          exact ⟨_, .int i, e2, ⟨t, rfl⟩, fun _ => rfl⟩
        | str s =>
          obtain ⟨t, e2⟩ := He.str_ok X G (x := nstr g) (z := s) q
          exact ⟨_, .str s, e2, ⟨t, rfl⟩, fun _ => rfl⟩
        | _ => cases q }
theorem gk_ok (Fc : Facts P K mg (fA whr K) (fnG P whr)) (c : TC) (h1 : c.gk = gkS P whr) (h2 : c.nm = nofS) : GK c (fnG P whr) K mg := by
  have un : ∀ {x k}, c.gk x = some k → ∃ n, nstr n = x ∧ gkN P whr n = some k := fun {x k} e => by
    rw [h1] at e
    unfold gkS at e
    cases en : nofS x with
    | none => rw [en] at e; cases e
    | some n => rw [en] at e; exact ⟨n, nofS_ok en, e⟩
  refine ⟨fun x f e => ?_, fun x k e => ?_, fun x g e => ?_, fun x k e => ?_, fun x m e => ?_⟩
  · obtain ⟨n, e1, e2⟩ := un e
    unfold gkN at e2
    split at e2
    · rename_i hf; cases e2; exact ⟨e1, hf⟩
    · split at e2
      · cases e2
      · split at e2
        · cases e2
        · split at e2 <;> cases e2
  · obtain ⟨n, e1, e2⟩ := un e
    unfold gkN at e2
    split at e2
    · cases e2
    · split at e2
      · rename_i hi
        cases e2
        obtain ⟨f, hf⟩ := Option.isSome_iff_exists.mp hi
        obtain ⟨C, q1, q2, _⟩ := Fc.init _ f hf
        exact ⟨e1, C, by rw [← e1]; exact q1, q2⟩
      · split at e2
        · cases e2
        · split at e2 <;> cases e2
  · obtain ⟨n, e1, e2⟩ := un e
    unfold gkN at e2
    split at e2
    · cases e2
    · split at e2
      · cases e2
      · split at e2
        · cases e2
        · split at e2
          · cases e2; exact e1
          · cases e2
  · obtain ⟨n, e1, e2⟩ := un e
    unfold gkN at e2
    split at e2
    · cases e2
    · split at e2
      · cases e2
      · split at e2
        · cases e2; exact e1
        · split at e2 <;> cases e2
  · rw [h2] at e
    exact nofS_ok e
end
/-! ### the hook -/
def obsP (ck : PySem.W.Frag → Bool) (fn : List He.DefD) (K : PySem.W.Frag) : He.AlD := (ck K && fn.all fun d => d.ok K, fn.map fun d => He.fnW K d.at_)
def hookP (n : Nat) (ck : PySem.W.Frag → Bool) (fn : List He.DefD) : PySem.W.Hook where
  α := He.AlD
  obs := fun s => obsP ck fn (He.frG s.heap.get? (He.asD s.heap.get? n))
  val := fun _ => He.valD fn
  says := fun _ h => ∃ K : PySem.W.Frag, K.In h ∧ obsP ck fn K = He.valD fn
  of := fun _ _ e => ⟨_, He.frG_in, e⟩
  keeps := fun _ _ _ ⟨K, hK, c⟩ k => ⟨K, PySem.W.Frag.In.keeps hK k, c⟩
theorem saysP_ck {ck : PySem.W.Frag → Bool} {fn : List He.DefD} {K : PySem.W.Frag} (c : obsP ck fn K = He.valD fn) : ck K = true := (He.ba (show (ck K && fn.all fun d => d.ok K) = true from congrArg (fun z : He.AlD => z.1) c)).1
theorem saysP_def {ck : PySem.W.Frag → Bool} {fn : List He.DefD} {K : PySem.W.Frag} (c : obsP ck fn K = He.valD fn) (i : Nat) {d : He.DefD} (h : fn[i]? = some d) : ∃ fd, FunD K d.name d.qual d.params d.body d.scope (d.dvs K) (d.kws K) (He.fAd K d.at_) fd := by
  have c2 := (He.ba (show (ck K && fn.all fun d => d.ok K) = true from congrArg (fun z : He.AlD => z.1) c)).2
  have e : fn.map (fun d => He.fnW K d.at_) = fn.map He.DefD.val := congrArg (fun z : He.AlD => z.2) c
  have e2 : (fn.map fun d => He.fnW K d.at_)[i]? = (fn.map He.DefD.val)[i]? := by rw [e]
  rw [List.getElem?_map, List.getElem?_map, h] at e2
  exact He.DefD.funD (Option.some.inj e2) (List.all_eq_true.mp c2 d (List.mem_of_getElem? h))
end Pl

namespace Pl
open PySem PySem.Spec PyProof.Rows L2
def topS (i : Nat) : Stmt := PySem.Challenge.pw_planledger_k23_whole_an_index_by_put_and.main.body.getD i (.Pass ⟨0, 0, 0, 0⟩)
def mthS (i j : Nat) : Stmt := (C8.clsBody (topS i)).getD j (.Pass ⟨0, 0, 0, 0⟩)
def whr : Nm → Str × Option Str
  | .«_law_well» => ("_law_well", none)
  | .«_law_draw» => ("_law_draw", none)
  | .«_law_value» => ("_law_value", none)
  | .«_law_entry» => ("_law_entry", none)
  | .«_law_outcome» => ("_law_outcome", none)
  | .«_law_done» => ("_law_done", none)
  | .«_law_deed» => ("_law_deed", none)
  | .«_law_bound» => ("_law_bound", none)
  | .«_law_shown» => ("_law_shown", none)
  | .«_law_fresh_right» => ("_law_fresh_right", none)
  | .«law» => ("law", none)
  | .«Index___init__» => ("Index", some "__init__")
  | .«Index_place_of» => ("Index", some "place_of")
  | .«Index_stands_at» => ("Index", some "stands_at")
  | .«Index_put» => ("Index", some "put")
  | .«Index_take» => ("Index", some "take")
  | .«Index_first_from» => ("Index", some "first_from")
  | .«Index_between» => ("Index", some "between")
  | _ => ("", none)
def «s__law_well» : Stmt := topS 11
def «d__law_well» : He.DefD := ⟨("_law_well", none), "_law_well", "_law_well", defArgs «s__law_well», defBody «s__law_well», defScope «s__law_well», [], []⟩
def «N__law_well» : List Str := ["cell"]
theorem «sc__law_well» : C8.scC «N__law_well» ["cell"] (defScope «s__law_well») = true := by kernel_rfl
theorem «t__law_well» : mapO (trS ⟨gkS prg whr, nofS, defScope «s__law_well», «N__law_well», none, fun _ => true⟩ 60) (defBody «s__law_well») = some «b__law_well» := by kernel_rfl
def «s__law_draw» : Stmt := topS 12
def «d__law_draw» : He.DefD := ⟨("_law_draw", none), "_law_draw", "_law_draw", defArgs «s__law_draw», defBody «s__law_draw», defScope «s__law_draw», [], []⟩
def «N__law_draw» : List Str := ["well", "limit", "found", "mixed"]
theorem «sc__law_draw» : C8.scC «N__law_draw» ["well", "limit"] (defScope «s__law_draw») = true := by kernel_rfl
theorem «t__law_draw» : mapO (trS ⟨gkS prg whr, nofS, defScope «s__law_draw», «N__law_draw», none, fun _ => true⟩ 60) (defBody «s__law_draw») = some «b__law_draw» := by kernel_rfl
def «s__law_value» : Stmt := topS 13
def «d__law_value» : He.DefD := ⟨("_law_value", none), "_law_value", "_law_value", defArgs «s__law_value», defBody «s__law_value», defScope «s__law_value», [], []⟩
def «N__law_value» : List Str := ["well"]
theorem «sc__law_value» : C8.scC «N__law_value» ["well"] (defScope «s__law_value») = true := by kernel_rfl
theorem «t__law_value» : mapO (trS ⟨gkS prg whr, nofS, defScope «s__law_value», «N__law_value», none, fun _ => true⟩ 60) (defBody «s__law_value») = some «b__law_value» := by kernel_rfl
def «s__law_entry» : Stmt := topS 14
def «d__law_entry» : He.DefD := ⟨("_law_entry", none), "_law_entry", "_law_entry", defArgs «s__law_entry», defBody «s__law_entry», defScope «s__law_entry», [], []⟩
def «N__law_entry» : List Str := ["well", "is_tuple", "value", "first", "second"]
theorem «sc__law_entry» : C8.scC «N__law_entry» ["well", "is_tuple"] (defScope «s__law_entry») = true := by kernel_rfl
theorem «t__law_entry» : mapO (trS ⟨gkS prg whr, nofS, defScope «s__law_entry», «N__law_entry», none, fun _ => true⟩ 60) (defBody «s__law_entry») = some «b__law_entry» := by kernel_rfl
def «s__law_outcome» : Stmt := topS 15
def «d__law_outcome» : He.DefD := ⟨("_law_outcome", none), "_law_outcome", "_law_outcome", defArgs «s__law_outcome», defBody «s__law_outcome», defScope «s__law_outcome», [], []⟩
def «N__law_outcome» : List Str := ["index", "is_put", "entry", "found", "e", "other"]
theorem «sc__law_outcome» : C8.scC «N__law_outcome» ["index", "is_put", "entry"] (defScope «s__law_outcome») = true := by kernel_rfl
theorem «t__law_outcome» : mapO (trS ⟨gkS prg whr, nofS, defScope «s__law_outcome», «N__law_outcome», none, fun _ => true⟩ 60) (defBody «s__law_outcome») = some «b__law_outcome» := by kernel_rfl
def «s__law_done» : Stmt := topS 16
def «d__law_done» : He.DefD := ⟨("_law_done", none), "_law_done", "_law_done", defArgs «s__law_done», defBody «s__law_done», defScope «s__law_done», [], []⟩
def «N__law_done» : List Str := ["index", "entries", "is_put", "entry", "due"]
theorem «sc__law_done» : C8.scC «N__law_done» ["index", "entries", "is_put", "entry"] (defScope «s__law_done») = true := by kernel_rfl
theorem «t__law_done» : mapO (trS ⟨gkS prg whr, nofS, defScope «s__law_done», «N__law_done», none, fun _ => true⟩ 60) (defBody «s__law_done») = some «b__law_done» := by kernel_rfl
def «s__law_deed» : Stmt := topS 17
def «d__law_deed» : He.DefD := ⟨("_law_deed", none), "_law_deed", "_law_deed", defArgs «s__law_deed», defBody «s__law_deed», defScope «s__law_deed», [], []⟩
def «N__law_deed» : List Str := ["well", "is_tuple", "before", "entries", "entry", "way"]
theorem «sc__law_deed» : C8.scC «N__law_deed» ["well", "is_tuple", "before", "entries"] (defScope «s__law_deed») = true := by kernel_rfl
theorem «t__law_deed» : mapO (trS ⟨gkS prg whr, nofS, defScope «s__law_deed», «N__law_deed», none, fun _ => true⟩ 60) (defBody «s__law_deed») = some «b__law_deed» := by kernel_rfl
def «s__law_bound» : Stmt := topS 18
def «d__law_bound» : He.DefD := ⟨("_law_bound", none), "_law_bound", "_law_bound", defArgs «s__law_bound», defBody «s__law_bound», defScope «s__law_bound», [], []⟩
def «N__law_bound» : List Str := ["well", "entries", "some", "entry"]
theorem «sc__law_bound» : C8.scC «N__law_bound» ["well", "entries"] (defScope «s__law_bound») = true := by kernel_rfl
theorem «t__law_bound» : mapO (trS ⟨gkS prg whr, nofS, defScope «s__law_bound», «N__law_bound», none, fun _ => true⟩ 60) (defBody «s__law_bound») = some «b__law_bound» := by kernel_rfl
def «s__law_shown» : Stmt := topS 19
def «d__law_shown» : He.DefD := ⟨("_law_shown", none), "_law_shown", "_law_shown", defArgs «s__law_shown», defBody «s__law_shown», defScope «s__law_shown», [], []⟩
def «N__law_shown» : List Str := ["index", "entries", "low", "high", "due", "entry", "found"]
theorem «sc__law_shown» : C8.scC «N__law_shown» ["index", "entries", "low", "high"] (defScope «s__law_shown») = true := by kernel_rfl
theorem «t__law_shown» : mapO (trS ⟨gkS prg whr, nofS, defScope «s__law_shown», «N__law_shown», none, fun _ => true⟩ 60) (defBody «s__law_shown») = some «b__law_shown» := by kernel_rfl
def «s__law_fresh_right» : Stmt := topS 20
def «d__law_fresh_right» : He.DefD := ⟨("_law_fresh_right", none), "_law_fresh_right", "_law_fresh_right", defArgs «s__law_fresh_right», defBody «s__law_fresh_right», defScope «s__law_fresh_right», [], []⟩
def «N__law_fresh_right» : List Str := ["entry", "index", "entries", "is_put"]
theorem «sc__law_fresh_right» : C8.scC «N__law_fresh_right» ["entry"] (defScope «s__law_fresh_right») = true := by kernel_rfl
theorem «t__law_fresh_right» : mapO (trS ⟨gkS prg whr, nofS, defScope «s__law_fresh_right», «N__law_fresh_right», none, fun _ => true⟩ 60) (defBody «s__law_fresh_right») = some «b__law_fresh_right» := by kernel_rfl
def «s_law» : Stmt := topS 21
def «d_law» : He.DefD := ⟨("law", none), "law", "law", defArgs «s_law», defBody «s_law», defScope «s_law», [], []⟩
def «N_law» : List Str := ["script", "well", "is_tuple", "is_late", "indexes", "kept", "before", "cell", "source", "at", "is_put", "low", "high", "index", "entries", "turn"]
theorem «sc_law» : C8.scC «N_law» ["script"] (defScope «s_law») = true := by kernel_rfl
theorem «t_law» : mapO (trS ⟨gkS prg whr, nofS, defScope «s_law», «N_law», none, fun _ => true⟩ 60) (defBody «s_law») = some «b_law» := by kernel_rfl
def «s_Index___init__» : Stmt := mthS 9 0
def «d_Index___init__» : He.DefD := ⟨("Index", some "__init__"), "__init__", "Index.__init__", defArgs «s_Index___init__», defBody «s_Index___init__», defScope «s_Index___init__», [], []⟩
def «N_Index___init__» : List Str := ["self"]
theorem «sc_Index___init__» : C8.scC «N_Index___init__» ["self"] (defScope «s_Index___init__») = true := by kernel_rfl
theorem «t_Index___init__» : mapO (trS ⟨gkS prg whr, nofS, defScope «s_Index___init__», «N_Index___init__», none, fun _ => true⟩ 60) (defBody «s_Index___init__») = some «b_Index___init__» := by kernel_rfl
def «s_Index_place_of» : Stmt := mthS 9 1
def «d_Index_place_of» : He.DefD := ⟨("Index", some "place_of"), "place_of", "Index.place_of", defArgs «s_Index_place_of», defBody «s_Index_place_of», defScope «s_Index_place_of», [], []⟩
def «N_Index_place_of» : List Str := ["self", "entry", "low", "high", "middle"]
theorem «sc_Index_place_of» : C8.scC «N_Index_place_of» ["self", "entry"] (defScope «s_Index_place_of») = true := by kernel_rfl
theorem «t_Index_place_of» : mapO (trS ⟨gkS prg whr, nofS, defScope «s_Index_place_of», «N_Index_place_of», none, fun _ => true⟩ 60) (defBody «s_Index_place_of») = some «b_Index_place_of» := by kernel_rfl
def «s_Index_stands_at» : Stmt := mthS 9 2
def «d_Index_stands_at» : He.DefD := ⟨("Index", some "stands_at"), "stands_at", "Index.stands_at", defArgs «s_Index_stands_at», defBody «s_Index_stands_at», defScope «s_Index_stands_at», [], []⟩
def «N_Index_stands_at» : List Str := ["self", "at", "entry"]
theorem «sc_Index_stands_at» : C8.scC «N_Index_stands_at» ["self", "at", "entry"] (defScope «s_Index_stands_at») = true := by kernel_rfl
theorem «t_Index_stands_at» : mapO (trS ⟨gkS prg whr, nofS, defScope «s_Index_stands_at», «N_Index_stands_at», none, fun _ => true⟩ 60) (defBody «s_Index_stands_at») = some «b_Index_stands_at» := by kernel_rfl
def «s_Index_put» : Stmt := mthS 9 3
def «d_Index_put» : He.DefD := ⟨("Index", some "put"), "put", "Index.put", defArgs «s_Index_put», defBody «s_Index_put», defScope «s_Index_put», [], []⟩
def «N_Index_put» : List Str := ["self", "value", "number", "at"]
theorem «sc_Index_put» : C8.scC «N_Index_put» ["self", "value", "number"] (defScope «s_Index_put») = true := by kernel_rfl
theorem «t_Index_put» : mapO (trS ⟨gkS prg whr, nofS, defScope «s_Index_put», «N_Index_put», none, fun _ => true⟩ 60) (defBody «s_Index_put») = some «b_Index_put» := by kernel_rfl
def «s_Index_take» : Stmt := mthS 9 4
def «d_Index_take» : He.DefD := ⟨("Index", some "take"), "take", "Index.take", defArgs «s_Index_take», defBody «s_Index_take», defScope «s_Index_take», [], []⟩
def «N_Index_take» : List Str := ["self", "value", "number", "at"]
theorem «sc_Index_take» : C8.scC «N_Index_take» ["self", "value", "number"] (defScope «s_Index_take») = true := by kernel_rfl
theorem «t_Index_take» : mapO (trS ⟨gkS prg whr, nofS, defScope «s_Index_take», «N_Index_take», none, fun _ => true⟩ 60) (defBody «s_Index_take») = some «b_Index_take» := by kernel_rfl
def «s_Index_first_from» : Stmt := mthS 9 5
def «d_Index_first_from» : He.DefD := ⟨("Index", some "first_from"), "first_from", "Index.first_from", defArgs «s_Index_first_from», defBody «s_Index_first_from», defScope «s_Index_first_from», [], []⟩
def «N_Index_first_from» : List Str := ["self", "value", "low", "high", "middle"]
theorem «sc_Index_first_from» : C8.scC «N_Index_first_from» ["self", "value"] (defScope «s_Index_first_from») = true := by kernel_rfl
theorem «t_Index_first_from» : mapO (trS ⟨gkS prg whr, nofS, defScope «s_Index_first_from», «N_Index_first_from», none, fun _ => true⟩ 60) (defBody «s_Index_first_from») = some «b_Index_first_from» := by kernel_rfl
def «s_Index_between» : Stmt := mthS 9 6
def «d_Index_between» : He.DefD := ⟨("Index", some "between"), "between", "Index.between", defArgs «s_Index_between», defBody «s_Index_between», defScope «s_Index_between», [], []⟩
def «N_Index_between» : List Str := ["self", "low", "high", "start", "end"]
theorem «sc_Index_between» : C8.scC «N_Index_between» ["self", "low", "high"] (defScope «s_Index_between») = true := by kernel_rfl
theorem «t_Index_between» : mapO (trS ⟨gkS prg whr, nofS, defScope «s_Index_between», «N_Index_between», none, fun _ => true⟩ 60) (defBody «s_Index_between») = some «b_Index_between» := by kernel_rfl
def dfs : List He.DefD := [«d__law_well», «d__law_draw», «d__law_value», «d__law_entry», «d__law_outcome», «d__law_done», «d__law_deed», «d__law_bound», «d__law_shown», «d__law_fresh_right», «d_law», «d_Index___init__», «d_Index_place_of», «d_Index_stands_at», «d_Index_put», «d_Index_take», «d_Index_first_from», «d_Index_between»]
section
variable {K : PySem.W.Frag} {ck : PySem.W.Frag → Bool} (c : obsP ck dfs K = He.valD dfs)
include c
theorem «dt__law_well» : DefT K (gkS prg whr) nofS (fA whr K .«_law_well») «f__law_well» := by
  obtain ⟨fd, F⟩ := saysP_def c 0 (d := «d__law_well») rfl
  exact ⟨_, _, _, _, _, fd, «N__law_well», ["cell"], 60, F, C8.fnScope_by «sc__law_well», FunD.bindsN F (fun _ _ _ _ _ _ us hl => match us, hl with | [_], _ => rfl), rfl, rfl, «t__law_well»⟩
theorem «dt__law_draw» : DefT K (gkS prg whr) nofS (fA whr K .«_law_draw») «f__law_draw» := by
  obtain ⟨fd, F⟩ := saysP_def c 1 (d := «d__law_draw») rfl
  exact ⟨_, _, _, _, _, fd, «N__law_draw», ["well", "limit"], 60, F, C8.fnScope_by «sc__law_draw», FunD.bindsN F (fun _ _ _ _ _ _ us hl => match us, hl with | [_, _], _ => rfl), rfl, rfl, «t__law_draw»⟩
theorem «dt__law_value» : DefT K (gkS prg whr) nofS (fA whr K .«_law_value») «f__law_value» := by
  obtain ⟨fd, F⟩ := saysP_def c 2 (d := «d__law_value») rfl
  exact ⟨_, _, _, _, _, fd, «N__law_value», ["well"], 60, F, C8.fnScope_by «sc__law_value», FunD.bindsN F (fun _ _ _ _ _ _ us hl => match us, hl with | [_], _ => rfl), rfl, rfl, «t__law_value»⟩
theorem «dt__law_entry» : DefT K (gkS prg whr) nofS (fA whr K .«_law_entry») «f__law_entry» := by
  obtain ⟨fd, F⟩ := saysP_def c 3 (d := «d__law_entry») rfl
  exact ⟨_, _, _, _, _, fd, «N__law_entry», ["well", "is_tuple"], 60, F, C8.fnScope_by «sc__law_entry», FunD.bindsN F (fun _ _ _ _ _ _ us hl => match us, hl with | [_, _], _ => rfl), rfl, rfl, «t__law_entry»⟩
theorem «dt__law_outcome» : DefT K (gkS prg whr) nofS (fA whr K .«_law_outcome») «f__law_outcome» := by
  obtain ⟨fd, F⟩ := saysP_def c 4 (d := «d__law_outcome») rfl
  exact ⟨_, _, _, _, _, fd, «N__law_outcome», ["index", "is_put", "entry"], 60, F, C8.fnScope_by «sc__law_outcome», FunD.bindsN F (fun _ _ _ _ _ _ us hl => match us, hl with | [_, _, _], _ => rfl), rfl, rfl, «t__law_outcome»⟩
theorem «dt__law_done» : DefT K (gkS prg whr) nofS (fA whr K .«_law_done») «f__law_done» := by
  obtain ⟨fd, F⟩ := saysP_def c 5 (d := «d__law_done») rfl
  exact ⟨_, _, _, _, _, fd, «N__law_done», ["index", "entries", "is_put", "entry"], 60, F, C8.fnScope_by «sc__law_done», FunD.bindsN F (fun _ _ _ _ _ _ us hl => match us, hl with | [_, _, _, _], _ => rfl), rfl, rfl, «t__law_done»⟩
theorem «dt__law_deed» : DefT K (gkS prg whr) nofS (fA whr K .«_law_deed») «f__law_deed» := by
  obtain ⟨fd, F⟩ := saysP_def c 6 (d := «d__law_deed») rfl
  exact ⟨_, _, _, _, _, fd, «N__law_deed», ["well", "is_tuple", "before", "entries"], 60, F, C8.fnScope_by «sc__law_deed», FunD.bindsN F (fun _ _ _ _ _ _ us hl => match us, hl with | [_, _, _, _], _ => rfl), rfl, rfl, «t__law_deed»⟩
theorem «dt__law_bound» : DefT K (gkS prg whr) nofS (fA whr K .«_law_bound») «f__law_bound» := by
  obtain ⟨fd, F⟩ := saysP_def c 7 (d := «d__law_bound») rfl
  exact ⟨_, _, _, _, _, fd, «N__law_bound», ["well", "entries"], 60, F, C8.fnScope_by «sc__law_bound», FunD.bindsN F (fun _ _ _ _ _ _ us hl => match us, hl with | [_, _], _ => rfl), rfl, rfl, «t__law_bound»⟩
theorem «dt__law_shown» : DefT K (gkS prg whr) nofS (fA whr K .«_law_shown») «f__law_shown» := by
  obtain ⟨fd, F⟩ := saysP_def c 8 (d := «d__law_shown») rfl
  exact ⟨_, _, _, _, _, fd, «N__law_shown», ["index", "entries", "low", "high"], 60, F, C8.fnScope_by «sc__law_shown», FunD.bindsN F (fun _ _ _ _ _ _ us hl => match us, hl with | [_, _, _, _], _ => rfl), rfl, rfl, «t__law_shown»⟩
theorem «dt__law_fresh_right» : DefT K (gkS prg whr) nofS (fA whr K .«_law_fresh_right») «f__law_fresh_right» := by
  obtain ⟨fd, F⟩ := saysP_def c 9 (d := «d__law_fresh_right») rfl
  exact ⟨_, _, _, _, _, fd, «N__law_fresh_right», ["entry"], 60, F, C8.fnScope_by «sc__law_fresh_right», FunD.bindsN F (fun _ _ _ _ _ _ us hl => match us, hl with | [_], _ => rfl), rfl, rfl, «t__law_fresh_right»⟩
theorem «dt_law» : DefT K (gkS prg whr) nofS (fA whr K .«law») «f_law» := by
  obtain ⟨fd, F⟩ := saysP_def c 10 (d := «d_law») rfl
  exact ⟨_, _, _, _, _, fd, «N_law», ["script"], 60, F, C8.fnScope_by «sc_law», FunD.bindsN F (fun _ _ _ _ _ _ us hl => match us, hl with | [_], _ => rfl), rfl, rfl, «t_law»⟩
theorem «dt_Index___init__» : DefT K (gkS prg whr) nofS (fA whr K .«Index___init__») «f_Index___init__» := by
  obtain ⟨fd, F⟩ := saysP_def c 11 (d := «d_Index___init__») rfl
  exact ⟨_, _, _, _, _, fd, «N_Index___init__», ["self"], 60, F, C8.fnScope_by «sc_Index___init__», FunD.bindsN F (fun _ _ _ _ _ _ us hl => match us, hl with | [_], _ => rfl), rfl, rfl, «t_Index___init__»⟩
theorem «dt_Index_place_of» : DefT K (gkS prg whr) nofS (fA whr K .«Index_place_of») «f_Index_place_of» := by
  obtain ⟨fd, F⟩ := saysP_def c 12 (d := «d_Index_place_of») rfl
  exact ⟨_, _, _, _, _, fd, «N_Index_place_of», ["self", "entry"], 60, F, C8.fnScope_by «sc_Index_place_of», FunD.bindsN F (fun _ _ _ _ _ _ us hl => match us, hl with | [_, _], _ => rfl), rfl, rfl, «t_Index_place_of»⟩
theorem «dt_Index_stands_at» : DefT K (gkS prg whr) nofS (fA whr K .«Index_stands_at») «f_Index_stands_at» := by
  obtain ⟨fd, F⟩ := saysP_def c 13 (d := «d_Index_stands_at») rfl
  exact ⟨_, _, _, _, _, fd, «N_Index_stands_at», ["self", "at", "entry"], 60, F, C8.fnScope_by «sc_Index_stands_at», FunD.bindsN F (fun _ _ _ _ _ _ us hl => match us, hl with | [_, _, _], _ => rfl), rfl, rfl, «t_Index_stands_at»⟩
theorem «dt_Index_put» : DefT K (gkS prg whr) nofS (fA whr K .«Index_put») «f_Index_put» := by
  obtain ⟨fd, F⟩ := saysP_def c 14 (d := «d_Index_put») rfl
  exact ⟨_, _, _, _, _, fd, «N_Index_put», ["self", "value", "number"], 60, F, C8.fnScope_by «sc_Index_put», FunD.bindsN F (fun _ _ _ _ _ _ us hl => match us, hl with | [_, _, _], _ => rfl), rfl, rfl, «t_Index_put»⟩
theorem «dt_Index_take» : DefT K (gkS prg whr) nofS (fA whr K .«Index_take») «f_Index_take» := by
  obtain ⟨fd, F⟩ := saysP_def c 15 (d := «d_Index_take») rfl
  exact ⟨_, _, _, _, _, fd, «N_Index_take», ["self", "value", "number"], 60, F, C8.fnScope_by «sc_Index_take», FunD.bindsN F (fun _ _ _ _ _ _ us hl => match us, hl with | [_, _, _], _ => rfl), rfl, rfl, «t_Index_take»⟩
theorem «dt_Index_first_from» : DefT K (gkS prg whr) nofS (fA whr K .«Index_first_from») «f_Index_first_from» := by
  obtain ⟨fd, F⟩ := saysP_def c 16 (d := «d_Index_first_from») rfl
  exact ⟨_, _, _, _, _, fd, «N_Index_first_from», ["self", "value"], 60, F, C8.fnScope_by «sc_Index_first_from», FunD.bindsN F (fun _ _ _ _ _ _ us hl => match us, hl with | [_, _], _ => rfl), rfl, rfl, «t_Index_first_from»⟩
theorem «dt_Index_between» : DefT K (gkS prg whr) nofS (fA whr K .«Index_between») «f_Index_between» := by
  obtain ⟨fd, F⟩ := saysP_def c 17 (d := «d_Index_between») rfl
  exact ⟨_, _, _, _, _, fd, «N_Index_between», ["self", "low", "high"], 60, F, C8.fnScope_by «sc_Index_between», FunD.bindsN F (fun _ _ _ _ _ _ us hl => match us, hl with | [_, _, _], _ => rfl), rfl, rfl, «t_Index_between»⟩
theorem dts : ∀ f F, prg.fn f = some F → DefT K (gkS prg whr) nofS (fA whr K f) F := by
  intro f F e
  cases f
  case «_law_well» => cases e; exact «dt__law_well» c
  case «_law_draw» => cases e; exact «dt__law_draw» c
  case «_law_value» => cases e; exact «dt__law_value» c
  case «_law_entry» => cases e; exact «dt__law_entry» c
  case «_law_outcome» => cases e; exact «dt__law_outcome» c
  case «_law_done» => cases e; exact «dt__law_done» c
  case «_law_deed» => cases e; exact «dt__law_deed» c
  case «_law_bound» => cases e; exact «dt__law_bound» c
  case «_law_shown» => cases e; exact «dt__law_shown» c
  case «_law_fresh_right» => cases e; exact «dt__law_fresh_right» c
  case «law» => cases e; exact «dt_law» c
  case «Index___init__» => cases e; exact «dt_Index___init__» c
  case «Index_place_of» => cases e; exact «dt_Index_place_of» c
  case «Index_stands_at» => cases e; exact «dt_Index_stands_at» c
  case «Index_put» => cases e; exact «dt_Index_put» c
  case «Index_take» => cases e; exact «dt_Index_take» c
  case «Index_first_from» => cases e; exact «dt_Index_first_from» c
  case «Index_between» => cases e; exact «dt_Index_between» c
  all_goals cases e
end
end Pl
namespace Pl
open PySem PySem.Spec PyProof.Rows L2
def loose0 : List PySem.Str := ["LedgerError", "NoTable", "NoEntry", "NoIndex", "NoRow", "NoNumber", "NoOrder", "Index", "_law_well", "_law_draw", "_law_value", "_law_entry", "_law_outcome", "_law_done", "_law_deed", "_law_bound", "_law_shown", "_law_fresh_right"]
def loose : List PySem.Str := loose0
abbrev R : PySem.W.OpenRow := PySem.W.OpenLaw.row PySem.Challenge.rw_planledger_k23_whole_an_index_by_put_and
abbrev hk : PySem.W.Hook := hookP 5 (ckAll prg whr) dfs
def ob (s : PySem.W.SharedT) : He.AlD := obsP (ckAll prg whr) dfs (He.frG (HandSHeadRun.getT s) (He.asD (HandSHeadRun.getT s) 5))
theorem ob_eq (s : PySem.W.SharedT) : ob s = hk.obs s.abs := by
  have e : HandSHeadRun.getT s = s.abs.heap.get? := funext (HandSHeadRun.getT_eq s)
  show obsP _ _ (He.frG (HandSHeadRun.getT s) (He.asD (HandSHeadRun.getT s) 5)) = _
  rw [e]
  rfl
theorem run (w : World) : HandSHeadRun.RunEq R (PySem.W.view R.prog [21]) hk ob 6000 loose w := by
  intro os
  kernel_rfl
end Pl
namespace Pl
open PySem PySem.Spec PyProof.Rows L2
/-! ### the law's end -/
theorem cx_none {P : Program} {w : World} {outer : List Env} {H : Hp} {s : Shared} {e : Value} {s' : Shared} (z : L2.CX P w outer H s (fun _ _ _ => False) e s') : False := by
  obtain ⟨a, B, H', cls, d, _, _, _, _, _, _, _, h⟩ := z
  exact h
theorem rel_ints {K : PySem.W.Frag} {w : Wd} : ∀ ns : List Int, RelUs K w (ns.map U.int) (ns.map V.int)
  | [] => rfl
  | _ :: ns => ⟨_, _, rfl, rfl, rel_ints ns⟩
theorem sim_one {K : PySem.W.Frag} {mg : Str → Option Value} {H : Hp} {a : Addr} {o : Ob} (r : RelOb K mg ⟨fun _ => a, 1, H⟩ a o) : Sim K mg ⟨fun _ => a, 1, H⟩ [o] := by
  refine ⟨rfl, fun n o' e => ?_, fun m n o' u e1 e2 _ _ _ => ?_⟩
  · cases n with
    | zero => cases e; exact r
    | succ n => simp at e
  · cases m with
    | zero =>
      cases n with
      | zero => rfl
      | succ n => simp at e2
    | succ m => simp at e1
/-- the script as an object -/
def IsScript (o : Ob) (ns : List Int) : Prop := o = .lst (ns.map U.int) ∨ o = .frz (ns.map U.int)
theorem script_get {o : Ob} {ns : List Int} (s : IsScript o ns) : getL [o] 0 = some (ns.map U.int) := by
  rcases s with rfl | rfl <;> rfl
section
variable {K : PySem.W.Frag} {mg : Str → Option Value} {h : Heap} {w : World} {l : PySem.W.OpenLaw} {fa : Addr} {d : Nat}
theorem law_gen (KX : K.In h) (Gm : h.Ns mainGlobals mg) (hmg : mg "law" = some (.ref fa)) (c : obsP (ckAll prg whr) dfs K = He.valD dfs)
    (pure : ∀ (ns : List Int) (o : Ob), ns.length ≤ 63 → (∀ z ∈ ns, Builtin.Int.intBits z ≤ 1048576) → IsScript o ns → ∃ h', call prg (d + 1) .law [.ref 0] [o] = .ok (.bl true) h') :
    LamX.LawAtS l w K (L2.CX l.prog w) (2 * (d + 1)) 63 "script" mg fa h := by
  have Fc := facts_ok KX Gm (saysP_ck c)
  have efa : fa = fA whr K .law := by
    have := (Fc.glob .law (by kernel_rfl)).1
    have e : nstr .law = "law" := rfl
    rw [e, hmg] at this
    cases this
    rfl
  subst efa
  obtain ⟨fd1, F1⟩ := saysP_def c (dfs.findIdx fun z => decide (z.name = ("law" : Str))) (d := d_law) (by kernel_rfl)
  have b1 := FunD.bindsA (ps := ["script"]) F1 fun _ _ _ _ _ _ us hl => match us, hl with | [_], _ => rfl
  refine ⟨fd1, [], spF prg K mg (d + 1) .law, (fun p hp => nomatch hp), (fun p hp => nomatch hp), (fun p hp => nomatch hp), fun s u => b1 s [u] rfl, fun H a ns hn hb _ hS => ?_, fun base hK hG _ => ?_⟩
  · have fin : ∀ {o : Ob}, IsScript o ns → RelOb K mg ⟨fun _ => a, 1, H⟩ a o → spF prg K mg (d + 1) .law [.ref a] H (fun v _ => v = .bl true) fun _ _ _ => False := fun {o} hs hr => by
      refine ⟨⟨fun _ => a, 1, H⟩, [o], [.ref 0], rfl, sim_one hr, ⟨_, [], rfl, ⟨Nat.zero_lt_one, rfl⟩, rfl⟩, ⟨f_law, rfl, rfl⟩, ?_⟩
      obtain ⟨h', e⟩ := pure ns o hn hb hs
      rw [e]
      exact fun w' v _ _ r => r
    rcases hS with (hS | ⟨ob, hS⟩) | ⟨ob, its, nn, q1, q2, q3, q4, q5, q6⟩
    · exact fin (.inl rfl) ⟨_, hS, rel_ints ns⟩
    · exact fin (.inr rfl) ⟨_, .inl ⟨ob, hS⟩, rel_ints ns⟩
    · exact fin (.inr rfl) ⟨_, .inr ⟨ob, its, nn, q1, q2, q3, q4, q5, q6⟩, rel_ints ns⟩
  · have Fb := facts_ok hK hG (saysP_ck c)
    exact fn_step Fb (fun c h1 h2 => gk_ok Fb c h1 h2) (fns_ok Fb (fun c h1 h2 => gk_ok Fb c h1 h2) (dts c) d) (f := .law) (F := f_law) rfl F1 (C8.fnScope_by sc_law) rfl rfl t_law
end
end Pl

namespace Pl
open PySem
/-- three numbers -/
def well (x y z : Int) : List U := [.int x, .int y, .int z]
theorem draw_spec {d : Nat} {h : AH} {a : Nat} {x y z lim : Int} (hw : h[a]? = some (.lst (well x y z))) (hl : 0 < lim) (hb : lim.natAbs.log2 < big) :
    (call prg (d + 1) ._law_draw [.ref a, .int lim] h).W (fun u h' => ∃ r x' z', u = .int r ∧ 0 ≤ r ∧ r < lim ∧ h' = h.set a (.lst (well x' y z'))) noX := by
  have hL : getL h a = some [.int x, .int y, .int z] := getL_of hw
  have hM : getM h a = some [.int x, .int y, .int z] := getM_of hw
  have hL2 : ∀ xs, getL (h.set a (.lst xs)) a = some xs := fun xs => getL_of (at_set hw)
  refine call_W (F := f__law_draw) rfl rfl ?_
  show (evSs prg ⟨call prg d, none⟩ b__law_draw [some (.ref a), some (.int lim), none, none] h).W _
  unfold b__law_draw
  try simp only [ss_cons, e_xisi, e_comp0, e_compIf0, s_for0, e_new0, e_meth0, e_bi0, e_call0, e_lc, e_cu, e_gl, e_bin, e_neg, e_nt, e_an, e_or, e_cmp, e_chain, e_ife, ws_nil, ws_cons, e_isi, e_fld, e_sub, e_tup, e_lst, e_slc, s_asg, s_one, s_fld, s_sub, s_ex, s_ret, s_brk, s_cnt, s_pass, s_ite, ss_nil, W_ok, W_opt, b_add, b_sub, b_mul, b_div, b_mod, b_pow, sub_tup, sub_ref, at_0, at_1, at_2, ix_1_0, ix_2_0, ix_2_1, ix_3_0, ix_3_1, ix_3_2, ix_4_0, ix_4_1, ix_4_2, ix_4_3, ix_5_0, ix_5_1, ix_5_2, ix_5_3, ix_5_4, ix_6_0, ix_6_1, ix_6_2, ix_6_3, ix_6_4, ix_6_5, i_max, i_min, i_abs, i_int, i_intb, i_len_tup, bindT, setAll, cmp_eq_int, cmp_ne_int, cmp_lt_int, cmp_gt_int, cmp_le_int, cmp_ge_int, cmp_eq_bl, cmp_ne_bl, cmp_eq_str, cmp_ne_str, cmp_is, cmp_isnot, List.length_cons, List.length_nil, Int.toNat_zero, Int.toNat_one, Option.some.injEq, U.bl.injEq, U.int.injEq, U.ref.injEq, U.tup.injEq, exists_eq_left', Option.bind_some, List.getElem?_cons_zero, List.getElem?_cons_succ, List.set_cons_zero, List.set_cons_succ, decide_eq_true_eq, decide_eq_false_iff_not, hL, hM, hL2, hl, hb, true_and]
  have hr : ∀ z : Int, 0 ≤ z % lim ∧ z % lim < lim := fun z => ⟨Int.emod_nonneg _ (by omega), Int.emod_lt_of_pos _ hl⟩
  refine ⟨fun hx => ⟨_, _, _, rfl, (hr _).1, (hr _).2, rfl⟩, fun hx => ?_⟩
  have big1 : ∀ n : Int, 0 < n → n < 2 ^ 62 → 0 < n ∧ n.natAbs.log2 < big := fun n h1 h2 => ⟨h1, Nat.lt_of_lt_of_le ((Nat.log2_lt (by omega)).mpr (show n.natAbs < 2 ^ 62 by omega)) (by decide)⟩
  refine ⟨.inl (by decide), .inr (by decide), by decide, big1 _ (by decide) (by decide), .inl ?_, by decide, big1 _ (by decide) (by decide), .inl ?_, by decide, big1 _ (by decide) (by decide), _, _, _, rfl, (hr _).1, (hr _).2, rfl⟩
  all_goals (constructor <;> omega)
end Pl

namespace Pl
open PySem
/-! ### the index -/
structure IdxAt (k : Bool) (h : AH) (i e : Nat) (L : List En) : Prop where
  obj : h[i]? = some (.ins .Index [(.entries, .ref e)])
  lst : h[e]? = some (.lst (L.map (ent k)))
  good : ∀ f ∈ L, GoodE k f
  ord : L.Pairwise ltE
theorem half_big : 0 < (2 : Int) ∧ (2 : Int).natAbs.log2 < big := by decide
theorem half_nat (lo hi : Nat) : ((lo : Int) + hi) / 2 = ((lo + hi) / 2 : Nat) := by omega
theorem place_spec {d : Nat} {k : Bool} {h : AH} {i e : Nat} {L : List En} {x : En} (I : IdxAt k h i e L) (hx : GoodE k x) :
    (call prg (d + 1) .Index_place_of [.ref i, ent k x] h).W (fun u h' => h' = h ∧ ∃ n : Nat, u = .int n ∧ n ≤ L.length ∧ (∀ j f, L[j]? = some f → j < n → ltE f x) ∧ (∀ j f, L[j]? = some f → n ≤ j → ¬ ltE f x)) noX := by
  have hI := getI_of I.obj
  have hL := getL_of I.lst
  have hlen : ∀ {Q : U → AH → Prop} {Z : XW}, (biop .len [.ref e] h).W Q Z = Q (.int L.length) h := fun {Q Z} => by rw [i_len_ref hL, List.length_map]
  refine call_W (F := f_Index_place_of) rfl rfl ?_
  show (evSs prg ⟨call prg d, none⟩ b_Index_place_of [some (.ref i), some (ent k x), none, none, none] h).W _
  unfold b_Index_place_of
  try simp only [ss_cons, e_xisi, e_comp0, e_compIf0, s_for0, e_new0, e_meth0, e_bi0, e_call0, e_lc, e_cu, e_gl, e_bin, e_neg, e_nt, e_an, e_or, e_cmp, e_chain, e_ife, ws_nil, ws_cons, e_isi, e_fld, e_sub, e_tup, e_lst, e_slc, s_asg, s_one, s_fld, s_sub, s_ex, s_ret, s_brk, s_cnt, s_pass, s_ite, ss_nil, W_ok, W_opt, b_add, b_sub, b_mul, b_div, b_mod, b_pow, sub_tup, sub_ref, at_0, at_1, at_2, ix_1_0, ix_2_0, ix_2_1, ix_3_0, ix_3_1, ix_3_2, ix_4_0, ix_4_1, ix_4_2, ix_4_3, ix_5_0, ix_5_1, ix_5_2, ix_5_3, ix_5_4, ix_6_0, ix_6_1, ix_6_2, ix_6_3, ix_6_4, ix_6_5, i_max, i_min, i_abs, i_int, i_intb, i_len_tup, bindT, setAll, cmp_eq_int, cmp_ne_int, cmp_lt_int, cmp_gt_int, cmp_le_int, cmp_ge_int, cmp_eq_bl, cmp_ne_bl, cmp_eq_str, cmp_ne_str, cmp_is, cmp_isnot, List.length_cons, List.length_nil, Int.toNat_zero, Int.toNat_one, Option.some.injEq, U.bl.injEq, U.int.injEq, U.ref.injEq, U.tup.injEq, exists_eq_left', Option.bind_some, List.getElem?_cons_zero, List.getElem?_cons_succ, List.set_cons_zero, List.set_cons_succ, decide_eq_true_eq, decide_eq_false_iff_not, hI, hlen]
  refine ⟨by decide, .ref e, by rfl, ?_⟩
  rw [hlen]
  refine whl_W rfl (fun m ρ h' => h' = h ∧ ∃ (lo hi : Nat) (z : Option U), ρ = [some (.ref i), some (ent k x), some (.int lo), some (.int hi), z] ∧ lo ≤ hi ∧ hi ≤ L.length ∧ m = hi - lo ∧ (∀ j f, L[j]? = some f → j < lo → ltE f x) ∧ (∀ j f, L[j]? = some f → hi ≤ j → ¬ ltE f x)) L.length ?_ ?_
  · exact ⟨rfl, 0, L.length, none, rfl, Nat.zero_le _, Nat.le_refl _, rfl, fun j f _ z => absurd z (Nat.not_lt_zero _), fun j f e z => absurd (List.getElem?_eq_some_iff.mp e).1 (by omega)⟩
  · rintro m ρ h' ⟨rfl, lo, hi, z, rfl, h1, h2, rfl, h3, h4⟩
    try simp only [e_xisi, e_comp0, e_compIf0, s_for0, e_new0, e_meth0, e_bi0, e_call0, e_lc, e_cu, e_gl, e_bin, e_neg, e_nt, e_an, e_or, e_cmp, e_chain, e_ife, ws_nil, ws_cons, e_isi, e_fld, e_sub, e_tup, e_lst, e_slc, s_asg, s_one, s_fld, s_sub, s_ex, s_ret, s_brk, s_cnt, s_pass, s_ite, ss_nil, W_ok, W_opt, b_add, b_sub, b_mul, b_div, b_mod, b_pow, sub_tup, sub_ref, at_0, at_1, at_2, ix_1_0, ix_2_0, ix_2_1, ix_3_0, ix_3_1, ix_3_2, ix_4_0, ix_4_1, ix_4_2, ix_4_3, ix_5_0, ix_5_1, ix_5_2, ix_5_3, ix_5_4, ix_6_0, ix_6_1, ix_6_2, ix_6_3, ix_6_4, ix_6_5, i_max, i_min, i_abs, i_int, i_intb, i_len_tup, bindT, setAll, cmp_eq_int, cmp_ne_int, cmp_lt_int, cmp_gt_int, cmp_le_int, cmp_ge_int, cmp_eq_bl, cmp_ne_bl, cmp_eq_str, cmp_ne_str, cmp_is, cmp_isnot, List.length_cons, List.length_nil, Int.toNat_zero, Int.toNat_one, Option.some.injEq, U.bl.injEq, U.int.injEq, U.ref.injEq, U.tup.injEq, exists_eq_left', Option.bind_some, List.getElem?_cons_zero, List.getElem?_cons_succ, List.set_cons_zero, List.set_cons_succ, decide_eq_true_eq, decide_eq_false_iff_not, hI]
    by_cases hlt : (lo : Int) < hi
    · left
      refine ⟨hlt, ?_⟩
      have hmid : (lo + hi) / 2 < L.length := by omega
      obtain ⟨f, hf⟩ : ∃ f, L[(lo + hi) / 2]? = some f := ⟨_, List.getElem?_eq_getElem hmid⟩
      have hg : GoodE k f := I.good f (List.mem_of_getElem? hf)
      have hat : (L.map (ent k))[(lo + hi) / 2]? = some (ent k f) := by rw [List.getElem?_map, hf]; rfl
      try simp only [ss_cons, e_xisi, e_comp0, e_compIf0, s_for0, e_new0, e_meth0, e_bi0, e_call0, e_lc, e_cu, e_gl, e_bin, e_neg, e_nt, e_an, e_or, e_cmp, e_chain, e_ife, ws_nil, ws_cons, e_isi, e_fld, e_sub, e_tup, e_lst, e_slc, s_asg, s_one, s_fld, s_sub, s_ex, s_ret, s_brk, s_cnt, s_pass, s_ite, ss_nil, W_ok, W_opt, b_add, b_sub, b_mul, b_div, b_mod, b_pow, sub_tup, sub_ref, at_0, at_1, at_2, ix_1_0, ix_2_0, ix_2_1, ix_3_0, ix_3_1, ix_3_2, ix_4_0, ix_4_1, ix_4_2, ix_4_3, ix_5_0, ix_5_1, ix_5_2, ix_5_3, ix_5_4, ix_6_0, ix_6_1, ix_6_2, ix_6_3, ix_6_4, ix_6_5, i_max, i_min, i_abs, i_int, i_intb, i_len_tup, bindT, setAll, cmp_eq_int, cmp_ne_int, cmp_lt_int, cmp_gt_int, cmp_le_int, cmp_ge_int, cmp_eq_bl, cmp_ne_bl, cmp_eq_str, cmp_ne_str, cmp_is, cmp_isnot, List.length_cons, List.length_nil, Int.toNat_zero, Int.toNat_one, Option.some.injEq, U.bl.injEq, U.int.injEq, U.ref.injEq, U.tup.injEq, exists_eq_left', Option.bind_some, List.getElem?_cons_zero, List.getElem?_cons_succ, List.set_cons_zero, List.set_cons_succ, decide_eq_true_eq, decide_eq_false_iff_not, hI]
      refine ⟨half_big, by decide, .ref e, rfl, ?_⟩
      rw [half_nat, sub_ref, hL]
      simp only [Option.bind_some, at_nat, hat, Option.some.injEq, exists_eq_left', ent_cmp_lt hg hx, U.bl.injEq, decide_eq_true_eq, decide_eq_false_iff_not]
      have mono : ∀ {a b : Nat} {p q : En}, L[a]? = some p → L[b]? = some q → a < b → ltE p q := fun {a b p q} ha hb hab => by
        obtain ⟨ha1, ha2⟩ := List.getElem?_eq_some_iff.mp ha
        obtain ⟨hb1, hb2⟩ := List.getElem?_eq_some_iff.mp hb
        rw [← ha2, ← hb2]
        exact List.pairwise_iff_getElem.mp I.ord a b ha1 hb1 hab
      refine ⟨fun hc => ?_, fun hc => ?_⟩
      · refine ⟨hi - ((lo + hi) / 2 + 1), by omega, trivial, (lo + hi) / 2 + 1, hi, _, rfl, by omega, h2, rfl, fun j g hj hlt2 => ?_, h4⟩
        by_cases q : j < (lo + hi) / 2
        · exact ltE_trans (mono hj hf q) hc
        · have : j = (lo + hi) / 2 := by omega
          subst this
          rw [hf] at hj
          cases hj
          exact hc
      · refine ⟨(lo + hi) / 2 - lo, by omega, trivial, lo, (lo + hi) / 2, _, rfl, by omega, by omega, rfl, h3, fun j g hj hle q => ?_⟩
        by_cases q2 : (lo + hi) / 2 < j
        · exact hc (ltE_trans (mono hf hj q2) q)
        · have : j = (lo + hi) / 2 := by omega
          subst this
          rw [hf] at hj
          cases hj
          exact hc q
    · right
      refine ⟨hlt, ?_⟩
      have e1 : lo = hi := by omega
      subst e1
      exact ⟨trivial, lo, rfl, h2, h3, h4⟩
theorem stands_spec {d : Nat} {k : Bool} {h : AH} {i e : Nat} {L : List En} {x : En} {n : Nat} (I : IdxAt k h i e L) (hx : GoodE k x) :
    (call prg (d + 1) .Index_stands_at [.ref i, .int n, ent k x] h).W (fun u h' => h' = h ∧ u = .bl (decide (L[n]? = some x))) noX := by
  have hI := getI_of I.obj
  have hL := getL_of I.lst
  have hlen : ∀ {Q : U → AH → Prop} {Z : XW}, (biop .len [.ref e] h).W Q Z = Q (.int L.length) h := fun {Q Z} => by rw [i_len_ref hL, List.length_map]
  refine call_W (F := f_Index_stands_at) rfl rfl ?_
  show (evSs prg ⟨call prg d, none⟩ b_Index_stands_at [some (.ref i), some (.int n), some (ent k x)] h).W _
  unfold b_Index_stands_at
  try simp only [ss_cons, e_xisi, e_comp0, e_compIf0, s_for0, e_new0, e_meth0, e_bi0, e_call0, e_lc, e_cu, e_gl, e_bin, e_neg, e_nt, e_an, e_or, e_cmp, e_chain, e_ife, ws_nil, ws_cons, e_isi, e_fld, e_sub, e_tup, e_lst, e_slc, s_asg, s_one, s_fld, s_sub, s_ex, s_ret, s_brk, s_cnt, s_pass, s_ite, ss_nil, W_ok, W_opt, b_add, b_sub, b_mul, b_div, b_mod, b_pow, sub_tup, sub_ref, at_0, at_1, at_2, ix_1_0, ix_2_0, ix_2_1, ix_3_0, ix_3_1, ix_3_2, ix_4_0, ix_4_1, ix_4_2, ix_4_3, ix_5_0, ix_5_1, ix_5_2, ix_5_3, ix_5_4, ix_6_0, ix_6_1, ix_6_2, ix_6_3, ix_6_4, ix_6_5, i_max, i_min, i_abs, i_int, i_intb, i_len_tup, bindT, setAll, cmp_eq_int, cmp_ne_int, cmp_lt_int, cmp_gt_int, cmp_le_int, cmp_ge_int, cmp_eq_bl, cmp_ne_bl, cmp_eq_str, cmp_ne_str, cmp_is, cmp_isnot, List.length_cons, List.length_nil, Int.toNat_zero, Int.toNat_one, Option.some.injEq, U.bl.injEq, U.int.injEq, U.ref.injEq, U.tup.injEq, exists_eq_left', Option.bind_some, List.getElem?_cons_zero, List.getElem?_cons_succ, List.set_cons_zero, List.set_cons_succ, decide_eq_true_eq, decide_eq_false_iff_not, hI, hlen]
  refine ⟨by decide, .ref e, rfl, ?_⟩
  rw [hlen]
  try simp only [ss_cons, e_xisi, e_comp0, e_compIf0, s_for0, e_new0, e_meth0, e_bi0, e_call0, e_lc, e_cu, e_gl, e_bin, e_neg, e_nt, e_an, e_or, e_cmp, e_chain, e_ife, ws_nil, ws_cons, e_isi, e_fld, e_sub, e_tup, e_lst, e_slc, s_asg, s_one, s_fld, s_sub, s_ex, s_ret, s_brk, s_cnt, s_pass, s_ite, ss_nil, W_ok, W_opt, b_add, b_sub, b_mul, b_div, b_mod, b_pow, sub_tup, sub_ref, at_0, at_1, at_2, ix_1_0, ix_2_0, ix_2_1, ix_3_0, ix_3_1, ix_3_2, ix_4_0, ix_4_1, ix_4_2, ix_4_3, ix_5_0, ix_5_1, ix_5_2, ix_5_3, ix_5_4, ix_6_0, ix_6_1, ix_6_2, ix_6_3, ix_6_4, ix_6_5, i_max, i_min, i_abs, i_int, i_intb, i_len_tup, bindT, setAll, cmp_eq_int, cmp_ne_int, cmp_lt_int, cmp_gt_int, cmp_le_int, cmp_ge_int, cmp_eq_bl, cmp_ne_bl, cmp_eq_str, cmp_ne_str, cmp_is, cmp_isnot, List.length_cons, List.length_nil, Int.toNat_zero, Int.toNat_one, Option.some.injEq, U.bl.injEq, U.int.injEq, U.ref.injEq, U.tup.injEq, exists_eq_left', Option.bind_some, List.getElem?_cons_zero, List.getElem?_cons_succ, List.set_cons_zero, List.set_cons_succ, decide_eq_true_eq, decide_eq_false_iff_not, hI]
  refine ⟨fun hc => ⟨by decide, .ref e, rfl, ?_⟩, fun hc => ?_⟩
  · have hc : n < L.length := by simpa using hc
    have hat : (L.map (ent k))[n]? = some (ent k L[n]) := by rw [List.getElem?_map, List.getElem?_eq_getElem hc]; rfl
    rw [sub_ref, hL]
    simp only [Option.bind_some, at_nat, hat, Option.some.injEq, exists_eq_left', ent_cmp_eq (I.good _ (List.getElem_mem hc)) hx]
    refine ⟨trivial, ?_⟩
    rw [List.getElem?_eq_getElem hc]
    simp
  · have hc : ¬ n < L.length := by simpa using hc
    refine ⟨trivial, ?_⟩
    rw [List.getElem?_eq_none (by omega)]
    simp
/-- the place of x in the order -/
structure PlaceOf (L : List En) (x : En) (n : Nat) : Prop where
  le : n ≤ L.length
  lo : ∀ j f, L[j]? = some f → j < n → ltE f x
  hi : ∀ j f, L[j]? = some f → n ≤ j → ¬ ltE f x
theorem PlaceOf.mem {L : List En} {x : En} {n : Nat} (p : PlaceOf L x n) (o : L.Pairwise ltE) : L[n]? = some x ↔ x ∈ L := by
  constructor
  · exact List.mem_of_getElem?
  · intro hm
    obtain ⟨j, hj, rfl⟩ := List.mem_iff_getElem.mp hm
    have e : L[j]? = some L[j] := List.getElem?_eq_getElem hj
    by_cases h1 : j < n
    · exact absurd (p.lo j _ e h1) (ltE_irrefl _)
    · by_cases h2 : j = n
      · rw [← h2]; exact e
      · have hn : n < L.length := by omega
        have := p.hi n L[n] (List.getElem?_eq_getElem hn) (Nat.le_refl _)
        exact absurd (List.pairwise_iff_getElem.mp o n j hn hj (by omega)) this
theorem PlaceOf.ins {L : List En} {x : En} {n : Nat} (p : PlaceOf L x n) (o : L.Pairwise ltE) (hx : x ∉ L) : (L.take n ++ x :: L.drop n).Pairwise ltE := by
  have ho := o
  rw [← List.take_append_drop n L, List.pairwise_append] at ho
  obtain ⟨o1, o2, o3⟩ := ho
  have h1 : ∀ f ∈ L.take n, ltE f x := fun f hf => by
    obtain ⟨j, hj, rfl⟩ := List.mem_iff_getElem.mp hf
    rw [List.length_take] at hj
    rw [List.getElem_take]
    exact p.lo j _ (List.getElem?_eq_getElem (by omega)) (by omega)
  have h2 : ∀ f ∈ L.drop n, ltE x f := fun f hf => by
    obtain ⟨j, hj, rfl⟩ := List.mem_iff_getElem.mp hf
    rw [List.length_drop] at hj
    rw [List.getElem_drop]
    have q := p.hi (n + j) _ (List.getElem?_eq_getElem (by omega)) (by omega)
    by_cases z : ltE x L[n + j]
    · exact z
    · exact absurd (ltE_total z q ▸ List.getElem_mem (by omega)) hx
  rw [List.pairwise_append]
  refine ⟨o1, List.pairwise_cons.mpr ⟨h2, o2⟩, fun a ha b hb => ?_⟩
  rcases List.mem_cons.mp hb with z | z
  · subst z; exact h1 a ha
  · exact o3 a ha b z
def insE (L : List En) (x : En) (n : Nat) : List En := L.take n ++ x :: L.drop n
theorem ins_perm (L : List En) (x : En) (n : Nat) : (insE L x n).Perm (x :: L) := by
  have := List.perm_middle (a := x) (l₁ := L.take n) (l₂ := L.drop n)
  rw [List.take_append_drop] at this
  exact this
/-- the second part -/
def sec (k : Bool) (x : En) : U := if k = true then .tup [.int x.2.1, .int x.2.2] else .int x.2.1
theorem ent_tup {k : Bool} {x : En} : ent k x = .tup [.int x.1, sec k x] := by cases k <;> rfl
theorem put_spec {d : Nat} {k : Bool} {h : AH} {i e : Nat} {L : List En} {x : En} (I : IdxAt k h i e L) (hx : GoodE k x) (hz : L.length < 1000) :
    (call prg (d + 2) .Index_put [.ref i, .int x.1, sec k x] h).W (fun u h' => u = .non ∧ x ∉ L ∧ ∃ L' : List En, L'.Perm (x :: L) ∧ L'.Pairwise ltE ∧ h' = h.set e (.lst (L'.map (ent k)))) (fun c fs h' => c = .NoEntry ∧ x ∈ L ∧ h' = h) := by
  have hI := getI_of I.obj
  have hL := getL_of I.lst
  refine call_W (F := f_Index_put) rfl rfl ?_
  show (evSs prg ⟨call prg (d + 1), none⟩ b_Index_put [some (.ref i), some (.int x.1), some (sec k x), none] h).W _
  unfold b_Index_put
  try simp only [ss_cons, e_xisi, e_comp0, e_compIf0, s_for0, e_new0, e_meth0, e_bi0, e_call0, e_lc, e_cu, e_gl, e_bin, e_neg, e_nt, e_an, e_or, e_cmp, e_chain, e_ife, ws_nil, ws_cons, e_isi, e_fld, e_sub, e_tup, e_lst, e_slc, s_asg, s_one, s_fld, s_sub, s_ex, s_ret, s_brk, s_cnt, s_pass, s_ite, ss_nil, W_ok, W_opt, b_add, b_sub, b_mul, b_div, b_mod, b_pow, sub_tup, sub_ref, at_0, at_1, at_2, ix_1_0, ix_2_0, ix_2_1, ix_3_0, ix_3_1, ix_3_2, ix_4_0, ix_4_1, ix_4_2, ix_4_3, ix_5_0, ix_5_1, ix_5_2, ix_5_3, ix_5_4, ix_6_0, ix_6_1, ix_6_2, ix_6_3, ix_6_4, ix_6_5, i_max, i_min, i_abs, i_int, i_intb, i_len_tup, bindT, setAll, cmp_eq_int, cmp_ne_int, cmp_lt_int, cmp_gt_int, cmp_le_int, cmp_ge_int, cmp_eq_bl, cmp_ne_bl, cmp_eq_str, cmp_ne_str, cmp_is, cmp_isnot, List.length_cons, List.length_nil, Int.toNat_zero, Int.toNat_one, Option.some.injEq, U.bl.injEq, U.int.injEq, U.ref.injEq, U.tup.injEq, exists_eq_left', Option.bind_some, List.getElem?_cons_zero, List.getElem?_cons_succ, List.set_cons_zero, List.set_cons_succ, decide_eq_true_eq, decide_eq_false_iff_not, e_meth0, hI]
  refine .inl ⟨_, _, _, I.obj, rfl, rfl, rfl, by decide, ?_⟩
  rw [← ent_tup]
  refine W_no (place_spec I hx) ?_
  rintro u h' ⟨rfl, n, rfl, p1, p2, p3⟩
  have p : PlaceOf L x n := ⟨p1, p2, p3⟩
  refine .inl ⟨_, _, _, I.obj, rfl, rfl, rfl, by decide, ?_⟩
  refine W_no (stands_spec I hx) ?_
  rintro u h'' ⟨rfl, rfl⟩
  try simp only [ss_cons, e_xisi, e_comp0, e_compIf0, s_for0, e_new0, e_meth0, e_bi0, e_call0, e_lc, e_cu, e_gl, e_bin, e_neg, e_nt, e_an, e_or, e_cmp, e_chain, e_ife, ws_nil, ws_cons, e_isi, e_fld, e_sub, e_tup, e_lst, e_slc, s_asg, s_one, s_fld, s_sub, s_ex, s_ret, s_brk, s_cnt, s_pass, s_ite, ss_nil, W_ok, W_opt, b_add, b_sub, b_mul, b_div, b_mod, b_pow, sub_tup, sub_ref, at_0, at_1, at_2, ix_1_0, ix_2_0, ix_2_1, ix_3_0, ix_3_1, ix_3_2, ix_4_0, ix_4_1, ix_4_2, ix_4_3, ix_5_0, ix_5_1, ix_5_2, ix_5_3, ix_5_4, ix_6_0, ix_6_1, ix_6_2, ix_6_3, ix_6_4, ix_6_5, i_max, i_min, i_abs, i_int, i_intb, i_len_tup, bindT, setAll, cmp_eq_int, cmp_ne_int, cmp_lt_int, cmp_gt_int, cmp_le_int, cmp_ge_int, cmp_eq_bl, cmp_ne_bl, cmp_eq_str, cmp_ne_str, cmp_is, cmp_isnot, List.length_cons, List.length_nil, Int.toNat_zero, Int.toNat_one, Option.some.injEq, U.bl.injEq, U.int.injEq, U.ref.injEq, U.tup.injEq, exists_eq_left', Option.bind_some, List.getElem?_cons_zero, List.getElem?_cons_succ, List.set_cons_zero, List.set_cons_succ, decide_eq_true_eq, decide_eq_false_iff_not, hI]
  refine ⟨fun hc => ?_, fun hc => ?_⟩
  · rw [s_raise rfl rfl]
    exact ⟨rfl, (p.mem I.ord).mp hc, rfl⟩
  · have hm : x ∉ L := fun z => hc ((p.mem I.ord).mpr z)
    refine ⟨by decide, .ref e, rfl, e, rfl, .inr ⟨_, I.lst, rfl, by decide, ?_⟩⟩
    unfold mtL
    rw [getM_of I.lst]
    simp only
    have hs : sln = 16777216 := PySem.sizeLine_eq
    rw [if_pos ⟨by omega, by rw [List.length_map]; omega, by rw [List.length_map]; omega⟩, W_ok]
    refine ⟨trivial, hm, insE L x n, ins_perm L x n, p.ins I.ord hm, ?_⟩
    unfold insE
    rw [Int.toNat_natCast, List.map_append, List.map_cons, List.map_take, List.map_drop]
theorem take_spec {d : Nat} {k : Bool} {h : AH} {i e : Nat} {L : List En} {x : En} (I : IdxAt k h i e L) (hx : GoodE k x) (hz : L.length < 1000) :
    (call prg (d + 2) .Index_take [.ref i, .int x.1, sec k x] h).W (fun u h' => u = .non ∧ x ∈ L ∧ ∃ L' : List En, L.Perm (x :: L') ∧ L'.Pairwise ltE ∧ h' = h.set e (.lst (L'.map (ent k)))) (fun c fs h' => c = .NoEntry ∧ x ∉ L ∧ h' = h) := by
  have hI := getI_of I.obj
  have hL := getL_of I.lst
  refine call_W (F := f_Index_take) rfl rfl ?_
  show (evSs prg ⟨call prg (d + 1), none⟩ b_Index_take [some (.ref i), some (.int x.1), some (sec k x), none] h).W _
  unfold b_Index_take
  try simp only [ss_cons, e_xisi, e_comp0, e_compIf0, s_for0, e_new0, e_meth0, e_bi0, e_call0, e_lc, e_cu, e_gl, e_bin, e_neg, e_nt, e_an, e_or, e_cmp, e_chain, e_ife, ws_nil, ws_cons, e_isi, e_fld, e_sub, e_tup, e_lst, e_slc, s_asg, s_one, s_fld, s_sub, s_ex, s_ret, s_brk, s_cnt, s_pass, s_ite, ss_nil, W_ok, W_opt, b_add, b_sub, b_mul, b_div, b_mod, b_pow, sub_tup, sub_ref, at_0, at_1, at_2, ix_1_0, ix_2_0, ix_2_1, ix_3_0, ix_3_1, ix_3_2, ix_4_0, ix_4_1, ix_4_2, ix_4_3, ix_5_0, ix_5_1, ix_5_2, ix_5_3, ix_5_4, ix_6_0, ix_6_1, ix_6_2, ix_6_3, ix_6_4, ix_6_5, i_max, i_min, i_abs, i_int, i_intb, i_len_tup, bindT, setAll, cmp_eq_int, cmp_ne_int, cmp_lt_int, cmp_gt_int, cmp_le_int, cmp_ge_int, cmp_eq_bl, cmp_ne_bl, cmp_eq_str, cmp_ne_str, cmp_is, cmp_isnot, List.length_cons, List.length_nil, Int.toNat_zero, Int.toNat_one, Option.some.injEq, U.bl.injEq, U.int.injEq, U.ref.injEq, U.tup.injEq, exists_eq_left', Option.bind_some, List.getElem?_cons_zero, List.getElem?_cons_succ, List.set_cons_zero, List.set_cons_succ, decide_eq_true_eq, decide_eq_false_iff_not, e_meth0, hI]
  refine .inl ⟨_, _, _, I.obj, rfl, rfl, rfl, by decide, ?_⟩
  rw [← ent_tup]
  refine W_no (place_spec I hx) ?_
  rintro u h' ⟨rfl, n, rfl, p1, p2, p3⟩
  have p : PlaceOf L x n := ⟨p1, p2, p3⟩
  refine .inl ⟨_, _, _, I.obj, rfl, rfl, rfl, by decide, ?_⟩
  refine W_no (stands_spec I hx) ?_
  rintro u h'' ⟨rfl, rfl⟩
  try simp only [ss_cons, e_xisi, e_comp0, e_compIf0, s_for0, e_new0, e_meth0, e_bi0, e_call0, e_lc, e_cu, e_gl, e_bin, e_neg, e_nt, e_an, e_or, e_cmp, e_chain, e_ife, ws_nil, ws_cons, e_isi, e_fld, e_sub, e_tup, e_lst, e_slc, s_asg, s_one, s_fld, s_sub, s_ex, s_ret, s_brk, s_cnt, s_pass, s_ite, ss_nil, W_ok, W_opt, b_add, b_sub, b_mul, b_div, b_mod, b_pow, sub_tup, sub_ref, at_0, at_1, at_2, ix_1_0, ix_2_0, ix_2_1, ix_3_0, ix_3_1, ix_3_2, ix_4_0, ix_4_1, ix_4_2, ix_4_3, ix_5_0, ix_5_1, ix_5_2, ix_5_3, ix_5_4, ix_6_0, ix_6_1, ix_6_2, ix_6_3, ix_6_4, ix_6_5, i_max, i_min, i_abs, i_int, i_intb, i_len_tup, bindT, setAll, cmp_eq_int, cmp_ne_int, cmp_lt_int, cmp_gt_int, cmp_le_int, cmp_ge_int, cmp_eq_bl, cmp_ne_bl, cmp_eq_str, cmp_ne_str, cmp_is, cmp_isnot, List.length_cons, List.length_nil, Int.toNat_zero, Int.toNat_one, Option.some.injEq, U.bl.injEq, U.int.injEq, U.ref.injEq, U.tup.injEq, exists_eq_left', Option.bind_some, List.getElem?_cons_zero, List.getElem?_cons_succ, List.set_cons_zero, List.set_cons_succ, decide_eq_true_eq, decide_eq_false_iff_not, hI]
  refine ⟨fun hc => ?_, fun hc => ?_⟩
  · have hc : L[n]? ≠ some x := by simpa using hc
    rw [s_raise rfl rfl]
    exact ⟨rfl, fun z => hc ((p.mem I.ord).mpr z), rfl⟩
  · have hc : L[n]? = some x := by simpa using hc
    have hm : x ∈ L := (p.mem I.ord).mp hc
    obtain ⟨hn, hne⟩ := List.getElem?_eq_some_iff.mp hc
    refine ⟨by decide, .ref e, rfl, e, rfl, .inr ⟨_, I.lst, rfl, ?_⟩⟩
    unfold mtL
    rw [getM_of I.lst]
    simp only
    rw [if_pos (by omega), List.length_map, ix_nat hn]
    simp only [List.getElem?_map, hc, Option.map_some, W_ok]
    refine ⟨trivial, hm, L.eraseIdx n, ?_, ?_, ?_⟩
    · have := (List.perm_middle (a := L[n]) (l₁ := L.take n) (l₂ := L.drop (n + 1)))
      rw [← List.drop_eq_getElem_cons hn, List.take_append_drop, ← List.eraseIdx_eq_take_drop_succ, hne] at this
      exact this
    · exact I.ord.sublist (List.eraseIdx_sublist L n)
    · rw [List.eraseIdx_eq_take_drop_succ, List.eraseIdx_eq_take_drop_succ, List.map_append, List.map_take, List.map_drop]
/-- the first at or behind a value -/
structure FirstFrom (L : List En) (v : Int) (n : Nat) : Prop where
  le : n ≤ L.length
  lo : ∀ j f, L[j]? = some f → j < n → f.1 < v
  hi : ∀ j f, L[j]? = some f → n ≤ j → v ≤ f.1
theorem ent_at0 {k : Bool} {f : En} {h : AH} : subop (ent k f) (.int 0) h = some (.int f.1) := by cases k <;> rfl
theorem first_spec {d : Nat} {k : Bool} {h : AH} {i e : Nat} {L : List En} {v : Int} (I : IdxAt k h i e L) :
    (call prg (d + 1) .Index_first_from [.ref i, .int v] h).W (fun u h' => h' = h ∧ ∃ n : Nat, u = .int n ∧ FirstFrom L v n) noX := by
  have hI := getI_of I.obj
  have hL := getL_of I.lst
  have hlen : ∀ {Q : U → AH → Prop} {Z : XW}, (biop .len [.ref e] h).W Q Z = Q (.int L.length) h := fun {Q Z} => by rw [i_len_ref hL, List.length_map]
  refine call_W (F := f_Index_first_from) rfl rfl ?_
  show (evSs prg ⟨call prg d, none⟩ b_Index_first_from [some (.ref i), some (.int v), none, none, none] h).W _
  unfold b_Index_first_from
  try simp only [ss_cons, e_xisi, e_comp0, e_compIf0, s_for0, e_new0, e_meth0, e_bi0, e_call0, e_lc, e_cu, e_gl, e_bin, e_neg, e_nt, e_an, e_or, e_cmp, e_chain, e_ife, ws_nil, ws_cons, e_isi, e_fld, e_sub, e_tup, e_lst, e_slc, s_asg, s_one, s_fld, s_sub, s_ex, s_ret, s_brk, s_cnt, s_pass, s_ite, ss_nil, W_ok, W_opt, b_add, b_sub, b_mul, b_div, b_mod, b_pow, sub_tup, sub_ref, at_0, at_1, at_2, ix_1_0, ix_2_0, ix_2_1, ix_3_0, ix_3_1, ix_3_2, ix_4_0, ix_4_1, ix_4_2, ix_4_3, ix_5_0, ix_5_1, ix_5_2, ix_5_3, ix_5_4, ix_6_0, ix_6_1, ix_6_2, ix_6_3, ix_6_4, ix_6_5, i_max, i_min, i_abs, i_int, i_intb, i_len_tup, bindT, setAll, cmp_eq_int, cmp_ne_int, cmp_lt_int, cmp_gt_int, cmp_le_int, cmp_ge_int, cmp_eq_bl, cmp_ne_bl, cmp_eq_str, cmp_ne_str, cmp_is, cmp_isnot, List.length_cons, List.length_nil, Int.toNat_zero, Int.toNat_one, Option.some.injEq, U.bl.injEq, U.int.injEq, U.ref.injEq, U.tup.injEq, exists_eq_left', Option.bind_some, List.getElem?_cons_zero, List.getElem?_cons_succ, List.set_cons_zero, List.set_cons_succ, decide_eq_true_eq, decide_eq_false_iff_not, hI, hlen]
  refine ⟨by decide, .ref e, by rfl, ?_⟩
  rw [hlen]
  refine whl_W rfl (fun m ρ h' => h' = h ∧ ∃ (lo hi : Nat) (z : Option U), ρ = [some (.ref i), some (.int v), some (.int lo), some (.int hi), z] ∧ lo ≤ hi ∧ hi ≤ L.length ∧ m = hi - lo ∧ (∀ j f, L[j]? = some f → j < lo → f.1 < v) ∧ (∀ j f, L[j]? = some f → hi ≤ j → v ≤ f.1)) L.length ?_ ?_
  · exact ⟨rfl, 0, L.length, none, rfl, Nat.zero_le _, Nat.le_refl _, rfl, fun j f _ z => absurd z (Nat.not_lt_zero _), fun j f e z => absurd (List.getElem?_eq_some_iff.mp e).1 (by omega)⟩
  · rintro m ρ h' ⟨rfl, lo, hi, z, rfl, h1, h2, rfl, h3, h4⟩
    try simp only [e_xisi, e_comp0, e_compIf0, s_for0, e_new0, e_meth0, e_bi0, e_call0, e_lc, e_cu, e_gl, e_bin, e_neg, e_nt, e_an, e_or, e_cmp, e_chain, e_ife, ws_nil, ws_cons, e_isi, e_fld, e_sub, e_tup, e_lst, e_slc, s_asg, s_one, s_fld, s_sub, s_ex, s_ret, s_brk, s_cnt, s_pass, s_ite, ss_nil, W_ok, W_opt, b_add, b_sub, b_mul, b_div, b_mod, b_pow, sub_tup, sub_ref, at_0, at_1, at_2, ix_1_0, ix_2_0, ix_2_1, ix_3_0, ix_3_1, ix_3_2, ix_4_0, ix_4_1, ix_4_2, ix_4_3, ix_5_0, ix_5_1, ix_5_2, ix_5_3, ix_5_4, ix_6_0, ix_6_1, ix_6_2, ix_6_3, ix_6_4, ix_6_5, i_max, i_min, i_abs, i_int, i_intb, i_len_tup, bindT, setAll, cmp_eq_int, cmp_ne_int, cmp_lt_int, cmp_gt_int, cmp_le_int, cmp_ge_int, cmp_eq_bl, cmp_ne_bl, cmp_eq_str, cmp_ne_str, cmp_is, cmp_isnot, List.length_cons, List.length_nil, Int.toNat_zero, Int.toNat_one, Option.some.injEq, U.bl.injEq, U.int.injEq, U.ref.injEq, U.tup.injEq, exists_eq_left', Option.bind_some, List.getElem?_cons_zero, List.getElem?_cons_succ, List.set_cons_zero, List.set_cons_succ, decide_eq_true_eq, decide_eq_false_iff_not, hI]
    by_cases hlt : (lo : Int) < hi
    · left
      refine ⟨hlt, ?_⟩
      have hmid : (lo + hi) / 2 < L.length := by omega
      obtain ⟨f, hf⟩ : ∃ f, L[(lo + hi) / 2]? = some f := ⟨_, List.getElem?_eq_getElem hmid⟩
      have hat : (L.map (ent k))[(lo + hi) / 2]? = some (ent k f) := by rw [List.getElem?_map, hf]; rfl
      try simp only [ss_cons, e_xisi, e_comp0, e_compIf0, s_for0, e_new0, e_meth0, e_bi0, e_call0, e_lc, e_cu, e_gl, e_bin, e_neg, e_nt, e_an, e_or, e_cmp, e_chain, e_ife, ws_nil, ws_cons, e_isi, e_fld, e_sub, e_tup, e_lst, e_slc, s_asg, s_one, s_fld, s_sub, s_ex, s_ret, s_brk, s_cnt, s_pass, s_ite, ss_nil, W_ok, W_opt, b_add, b_sub, b_mul, b_div, b_mod, b_pow, sub_tup, sub_ref, at_0, at_1, at_2, ix_1_0, ix_2_0, ix_2_1, ix_3_0, ix_3_1, ix_3_2, ix_4_0, ix_4_1, ix_4_2, ix_4_3, ix_5_0, ix_5_1, ix_5_2, ix_5_3, ix_5_4, ix_6_0, ix_6_1, ix_6_2, ix_6_3, ix_6_4, ix_6_5, i_max, i_min, i_abs, i_int, i_intb, i_len_tup, bindT, setAll, cmp_eq_int, cmp_ne_int, cmp_lt_int, cmp_gt_int, cmp_le_int, cmp_ge_int, cmp_eq_bl, cmp_ne_bl, cmp_eq_str, cmp_ne_str, cmp_is, cmp_isnot, List.length_cons, List.length_nil, Int.toNat_zero, Int.toNat_one, Option.some.injEq, U.bl.injEq, U.int.injEq, U.ref.injEq, U.tup.injEq, exists_eq_left', Option.bind_some, List.getElem?_cons_zero, List.getElem?_cons_succ, List.set_cons_zero, List.set_cons_succ, decide_eq_true_eq, decide_eq_false_iff_not, hI]
      refine ⟨half_big, by decide, .ref e, rfl, ?_⟩
      rw [half_nat, sub_ref, hL]
      simp only [Option.bind_some, at_nat, hat, Option.some.injEq, exists_eq_left', ent_at0, cmp_lt_int, U.bl.injEq, decide_eq_true_eq, decide_eq_false_iff_not]
      have mono : ∀ {a b : Nat} {p q : En}, L[a]? = some p → L[b]? = some q → a < b → p.1 ≤ q.1 := fun {a b p q} ha hb hab => by
        obtain ⟨ha1, ha2⟩ := List.getElem?_eq_some_iff.mp ha
        obtain ⟨hb1, hb2⟩ := List.getElem?_eq_some_iff.mp hb
        have := List.pairwise_iff_getElem.mp I.ord a b ha1 hb1 hab
        rw [ha2, hb2] at this
        unfold ltE at this
        omega
      refine ⟨fun hc => ?_, fun hc => ?_⟩
      · refine ⟨hi - ((lo + hi) / 2 + 1), by omega, trivial, (lo + hi) / 2 + 1, hi, _, rfl, by omega, h2, rfl, fun j g hj hlt2 => ?_, h4⟩
        by_cases q : j < (lo + hi) / 2
        · exact Int.lt_of_le_of_lt (mono hj hf q) hc
        · have : j = (lo + hi) / 2 := by omega
          subst this
          rw [hf] at hj
          cases hj
          exact hc
      · refine ⟨(lo + hi) / 2 - lo, by omega, trivial, lo, (lo + hi) / 2, _, rfl, by omega, by omega, rfl, h3, fun j g hj hle => ?_⟩
        by_cases q2 : (lo + hi) / 2 < j
        · have := mono hf hj q2
          omega
        · have : j = (lo + hi) / 2 := by omega
          subst this
          rw [hf] at hj
          cases hj
          omega
    · right
      refine ⟨hlt, ?_⟩
      have e1 : lo = hi := by omega
      subst e1
      exact ⟨trivial, lo, rfl, h2, h3, h4⟩
/-- a bound: None, or a number -/
def bnd : Option Int → U
  | none => .non
  | some v => .int v
def loB (lo : Option Int) (x : Int) : Bool := match lo with
    | none => true
    | some v => decide (v ≤ x)
def hiB (hi : Option Int) (x : Int) : Bool := match hi with
    | none => true
    | some v => decide (x ≤ v)
def inB (lo hi : Option Int) (f : En) : Bool := loB lo f.1 && hiB hi f.1
def LoOk (L : List En) (lo : Option Int) (a : Nat) : Prop := match lo with
    | none => a = 0
    | some v => FirstFrom L v a
def HiOk (L : List En) (hi : Option Int) (b : Nat) : Prop := match hi with
    | none => b = L.length
    | some v => FirstFrom L (v + 1) b
theorem cut_eq {L : List En} {lo hi : Option Int} {a b : Nat} (ha : LoOk L lo a) (hb : HiOk L hi b) : (L.drop a).take (b - a) = L.filter (inB lo hi) := by
  have key : ∀ j f, L[j]? = some f → (inB lo hi f = true ↔ a ≤ j ∧ j < b) := fun j f hj => by
    have hj2 := (List.getElem?_eq_some_iff.mp hj).1
    have h1 : loB lo f.1 = true ↔ a ≤ j := by
      cases lo with
      | none => have ha : a = 0 := ha; exact ⟨fun _ => by omega, fun _ => rfl⟩
      | some v =>
        have ha : FirstFrom L v a := ha
        show decide (v ≤ f.1) = true ↔ _
        rw [decide_eq_true_eq]
        constructor
        · intro z
          by_cases q : j < a
          · have := ha.lo j f hj q; omega
          · omega
        · exact fun z => ha.hi j f hj z
    have h2 : hiB hi f.1 = true ↔ j < b := by
      cases hi with
      | none => have hb : b = L.length := hb; exact ⟨fun _ => by omega, fun _ => rfl⟩
      | some v =>
        have hb : FirstFrom L (v + 1) b := hb
        show decide (f.1 ≤ v) = true ↔ _
        rw [decide_eq_true_eq]
        constructor
        · intro z
          by_cases q : b ≤ j
          · have := hb.hi j f hj q; omega
          · omega
        · intro z
          have := hb.lo j f hj z
          omega
    unfold inB
    rw [Bool.and_eq_true, h1, h2]
  have gen : ∀ (M : List En) (a b : Nat) (p : En → Bool), (∀ j f, M[j]? = some f → (p f = true ↔ a ≤ j ∧ j < b)) → (M.drop a).take (b - a) = M.filter p := by
    intro M
    induction M with
    | nil => intro a b p _; simp
    | cons f M ih =>
      intro a b p hp
      have h0 := hp 0 f rfl
      have hr : ∀ j g, M[j]? = some g → (p g = true ↔ a - 1 ≤ j ∧ j < b - 1) := fun j g hj => by
        have := hp (j + 1) g (by simpa using hj)
        rw [this]
        cases a with
        | zero =>
          constructor
          · rintro ⟨_, z⟩; omega
          · rintro ⟨_, z⟩; omega
        | succ a => omega
      cases a with
      | zero =>
        by_cases hb0 : 0 < b
        · have hpf : p f = true := h0.mpr ⟨Nat.le_refl _, hb0⟩
          obtain ⟨b', rfl⟩ : ∃ b', b = b' + 1 := ⟨b - 1, by omega⟩
          have := ih 0 b' p hr
          rw [List.filter_cons_of_pos hpf, ← this]
          simp
        · have hpf : ¬ p f = true := fun z => hb0 (h0.mp z).2
          have : b = 0 := by omega
          subst this
          have := ih 0 0 p hr
          rw [List.filter_cons_of_neg hpf, ← this]
          simp
      | succ a =>
        have hpf : ¬ p f = true := fun z => absurd (h0.mp z).1 (by omega)
        have := ih a (b - 1) p hr
        rw [List.filter_cons_of_neg hpf, ← this, List.drop_succ_cons]
        congr 1
        omega
  exact gen L a b _ key
theorem between_spec {d : Nat} {k : Bool} {h : AH} {i e : Nat} {L : List En} {lo hi : Option Int} (I : IdxAt k h i e L) :
    (call prg (d + 2) .Index_between [.ref i, bnd lo, bnd hi] h).W (fun u h' => u = .ref h.length ∧ h' = h ++ [.lst ((L.filter (inB lo hi)).map (ent k))]) noX := by
  have hI := getI_of I.obj
  have hL := getL_of I.lst
  have hlen : ∀ {Q : U → AH → Prop} {Z : XW}, (biop .len [.ref e] h).W Q Z = Q (.int L.length) h := fun {Q Z} => by rw [i_len_ref hL, List.length_map]
  refine call_W (F := f_Index_between) rfl rfl ?_
  show (evSs prg ⟨call prg (d + 1), none⟩ b_Index_between [some (.ref i), some (bnd lo), some (bnd hi), none, none] h).W _
  unfold b_Index_between
  rw [ss_cons]
  try simp only [e_xisi, e_comp0, e_compIf0, s_for0, e_new0, e_meth0, e_bi0, e_call0, e_lc, e_cu, e_gl, e_bin, e_neg, e_nt, e_an, e_or, e_cmp, e_chain, e_ife, ws_nil, ws_cons, e_isi, e_fld, e_sub, e_tup, e_lst, e_slc, s_asg, s_one, s_fld, s_sub, s_ex, s_ret, s_brk, s_cnt, s_pass, s_ite, ss_nil, W_ok, W_opt, b_add, b_sub, b_mul, b_div, b_mod, b_pow, sub_tup, sub_ref, at_0, at_1, at_2, ix_1_0, ix_2_0, ix_2_1, ix_3_0, ix_3_1, ix_3_2, ix_4_0, ix_4_1, ix_4_2, ix_4_3, ix_5_0, ix_5_1, ix_5_2, ix_5_3, ix_5_4, ix_6_0, ix_6_1, ix_6_2, ix_6_3, ix_6_4, ix_6_5, i_max, i_min, i_abs, i_int, i_intb, i_len_tup, bindT, setAll, cmp_eq_int, cmp_ne_int, cmp_lt_int, cmp_gt_int, cmp_le_int, cmp_ge_int, cmp_eq_bl, cmp_ne_bl, cmp_eq_str, cmp_ne_str, cmp_is, cmp_isnot, List.length_cons, List.length_nil, Int.toNat_zero, Int.toNat_one, Option.some.injEq, U.bl.injEq, U.int.injEq, U.ref.injEq, U.tup.injEq, exists_eq_left', Option.bind_some, List.getElem?_cons_zero, List.getElem?_cons_succ, List.set_cons_zero, List.set_cons_succ, decide_eq_true_eq, decide_eq_false_iff_not]
  rw [ss_cons]
  try simp only [e_xisi, e_comp0, e_compIf0, s_for0, e_new0, e_meth0, e_bi0, e_call0, e_lc, e_cu, e_gl, e_bin, e_neg, e_nt, e_an, e_or, e_cmp, e_chain, e_ife, ws_nil, ws_cons, e_isi, e_fld, e_sub, e_tup, e_lst, e_slc, s_asg, s_one, s_fld, s_sub, s_ex, s_ret, s_brk, s_cnt, s_pass, s_ite, ss_nil, W_ok, W_opt, b_add, b_sub, b_mul, b_div, b_mod, b_pow, sub_tup, sub_ref, at_0, at_1, at_2, ix_1_0, ix_2_0, ix_2_1, ix_3_0, ix_3_1, ix_3_2, ix_4_0, ix_4_1, ix_4_2, ix_4_3, ix_5_0, ix_5_1, ix_5_2, ix_5_3, ix_5_4, ix_6_0, ix_6_1, ix_6_2, ix_6_3, ix_6_4, ix_6_5, i_max, i_min, i_abs, i_int, i_intb, i_len_tup, bindT, setAll, cmp_eq_int, cmp_ne_int, cmp_lt_int, cmp_gt_int, cmp_le_int, cmp_ge_int, cmp_eq_bl, cmp_ne_bl, cmp_eq_str, cmp_ne_str, cmp_is, cmp_isnot, List.length_cons, List.length_nil, Int.toNat_zero, Int.toNat_one, Option.some.injEq, U.bl.injEq, U.int.injEq, U.ref.injEq, U.tup.injEq, exists_eq_left', Option.bind_some, List.getElem?_cons_zero, List.getElem?_cons_succ, List.set_cons_zero, List.set_cons_succ, decide_eq_true_eq, decide_eq_false_iff_not, hI]
  refine ⟨by decide, .ref e, rfl, ?_⟩
  rw [hlen]
  have fin : ∀ (a b : Nat), LoOk L lo a → HiOk L hi b → (evSs prg ⟨call prg (d + 1), none⟩ [.ret (.slc (.fld (.lc 0) .entries) [.lc 3] [.lc 4])] [some (.ref i), some (bnd lo), some (bnd hi), some (.int a), some (.int b)] h).W { nx := fun _ h' => U.non = .ref h.length ∧ h' = h ++ [.lst ((L.filter (inB lo hi)).map (ent k))], rt := fun u h' => u = .ref h.length ∧ h' = h ++ [.lst ((L.filter (inB lo hi)).map (ent k))], xc := fun c fs _ h => noX c fs h } := fun a b ha hb => by
    try simp only [ss_cons, e_xisi, e_comp0, e_compIf0, s_for0, e_new0, e_meth0, e_bi0, e_call0, e_lc, e_cu, e_gl, e_bin, e_neg, e_nt, e_an, e_or, e_cmp, e_chain, e_ife, ws_nil, ws_cons, e_isi, e_fld, e_sub, e_tup, e_lst, e_slc, s_asg, s_one, s_fld, s_sub, s_ex, s_ret, s_brk, s_cnt, s_pass, s_ite, ss_nil, W_ok, W_opt, b_add, b_sub, b_mul, b_div, b_mod, b_pow, sub_tup, sub_ref, at_0, at_1, at_2, ix_1_0, ix_2_0, ix_2_1, ix_3_0, ix_3_1, ix_3_2, ix_4_0, ix_4_1, ix_4_2, ix_4_3, ix_5_0, ix_5_1, ix_5_2, ix_5_3, ix_5_4, ix_6_0, ix_6_1, ix_6_2, ix_6_3, ix_6_4, ix_6_5, i_max, i_min, i_abs, i_int, i_intb, i_len_tup, bindT, setAll, cmp_eq_int, cmp_ne_int, cmp_lt_int, cmp_gt_int, cmp_le_int, cmp_ge_int, cmp_eq_bl, cmp_ne_bl, cmp_eq_str, cmp_ne_str, cmp_is, cmp_isnot, List.length_cons, List.length_nil, Int.toNat_zero, Int.toNat_one, Option.some.injEq, U.bl.injEq, U.int.injEq, U.ref.injEq, U.tup.injEq, exists_eq_left', Option.bind_some, List.getElem?_cons_zero, List.getElem?_cons_succ, List.set_cons_zero, List.set_cons_succ, decide_eq_true_eq, decide_eq_false_iff_not, hI]
    refine ⟨by decide, .ref e, rfl, some a, rfl, some b, rfl, ?_⟩
    unfold slcop
    simp only [hL]
    have hal : a ≤ L.length := by
      cases lo with
      | none => have ha : a = 0 := ha; omega
      | some v => have ha : FirstFrom L v a := ha; exact ha.le
    have hbl : b ≤ L.length := by
      cases hi with
      | none => have hb : b = L.length := hb; omega
      | some v => have hb : FirstFrom L (v + 1) b := hb; exact hb.le
    unfold newOb
    rw [W_ok]
    refine ⟨rfl, ?_⟩
    unfold cutU
    rw [HT.sIx_nat, HT.sIx_nat, List.length_map, Nat.min_eq_left hal, Nat.min_eq_left hbl, ← List.map_drop, ← List.map_take, cut_eq ha hb]
  have hiPart : ∀ (a : Nat), LoOk L lo a → (evSs prg ⟨call prg (d + 1), none⟩ [.ite (.cmp .isnot (.lc 2) (.cu .non)) [.asg (.one 4) (.meth (.lc 0) .first_from [.bin .add (.lc 2) (.cu (.int 1))])] [], .ret (.slc (.fld (.lc 0) .entries) [.lc 3] [.lc 4])] [some (.ref i), some (bnd lo), some (bnd hi), some (.int a), some (.int L.length)] h).W { nx := fun _ h' => U.non = .ref h.length ∧ h' = h ++ [.lst ((L.filter (inB lo hi)).map (ent k))], rt := fun u h' => u = .ref h.length ∧ h' = h ++ [.lst ((L.filter (inB lo hi)).map (ent k))], xc := fun c fs _ h => noX c fs h } := fun a ha => by
    rw [ss_cons]
    try simp only [e_xisi, e_comp0, e_compIf0, s_for0, e_new0, e_meth0, e_bi0, e_call0, e_lc, e_cu, e_gl, e_bin, e_neg, e_nt, e_an, e_or, e_cmp, e_chain, e_ife, ws_nil, ws_cons, e_isi, e_fld, e_sub, e_tup, e_lst, e_slc, s_asg, s_one, s_fld, s_sub, s_ex, s_ret, s_brk, s_cnt, s_pass, s_ite, ss_nil, W_ok, W_opt, b_add, b_sub, b_mul, b_div, b_mod, b_pow, sub_tup, sub_ref, at_0, at_1, at_2, ix_1_0, ix_2_0, ix_2_1, ix_3_0, ix_3_1, ix_3_2, ix_4_0, ix_4_1, ix_4_2, ix_4_3, ix_5_0, ix_5_1, ix_5_2, ix_5_3, ix_5_4, ix_6_0, ix_6_1, ix_6_2, ix_6_3, ix_6_4, ix_6_5, i_max, i_min, i_abs, i_int, i_intb, i_len_tup, bindT, setAll, cmp_eq_int, cmp_ne_int, cmp_lt_int, cmp_gt_int, cmp_le_int, cmp_ge_int, cmp_eq_bl, cmp_ne_bl, cmp_eq_str, cmp_ne_str, cmp_is, cmp_isnot, List.length_cons, List.length_nil, Int.toNat_zero, Int.toNat_one, Option.some.injEq, U.bl.injEq, U.int.injEq, U.ref.injEq, U.tup.injEq, exists_eq_left', Option.bind_some, List.getElem?_cons_zero, List.getElem?_cons_succ, List.set_cons_zero, List.set_cons_succ, decide_eq_true_eq, decide_eq_false_iff_not]
    refine ⟨fun hc => ?_, fun hc => ?_⟩
    · cases hi with
      | none => cases hc
      | some v =>
        rw [ss_cons]
        show (evS prg ⟨call prg (d + 1), none⟩ _ [some (.ref i), some (bnd lo), some (.int v), some (.int a), some (.int L.length)] h).W _
        try simp only [e_xisi, e_comp0, e_compIf0, s_for0, e_new0, e_meth0, e_bi0, e_call0, e_lc, e_cu, e_gl, e_bin, e_neg, e_nt, e_an, e_or, e_cmp, e_chain, e_ife, ws_nil, ws_cons, e_isi, e_fld, e_sub, e_tup, e_lst, e_slc, s_asg, s_one, s_fld, s_sub, s_ex, s_ret, s_brk, s_cnt, s_pass, s_ite, ss_nil, W_ok, W_opt, b_add, b_sub, b_mul, b_div, b_mod, b_pow, sub_tup, sub_ref, at_0, at_1, at_2, ix_1_0, ix_2_0, ix_2_1, ix_3_0, ix_3_1, ix_3_2, ix_4_0, ix_4_1, ix_4_2, ix_4_3, ix_5_0, ix_5_1, ix_5_2, ix_5_3, ix_5_4, ix_6_0, ix_6_1, ix_6_2, ix_6_3, ix_6_4, ix_6_5, i_max, i_min, i_abs, i_int, i_intb, i_len_tup, bindT, setAll, cmp_eq_int, cmp_ne_int, cmp_lt_int, cmp_gt_int, cmp_le_int, cmp_ge_int, cmp_eq_bl, cmp_ne_bl, cmp_eq_str, cmp_ne_str, cmp_is, cmp_isnot, List.length_cons, List.length_nil, Int.toNat_zero, Int.toNat_one, Option.some.injEq, U.bl.injEq, U.int.injEq, U.ref.injEq, U.tup.injEq, exists_eq_left', Option.bind_some, List.getElem?_cons_zero, List.getElem?_cons_succ, List.set_cons_zero, List.set_cons_succ, decide_eq_true_eq, decide_eq_false_iff_not, e_meth0]
        refine .inl ⟨_, _, _, I.obj, rfl, rfl, rfl, ?_⟩
        refine W_no (first_spec I) ?_
        rintro u h' ⟨rfl, n, rfl, hF⟩
        exact fin a n ha hF
    · cases hi with
      | none => exact fin a L.length ha rfl
      | some v => cases hc
  rw [ss_cons]
  try simp only [e_xisi, e_comp0, e_compIf0, s_for0, e_new0, e_meth0, e_bi0, e_call0, e_lc, e_cu, e_gl, e_bin, e_neg, e_nt, e_an, e_or, e_cmp, e_chain, e_ife, ws_nil, ws_cons, e_isi, e_fld, e_sub, e_tup, e_lst, e_slc, s_asg, s_one, s_fld, s_sub, s_ex, s_ret, s_brk, s_cnt, s_pass, s_ite, ss_nil, W_ok, W_opt, b_add, b_sub, b_mul, b_div, b_mod, b_pow, sub_tup, sub_ref, at_0, at_1, at_2, ix_1_0, ix_2_0, ix_2_1, ix_3_0, ix_3_1, ix_3_2, ix_4_0, ix_4_1, ix_4_2, ix_4_3, ix_5_0, ix_5_1, ix_5_2, ix_5_3, ix_5_4, ix_6_0, ix_6_1, ix_6_2, ix_6_3, ix_6_4, ix_6_5, i_max, i_min, i_abs, i_int, i_intb, i_len_tup, bindT, setAll, cmp_eq_int, cmp_ne_int, cmp_lt_int, cmp_gt_int, cmp_le_int, cmp_ge_int, cmp_eq_bl, cmp_ne_bl, cmp_eq_str, cmp_ne_str, cmp_is, cmp_isnot, List.length_cons, List.length_nil, Int.toNat_zero, Int.toNat_one, Option.some.injEq, U.bl.injEq, U.int.injEq, U.ref.injEq, U.tup.injEq, exists_eq_left', Option.bind_some, List.getElem?_cons_zero, List.getElem?_cons_succ, List.set_cons_zero, List.set_cons_succ, decide_eq_true_eq, decide_eq_false_iff_not]
  refine ⟨fun hc => ?_, fun hc => ?_⟩
  · cases lo with
    | none => cases hc
    | some v =>
      rw [ss_cons]
      show (evS prg ⟨call prg (d + 1), none⟩ _ [some (.ref i), some (.int v), some (bnd hi), some (.int 0), some (.int L.length)] h).W _
      try simp only [e_xisi, e_comp0, e_compIf0, s_for0, e_new0, e_meth0, e_bi0, e_call0, e_lc, e_cu, e_gl, e_bin, e_neg, e_nt, e_an, e_or, e_cmp, e_chain, e_ife, ws_nil, ws_cons, e_isi, e_fld, e_sub, e_tup, e_lst, e_slc, s_asg, s_one, s_fld, s_sub, s_ex, s_ret, s_brk, s_cnt, s_pass, s_ite, ss_nil, W_ok, W_opt, b_add, b_sub, b_mul, b_div, b_mod, b_pow, sub_tup, sub_ref, at_0, at_1, at_2, ix_1_0, ix_2_0, ix_2_1, ix_3_0, ix_3_1, ix_3_2, ix_4_0, ix_4_1, ix_4_2, ix_4_3, ix_5_0, ix_5_1, ix_5_2, ix_5_3, ix_5_4, ix_6_0, ix_6_1, ix_6_2, ix_6_3, ix_6_4, ix_6_5, i_max, i_min, i_abs, i_int, i_intb, i_len_tup, bindT, setAll, cmp_eq_int, cmp_ne_int, cmp_lt_int, cmp_gt_int, cmp_le_int, cmp_ge_int, cmp_eq_bl, cmp_ne_bl, cmp_eq_str, cmp_ne_str, cmp_is, cmp_isnot, List.length_cons, List.length_nil, Int.toNat_zero, Int.toNat_one, Option.some.injEq, U.bl.injEq, U.int.injEq, U.ref.injEq, U.tup.injEq, exists_eq_left', Option.bind_some, List.getElem?_cons_zero, List.getElem?_cons_succ, List.set_cons_zero, List.set_cons_succ, decide_eq_true_eq, decide_eq_false_iff_not, e_meth0]
      refine .inl ⟨_, _, _, I.obj, rfl, rfl, rfl, ?_⟩
      refine W_no (first_spec I) ?_
      rintro u h' ⟨rfl, n, rfl, hF⟩
      exact hiPart n hF
  · cases lo with
    | none => exact hiPart 0 rfl
    | some v => cases hc
end Pl

namespace Pl
open PySem
/-! ### draws -/
def WellAt (h : AH) (a : Nat) : Prop := ∃ x y z, h[a]? = some (.lst (well x y z))
abbrev At1 (a n : Nat) : Prop := n = a
theorem WellAt.fr {S : Nat → Prop} {h h' : AH} {a : Nat} (w : WellAt h a) (f : Fr S h h') (n : ¬ S a) : WellAt h' a := by
  obtain ⟨x, y, z, e⟩ := w
  exact ⟨x, y, z, f.same _ _ n e⟩
theorem small {lim : Int} (h0 : 0 < lim) (h1 : lim < 2 ^ 200) : lim.natAbs.log2 < big := by
  have : lim.natAbs.log2 < 200 := (Nat.log2_lt (by omega)).mpr (by omega)
  exact Nat.lt_of_lt_of_le this (by decide)
theorem draw_W {d : Nat} {h : AH} {a : Nat} {lim : Int} (w : WellAt h a) (hl : 0 < lim) (hb : lim < 2 ^ 200) :
    (call prg (d + 1) ._law_draw [.ref a, .int lim] h).W (fun u h' => Fr (At1 a) h h' ∧ WellAt h' a ∧ ∃ r, u = .int r ∧ 0 ≤ r ∧ r < lim) noX := by
  obtain ⟨x, y, z, e⟩ := w
  refine W_no (draw_spec e hl (small hl hb)) ?_
  rintro u h' ⟨r, x', z', rfl, h0, h1, rfl⟩
  exact ⟨Fr.set rfl, ⟨x', y, z', at_set e⟩, r, rfl, h0, h1⟩
theorem value_W {d : Nat} {h : AH} {a : Nat} (w : WellAt h a) : (call prg (d + 2) ._law_value [.ref a] h).W (fun u h' => Fr (At1 a) h h' ∧ WellAt h' a ∧ ∃ v, u = .int v) noX := by
  refine call_W (F := f__law_value) rfl rfl ?_
  show (evSs prg ⟨call prg (d + 1), none⟩ b__law_value [some (.ref a)] h).W _
  unfold b__law_value
  try simp only [ss_cons, e_xisi, e_comp0, e_compIf0, s_for0, e_new0, e_meth0, e_bi0, e_call0, e_lc, e_cu, e_gl, e_bin, e_neg, e_nt, e_an, e_or, e_cmp, e_chain, e_ife, ws_nil, ws_cons, e_isi, e_fld, e_sub, e_tup, e_lst, e_slc, s_asg, s_one, s_fld, s_sub, s_ex, s_ret, s_brk, s_cnt, s_pass, s_ite, ss_nil, W_ok, W_opt, b_add, b_sub, b_mul, b_div, b_mod, b_pow, sub_tup, sub_ref, at_0, at_1, at_2, ix_1_0, ix_2_0, ix_2_1, ix_3_0, ix_3_1, ix_3_2, ix_4_0, ix_4_1, ix_4_2, ix_4_3, ix_5_0, ix_5_1, ix_5_2, ix_5_3, ix_5_4, ix_6_0, ix_6_1, ix_6_2, ix_6_3, ix_6_4, ix_6_5, i_max, i_min, i_abs, i_int, i_intb, i_len_tup, bindT, setAll, cmp_eq_int, cmp_ne_int, cmp_lt_int, cmp_gt_int, cmp_le_int, cmp_ge_int, cmp_eq_bl, cmp_ne_bl, cmp_eq_str, cmp_ne_str, cmp_is, cmp_isnot, List.length_cons, List.length_nil, Int.toNat_zero, Int.toNat_one, Option.some.injEq, U.bl.injEq, U.int.injEq, U.ref.injEq, U.tup.injEq, exists_eq_left', Option.bind_some, List.getElem?_cons_zero, List.getElem?_cons_succ, List.set_cons_zero, List.set_cons_succ, decide_eq_true_eq, decide_eq_false_iff_not]
  refine ⟨rfl, W_no (draw_W w (by decide) (by decide)) ?_⟩
  rintro u h1 ⟨f1, w1, r, rfl, r0, r1⟩
  try simp only [ss_cons, e_xisi, e_comp0, e_compIf0, s_for0, e_new0, e_meth0, e_bi0, e_call0, e_lc, e_cu, e_gl, e_bin, e_neg, e_nt, e_an, e_or, e_cmp, e_chain, e_ife, ws_nil, ws_cons, e_isi, e_fld, e_sub, e_tup, e_lst, e_slc, s_asg, s_one, s_fld, s_sub, s_ex, s_ret, s_brk, s_cnt, s_pass, s_ite, ss_nil, W_ok, W_opt, b_add, b_sub, b_mul, b_div, b_mod, b_pow, sub_tup, sub_ref, at_0, at_1, at_2, ix_1_0, ix_2_0, ix_2_1, ix_3_0, ix_3_1, ix_3_2, ix_4_0, ix_4_1, ix_4_2, ix_4_3, ix_5_0, ix_5_1, ix_5_2, ix_5_3, ix_5_4, ix_6_0, ix_6_1, ix_6_2, ix_6_3, ix_6_4, ix_6_5, i_max, i_min, i_abs, i_int, i_intb, i_len_tup, bindT, setAll, cmp_eq_int, cmp_ne_int, cmp_lt_int, cmp_gt_int, cmp_le_int, cmp_ge_int, cmp_eq_bl, cmp_ne_bl, cmp_eq_str, cmp_ne_str, cmp_is, cmp_isnot, List.length_cons, List.length_nil, Int.toNat_zero, Int.toNat_one, Option.some.injEq, U.bl.injEq, U.int.injEq, U.ref.injEq, U.tup.injEq, exists_eq_left', Option.bind_some, List.getElem?_cons_zero, List.getElem?_cons_succ, List.set_cons_zero, List.set_cons_succ, decide_eq_true_eq, decide_eq_false_iff_not]
  refine ⟨fun hc => ⟨rfl, W_no (draw_W w1 (by decide) (by decide)) ?_⟩, fun hc => ⟨by decide, by decide, rfl, ?_⟩⟩
  · rintro u h2 ⟨f2, w2, r2, rfl, _⟩
    try simp only [e_xisi, e_comp0, e_compIf0, s_for0, e_new0, e_meth0, e_bi0, e_call0, e_lc, e_cu, e_gl, e_bin, e_neg, e_nt, e_an, e_or, e_cmp, e_chain, e_ife, ws_nil, ws_cons, e_isi, e_fld, e_sub, e_tup, e_lst, e_slc, s_asg, s_one, s_fld, s_sub, s_ex, s_ret, s_brk, s_cnt, s_pass, s_ite, ss_nil, W_ok, W_opt, b_add, b_sub, b_mul, b_div, b_mod, b_pow, sub_tup, sub_ref, at_0, at_1, at_2, ix_1_0, ix_2_0, ix_2_1, ix_3_0, ix_3_1, ix_3_2, ix_4_0, ix_4_1, ix_4_2, ix_4_3, ix_5_0, ix_5_1, ix_5_2, ix_5_3, ix_5_4, ix_6_0, ix_6_1, ix_6_2, ix_6_3, ix_6_4, ix_6_5, i_max, i_min, i_abs, i_int, i_intb, i_len_tup, bindT, setAll, cmp_eq_int, cmp_ne_int, cmp_lt_int, cmp_gt_int, cmp_le_int, cmp_ge_int, cmp_eq_bl, cmp_ne_bl, cmp_eq_str, cmp_ne_str, cmp_is, cmp_isnot, List.length_cons, List.length_nil, Int.toNat_zero, Int.toNat_one, Option.some.injEq, U.bl.injEq, U.int.injEq, U.ref.injEq, U.tup.injEq, exists_eq_left', Option.bind_some, List.getElem?_cons_zero, List.getElem?_cons_succ, List.set_cons_zero, List.set_cons_succ, decide_eq_true_eq, decide_eq_false_iff_not]
    exact ⟨f1.trans f2, w2, _, rfl⟩
  · have e : (2 : Int) * 10 ^ (40 : Int).toNat - 3 = 2 * 10 ^ 40 - 3 := rfl
    rw [e]
    refine W_no (draw_W w1 (by decide) (by decide)) ?_
    rintro u h2 ⟨f2, w2, r2, rfl, _⟩
    try simp only [e_xisi, e_comp0, e_compIf0, s_for0, e_new0, e_meth0, e_bi0, e_call0, e_lc, e_cu, e_gl, e_bin, e_neg, e_nt, e_an, e_or, e_cmp, e_chain, e_ife, ws_nil, ws_cons, e_isi, e_fld, e_sub, e_tup, e_lst, e_slc, s_asg, s_one, s_fld, s_sub, s_ex, s_ret, s_brk, s_cnt, s_pass, s_ite, ss_nil, W_ok, W_opt, b_add, b_sub, b_mul, b_div, b_mod, b_pow, sub_tup, sub_ref, at_0, at_1, at_2, ix_1_0, ix_2_0, ix_2_1, ix_3_0, ix_3_1, ix_3_2, ix_4_0, ix_4_1, ix_4_2, ix_4_3, ix_5_0, ix_5_1, ix_5_2, ix_5_3, ix_5_4, ix_6_0, ix_6_1, ix_6_2, ix_6_3, ix_6_4, ix_6_5, i_max, i_min, i_abs, i_int, i_intb, i_len_tup, bindT, setAll, cmp_eq_int, cmp_ne_int, cmp_lt_int, cmp_gt_int, cmp_le_int, cmp_ge_int, cmp_eq_bl, cmp_ne_bl, cmp_eq_str, cmp_ne_str, cmp_is, cmp_isnot, List.length_cons, List.length_nil, Int.toNat_zero, Int.toNat_one, Option.some.injEq, U.bl.injEq, U.int.injEq, U.ref.injEq, U.tup.injEq, exists_eq_left', Option.bind_some, List.getElem?_cons_zero, List.getElem?_cons_succ, List.set_cons_zero, List.set_cons_succ, decide_eq_true_eq, decide_eq_false_iff_not]
    exact ⟨by decide, f1.trans f2, w2, _, rfl⟩
theorem entry_W {d : Nat} {h : AH} {a : Nat} {k : Bool} (w : WellAt h a) : (call prg (d + 3) ._law_entry [.ref a, .bl k] h).W (fun u h' => Fr (At1 a) h h' ∧ WellAt h' a ∧ ∃ e, GoodE k e ∧ u = ent k e) noX := by
  refine call_W (F := f__law_entry) rfl rfl ?_
  show (evSs prg ⟨call prg (d + 2), none⟩ b__law_entry [some (.ref a), some (.bl k), none, none, none] h).W _
  unfold b__law_entry
  try simp only [ss_cons, e_xisi, e_comp0, e_compIf0, s_for0, e_new0, e_meth0, e_bi0, e_call0, e_lc, e_cu, e_gl, e_bin, e_neg, e_nt, e_an, e_or, e_cmp, e_chain, e_ife, ws_nil, ws_cons, e_isi, e_fld, e_sub, e_tup, e_lst, e_slc, s_asg, s_one, s_fld, s_sub, s_ex, s_ret, s_brk, s_cnt, s_pass, s_ite, ss_nil, W_ok, W_opt, b_add, b_sub, b_mul, b_div, b_mod, b_pow, sub_tup, sub_ref, at_0, at_1, at_2, ix_1_0, ix_2_0, ix_2_1, ix_3_0, ix_3_1, ix_3_2, ix_4_0, ix_4_1, ix_4_2, ix_4_3, ix_5_0, ix_5_1, ix_5_2, ix_5_3, ix_5_4, ix_6_0, ix_6_1, ix_6_2, ix_6_3, ix_6_4, ix_6_5, i_max, i_min, i_abs, i_int, i_intb, i_len_tup, bindT, setAll, cmp_eq_int, cmp_ne_int, cmp_lt_int, cmp_gt_int, cmp_le_int, cmp_ge_int, cmp_eq_bl, cmp_ne_bl, cmp_eq_str, cmp_ne_str, cmp_is, cmp_isnot, List.length_cons, List.length_nil, Int.toNat_zero, Int.toNat_one, Option.some.injEq, U.bl.injEq, U.int.injEq, U.ref.injEq, U.tup.injEq, exists_eq_left', Option.bind_some, List.getElem?_cons_zero, List.getElem?_cons_succ, List.set_cons_zero, List.set_cons_succ, decide_eq_true_eq, decide_eq_false_iff_not]
  refine ⟨rfl, W_no (value_W w) ?_⟩
  rintro u h1 ⟨f1, w1, v, rfl⟩
  try simp only [ss_cons, e_xisi, e_comp0, e_compIf0, s_for0, e_new0, e_meth0, e_bi0, e_call0, e_lc, e_cu, e_gl, e_bin, e_neg, e_nt, e_an, e_or, e_cmp, e_chain, e_ife, ws_nil, ws_cons, e_isi, e_fld, e_sub, e_tup, e_lst, e_slc, s_asg, s_one, s_fld, s_sub, s_ex, s_ret, s_brk, s_cnt, s_pass, s_ite, ss_nil, W_ok, W_opt, b_add, b_sub, b_mul, b_div, b_mod, b_pow, sub_tup, sub_ref, at_0, at_1, at_2, ix_1_0, ix_2_0, ix_2_1, ix_3_0, ix_3_1, ix_3_2, ix_4_0, ix_4_1, ix_4_2, ix_4_3, ix_5_0, ix_5_1, ix_5_2, ix_5_3, ix_5_4, ix_6_0, ix_6_1, ix_6_2, ix_6_3, ix_6_4, ix_6_5, i_max, i_min, i_abs, i_int, i_intb, i_len_tup, bindT, setAll, cmp_eq_int, cmp_ne_int, cmp_lt_int, cmp_gt_int, cmp_le_int, cmp_ge_int, cmp_eq_bl, cmp_ne_bl, cmp_eq_str, cmp_ne_str, cmp_is, cmp_isnot, List.length_cons, List.length_nil, Int.toNat_zero, Int.toNat_one, Option.some.injEq, U.bl.injEq, U.int.injEq, U.ref.injEq, U.tup.injEq, exists_eq_left', Option.bind_some, List.getElem?_cons_zero, List.getElem?_cons_succ, List.set_cons_zero, List.set_cons_succ, decide_eq_true_eq, decide_eq_false_iff_not]
  refine ⟨rfl, W_no (draw_W w1 (by decide) (by decide)) ?_⟩
  rintro u h2 ⟨f2, w2, r, rfl, r0, r1⟩
  try simp only [ss_cons, e_xisi, e_comp0, e_compIf0, s_for0, e_new0, e_meth0, e_bi0, e_call0, e_lc, e_cu, e_gl, e_bin, e_neg, e_nt, e_an, e_or, e_cmp, e_chain, e_ife, ws_nil, ws_cons, e_isi, e_fld, e_sub, e_tup, e_lst, e_slc, s_asg, s_one, s_fld, s_sub, s_ex, s_ret, s_brk, s_cnt, s_pass, s_ite, ss_nil, W_ok, W_opt, b_add, b_sub, b_mul, b_div, b_mod, b_pow, sub_tup, sub_ref, at_0, at_1, at_2, ix_1_0, ix_2_0, ix_2_1, ix_3_0, ix_3_1, ix_3_2, ix_4_0, ix_4_1, ix_4_2, ix_4_3, ix_5_0, ix_5_1, ix_5_2, ix_5_3, ix_5_4, ix_6_0, ix_6_1, ix_6_2, ix_6_3, ix_6_4, ix_6_5, i_max, i_min, i_abs, i_int, i_intb, i_len_tup, bindT, setAll, cmp_eq_int, cmp_ne_int, cmp_lt_int, cmp_gt_int, cmp_le_int, cmp_ge_int, cmp_eq_bl, cmp_ne_bl, cmp_eq_str, cmp_ne_str, cmp_is, cmp_isnot, List.length_cons, List.length_nil, Int.toNat_zero, Int.toNat_one, Option.some.injEq, U.bl.injEq, U.int.injEq, U.ref.injEq, U.tup.injEq, exists_eq_left', Option.bind_some, List.getElem?_cons_zero, List.getElem?_cons_succ, List.set_cons_zero, List.set_cons_succ, decide_eq_true_eq, decide_eq_false_iff_not]
  refine ⟨rfl, W_no (draw_W w2 (by decide) (by decide)) ?_⟩
  rintro u h3 ⟨f3, w3, r', rfl, r0', r1'⟩
  have hz : ∀ n : Nat, n ≤ 4 → n ≤ sln := fun n hn => Nat.le_trans hn (by decide)
  refine ⟨hz _ (by decide), .inl (by decide), hz _ (by decide), hz _ (by decide), ?_⟩
  have hg : getL (h3 ++ [Ob.lst [.int (2 * (1 + r) + (1 + r') - 4), .tup [.int (1 + r), .int (1 + r')]]]) h3.length = some [.int (2 * (1 + r) + (1 + r') - 4), .tup [.int (1 + r), .int (1 + r')]] := getL_of at_new
  have fr : Fr (At1 a) h (h3 ++ [Ob.lst [.int (2 * (1 + r) + (1 + r') - 4), .tup [.int (1 + r), .int (1 + r')]]]) := ((f1.trans f2).trans f3).trans Fr.app
  have wl : WellAt (h3 ++ [Ob.lst [.int (2 * (1 + r) + (1 + r') - 4), .tup [.int (1 + r), .int (1 + r')]]]) a := by
    obtain ⟨x, y, z, e⟩ := w3
    exact ⟨x, y, z, at_app e⟩
  rw [hg]
  cases k with
  | true =>
    refine ⟨_, rfl, hz _ (by decide), fr, wl, (v, 1 + r, 1 + r'), (fun z => nomatch z), rfl⟩
  | false =>
    refine ⟨_, rfl, hz _ (by decide), fr, wl, (v, 2 * (1 + r) + (1 + r') - 4, 0), (fun _ => rfl), rfl⟩
/-! ### one deed -/
theorem outcome_W {d : Nat} {k : Bool} {h : AH} {i e : Nat} {L : List En} {x : En} {p : Bool} (I : IdxAt k h i e L) (hx : GoodE k x) (hz : L.length < 1000) :
    (call prg (d + 3) ._law_outcome [.ref i, .bl p, ent k x] h).W (fun u h' => (p ≠ decide (x ∈ L) ∧ u = .str "done" ∧ ∃ L' : List En, (if p = true then L'.Perm (x :: L) else L.Perm (x :: L')) ∧ L'.Pairwise ltE ∧ h' = h.set e (.lst (L'.map (ent k)))) ∨ (p = decide (x ∈ L) ∧ u = .str "refused" ∧ h' = h)) noX := by
  refine call_W (F := f__law_outcome) rfl rfl ?_
  show (evSs prg ⟨call prg (d + 2), none⟩ b__law_outcome [some (.ref i), some (.bl p), some (ent k x), none, none, none] h).W _
  unfold b__law_outcome
  rw [ss_cons]
  have a1 : subop (ent k x) (.int 1) h = some (sec k x) := by cases k <;> rfl
  refine s_try rfl (by decide) ?_
  have hot : ∀ (fs : List (Nm × U)) (z : Option U) (h' : AH) (D : Po), (D.rt (.str "refused") h') → (evSs prg ⟨call prg (d + 2), some (.NoEntry, fs)⟩ [.asg (.one 5) (.xisi [.NoIndex, .NoNumber, .NoOrder, .NoRow, .NoTable]), .ret (.ife (.an (.xisi [.NoEntry]) (.nt (.lc 5))) (.cu (.str "refused")) (.cu (.str "wrong")))] [some (.ref i), some (.bl p), some (ent k x), z, none, none] h').W D := fun fs z h' D q => by
    try simp only [ss_cons, e_xisi, e_comp0, e_compIf0, s_for0, e_new0, e_meth0, e_bi0, e_call0, e_lc, e_cu, e_gl, e_bin, e_neg, e_nt, e_an, e_or, e_cmp, e_chain, e_ife, ws_nil, ws_cons, e_isi, e_fld, e_sub, e_tup, e_lst, e_slc, s_asg, s_one, s_fld, s_sub, s_ex, s_ret, s_brk, s_cnt, s_pass, s_ite, ss_nil, W_ok, W_opt, b_add, b_sub, b_mul, b_div, b_mod, b_pow, sub_tup, sub_ref, at_0, at_1, at_2, ix_1_0, ix_2_0, ix_2_1, ix_3_0, ix_3_1, ix_3_2, ix_4_0, ix_4_1, ix_4_2, ix_4_3, ix_5_0, ix_5_1, ix_5_2, ix_5_3, ix_5_4, ix_6_0, ix_6_1, ix_6_2, ix_6_3, ix_6_4, ix_6_5, i_max, i_min, i_abs, i_int, i_intb, i_len_tup, bindT, setAll, cmp_eq_int, cmp_ne_int, cmp_lt_int, cmp_gt_int, cmp_le_int, cmp_ge_int, cmp_eq_bl, cmp_ne_bl, cmp_eq_str, cmp_ne_str, cmp_is, cmp_isnot, List.length_cons, List.length_nil, Int.toNat_zero, Int.toNat_one, Option.some.injEq, U.bl.injEq, U.int.injEq, U.ref.injEq, U.tup.injEq, exists_eq_left', Option.bind_some, List.getElem?_cons_zero, List.getElem?_cons_succ, List.set_cons_zero, List.set_cons_succ, decide_eq_true_eq, decide_eq_false_iff_not]
    refine ⟨by decide, by decide, fun _ => ⟨fun _ => q, fun hc => absurd hc (by decide)⟩, fun hc => absurd hc (by decide)⟩
  have done : ∀ (h' : AH) (D : Po), D.rt (.str "done") h' → (evSs prg ⟨call prg (d + 2), none⟩ [.ret (.ife (.cmp .is_ (.lc 3) (.cu .non)) (.cu (.str "done")) (.cu (.str "wrong")))] [some (.ref i), some (.bl p), some (ent k x), some .non, none, none] h').W D := fun h' D q => by
    try simp only [ss_cons, e_xisi, e_comp0, e_compIf0, s_for0, e_new0, e_meth0, e_bi0, e_call0, e_lc, e_cu, e_gl, e_bin, e_neg, e_nt, e_an, e_or, e_cmp, e_chain, e_ife, ws_nil, ws_cons, e_isi, e_fld, e_sub, e_tup, e_lst, e_slc, s_asg, s_one, s_fld, s_sub, s_ex, s_ret, s_brk, s_cnt, s_pass, s_ite, ss_nil, W_ok, W_opt, b_add, b_sub, b_mul, b_div, b_mod, b_pow, sub_tup, sub_ref, at_0, at_1, at_2, ix_1_0, ix_2_0, ix_2_1, ix_3_0, ix_3_1, ix_3_2, ix_4_0, ix_4_1, ix_4_2, ix_4_3, ix_5_0, ix_5_1, ix_5_2, ix_5_3, ix_5_4, ix_6_0, ix_6_1, ix_6_2, ix_6_3, ix_6_4, ix_6_5, i_max, i_min, i_abs, i_int, i_intb, i_len_tup, bindT, setAll, cmp_eq_int, cmp_ne_int, cmp_lt_int, cmp_gt_int, cmp_le_int, cmp_ge_int, cmp_eq_bl, cmp_ne_bl, cmp_eq_str, cmp_ne_str, cmp_is, cmp_isnot, List.length_cons, List.length_nil, Int.toNat_zero, Int.toNat_one, Option.some.injEq, U.bl.injEq, U.int.injEq, U.ref.injEq, U.tup.injEq, exists_eq_left', Option.bind_some, List.getElem?_cons_zero, List.getElem?_cons_succ, List.set_cons_zero, List.set_cons_succ, decide_eq_true_eq, decide_eq_false_iff_not]
    exact ⟨fun _ => q, fun hc => absurd trivial hc⟩
  rw [ss_cons]
  try simp only [e_xisi, e_comp0, e_compIf0, s_for0, e_new0, e_meth0, e_bi0, e_call0, e_lc, e_cu, e_gl, e_bin, e_neg, e_nt, e_an, e_or, e_cmp, e_chain, e_ife, ws_nil, ws_cons, e_isi, e_fld, e_sub, e_tup, e_lst, e_slc, s_asg, s_one, s_fld, s_sub, s_ex, s_ret, s_brk, s_cnt, s_pass, s_ite, ss_nil, W_ok, W_opt, b_add, b_sub, b_mul, b_div, b_mod, b_pow, sub_tup, sub_ref, at_0, at_1, at_2, ix_1_0, ix_2_0, ix_2_1, ix_3_0, ix_3_1, ix_3_2, ix_4_0, ix_4_1, ix_4_2, ix_4_3, ix_5_0, ix_5_1, ix_5_2, ix_5_3, ix_5_4, ix_6_0, ix_6_1, ix_6_2, ix_6_3, ix_6_4, ix_6_5, i_max, i_min, i_abs, i_int, i_intb, i_len_tup, bindT, setAll, cmp_eq_int, cmp_ne_int, cmp_lt_int, cmp_gt_int, cmp_le_int, cmp_ge_int, cmp_eq_bl, cmp_ne_bl, cmp_eq_str, cmp_ne_str, cmp_is, cmp_isnot, List.length_cons, List.length_nil, Int.toNat_zero, Int.toNat_one, Option.some.injEq, U.bl.injEq, U.int.injEq, U.ref.injEq, U.tup.injEq, exists_eq_left', Option.bind_some, List.getElem?_cons_zero, List.getElem?_cons_succ, List.set_cons_zero, List.set_cons_succ, decide_eq_true_eq, decide_eq_false_iff_not, e_meth0, ent_at0]
  refine ⟨fun hp => ?_, fun hp => ?_⟩
  · rw [ss_cons]
    try simp only [e_xisi, e_comp0, e_compIf0, s_for0, e_new0, e_meth0, e_bi0, e_call0, e_lc, e_cu, e_gl, e_bin, e_neg, e_nt, e_an, e_or, e_cmp, e_chain, e_ife, ws_nil, ws_cons, e_isi, e_fld, e_sub, e_tup, e_lst, e_slc, s_asg, s_one, s_fld, s_sub, s_ex, s_ret, s_brk, s_cnt, s_pass, s_ite, ss_nil, W_ok, W_opt, b_add, b_sub, b_mul, b_div, b_mod, b_pow, sub_tup, sub_ref, at_0, at_1, at_2, ix_1_0, ix_2_0, ix_2_1, ix_3_0, ix_3_1, ix_3_2, ix_4_0, ix_4_1, ix_4_2, ix_4_3, ix_5_0, ix_5_1, ix_5_2, ix_5_3, ix_5_4, ix_6_0, ix_6_1, ix_6_2, ix_6_3, ix_6_4, ix_6_5, i_max, i_min, i_abs, i_int, i_intb, i_len_tup, bindT, setAll, cmp_eq_int, cmp_ne_int, cmp_lt_int, cmp_gt_int, cmp_le_int, cmp_ge_int, cmp_eq_bl, cmp_ne_bl, cmp_eq_str, cmp_ne_str, cmp_is, cmp_isnot, List.length_cons, List.length_nil, Int.toNat_zero, Int.toNat_one, Option.some.injEq, U.bl.injEq, U.int.injEq, U.ref.injEq, U.tup.injEq, exists_eq_left', Option.bind_some, List.getElem?_cons_zero, List.getElem?_cons_succ, List.set_cons_zero, List.set_cons_succ, decide_eq_true_eq, decide_eq_false_iff_not, e_meth0, ent_at0]
    refine .inl ⟨_, _, _, I.obj, rfl, rfl, rfl, _, a1, ?_⟩
    refine W_imp (put_spec I hx hz) ?_ ?_
    · rintro u h' ⟨rfl, hn, L', hp1, ho, rfl⟩
      refine done _ _ (.inl ⟨by rw [hp, decide_eq_false hn]; decide, rfl, L', by rw [if_pos hp]; exact hp1, ho, rfl⟩)
    · rintro c fs h' ⟨rfl, hm, rfl⟩
      refine ⟨by decide, fun _ => hot fs none _ _ (.inr ⟨by rw [hp, decide_eq_true hm], rfl, rfl⟩), fun hc => absurd hc (by decide)⟩
  · rw [ss_cons]
    try simp only [e_xisi, e_comp0, e_compIf0, s_for0, e_new0, e_meth0, e_bi0, e_call0, e_lc, e_cu, e_gl, e_bin, e_neg, e_nt, e_an, e_or, e_cmp, e_chain, e_ife, ws_nil, ws_cons, e_isi, e_fld, e_sub, e_tup, e_lst, e_slc, s_asg, s_one, s_fld, s_sub, s_ex, s_ret, s_brk, s_cnt, s_pass, s_ite, ss_nil, W_ok, W_opt, b_add, b_sub, b_mul, b_div, b_mod, b_pow, sub_tup, sub_ref, at_0, at_1, at_2, ix_1_0, ix_2_0, ix_2_1, ix_3_0, ix_3_1, ix_3_2, ix_4_0, ix_4_1, ix_4_2, ix_4_3, ix_5_0, ix_5_1, ix_5_2, ix_5_3, ix_5_4, ix_6_0, ix_6_1, ix_6_2, ix_6_3, ix_6_4, ix_6_5, i_max, i_min, i_abs, i_int, i_intb, i_len_tup, bindT, setAll, cmp_eq_int, cmp_ne_int, cmp_lt_int, cmp_gt_int, cmp_le_int, cmp_ge_int, cmp_eq_bl, cmp_ne_bl, cmp_eq_str, cmp_ne_str, cmp_is, cmp_isnot, List.length_cons, List.length_nil, Int.toNat_zero, Int.toNat_one, Option.some.injEq, U.bl.injEq, U.int.injEq, U.ref.injEq, U.tup.injEq, exists_eq_left', Option.bind_some, List.getElem?_cons_zero, List.getElem?_cons_succ, List.set_cons_zero, List.set_cons_succ, decide_eq_true_eq, decide_eq_false_iff_not, e_meth0, ent_at0]
    refine .inl ⟨_, _, _, I.obj, rfl, rfl, rfl, _, a1, ?_⟩
    refine W_imp (take_spec I hx hz) ?_ ?_
    · rintro u h' ⟨rfl, hm, L', hp1, ho, rfl⟩
      refine done _ _ (.inl ⟨by rw [hp, decide_eq_true hm]; decide, rfl, L', by rw [if_neg (by rw [hp]; decide)]; exact hp1, ho, rfl⟩)
    · rintro c fs h' ⟨rfl, hn, rfl⟩
      refine ⟨by decide, fun _ => hot fs none _ _ (.inr ⟨by rw [hp, decide_eq_false hn], rfl, rfl⟩), fun hc => absurd hc (by decide)⟩
end Pl

namespace Pl
open PySem
structure Pair (k : Bool) (h : AH) (i e q : Nat) (L : List En) : Prop where
  ix : IdxAt k h i e L
  kept : ∃ M : List En, h[q]? = some (.lst (M.map (ent k))) ∧ M.Perm L
  ne : e ≠ q
theorem IdxAt.fr {S : Nat → Prop} {k : Bool} {h h' : AH} {i e : Nat} {L : List En} (I : IdxAt k h i e L) (f : Fr S h h') (n1 : ¬ S i) (n2 : ¬ S e) : IdxAt k h' i e L := ⟨f.same _ _ n1 I.obj, f.same _ _ n2 I.lst, I.good, I.ord⟩
theorem Pair.fr {S : Nat → Prop} {k : Bool} {h h' : AH} {i e q : Nat} {L : List En} (p : Pair k h i e q L) (f : Fr S h h') (n1 : ¬ S i) (n2 : ¬ S e) (n3 : ¬ S q) : Pair k h' i e q L := by
  obtain ⟨M, h1, h2⟩ := p.kept
  exact ⟨p.ix.fr f n1 n2, ⟨M, f.same _ _ n3 h1, h2⟩, p.ne⟩
theorem done_W {d : Nat} {k : Bool} {h : AH} {i e q : Nat} {L : List En} {x : En} {p : Bool} (pr : Pair k h i e q L) (hx : GoodE k x) (hz : L.length < 900) :
    (call prg (d + 4) ._law_done [.ref i, .ref q, .bl p, ent k x] h).W (fun u h' => u = .bl true ∧ Fr (fun n => n = e ∨ n = q) h h' ∧ ∃ L' : List En, ((p = decide (x ∈ L) ∧ L' = L) ∨ (p ≠ decide (x ∈ L) ∧ if p = true then L'.Perm (x :: L) else L.Perm (x :: L'))) ∧ Pair k h' i e q L') noX := by
  obtain ⟨M, hM, pM⟩ := pr.kept
  have gM : ∀ f ∈ M, GoodE k f := fun f hf => pr.ix.good f (pM.subset hf)
  have hLM : getL h q = some (M.map (ent k)) := getL_of hM
  have hin : cmpop .in_ (ent k x) (.ref q) h = some (decide (x ∈ L)) := by
    show (match getL h q with
      | some xs => inU h (ent k x) xs
      | none => none) = _
    rw [hLM]
    simp only
    rw [ent_in hx gM]
    congr 1
    simp only [decide_eq_decide]
    exact pM.mem_iff
  refine call_W (F := f__law_done) rfl rfl ?_
  show (evSs prg ⟨call prg (d + 3), none⟩ b__law_done [some (.ref i), some (.ref q), some (.bl p), some (ent k x), none] h).W _
  unfold b__law_done
  rw [ss_cons]
  try simp only [e_xisi, e_comp0, e_compIf0, s_for0, e_new0, e_meth0, e_bi0, e_call0, e_lc, e_cu, e_gl, e_bin, e_neg, e_nt, e_an, e_or, e_cmp, e_chain, e_ife, ws_nil, ws_cons, e_isi, e_fld, e_sub, e_tup, e_lst, e_slc, s_asg, s_one, s_fld, s_sub, s_ex, s_ret, s_brk, s_cnt, s_pass, s_ite, ss_nil, W_ok, W_opt, b_add, b_sub, b_mul, b_div, b_mod, b_pow, sub_tup, sub_ref, at_0, at_1, at_2, ix_1_0, ix_2_0, ix_2_1, ix_3_0, ix_3_1, ix_3_2, ix_4_0, ix_4_1, ix_4_2, ix_4_3, ix_5_0, ix_5_1, ix_5_2, ix_5_3, ix_5_4, ix_6_0, ix_6_1, ix_6_2, ix_6_3, ix_6_4, ix_6_5, i_max, i_min, i_abs, i_int, i_intb, i_len_tup, bindT, setAll, cmp_eq_int, cmp_ne_int, cmp_lt_int, cmp_gt_int, cmp_le_int, cmp_ge_int, cmp_eq_bl, cmp_ne_bl, cmp_eq_str, cmp_ne_str, cmp_is, cmp_isnot, List.length_cons, List.length_nil, Int.toNat_zero, Int.toNat_one, Option.some.injEq, U.bl.injEq, U.int.injEq, U.ref.injEq, U.tup.injEq, exists_eq_left', Option.bind_some, List.getElem?_cons_zero, List.getElem?_cons_succ, List.set_cons_zero, List.set_cons_succ, decide_eq_true_eq, decide_eq_false_iff_not]
  rw [ss_cons]
  try simp only [e_xisi, e_comp0, e_compIf0, s_for0, e_new0, e_meth0, e_bi0, e_call0, e_lc, e_cu, e_gl, e_bin, e_neg, e_nt, e_an, e_or, e_cmp, e_chain, e_ife, ws_nil, ws_cons, e_isi, e_fld, e_sub, e_tup, e_lst, e_slc, s_asg, s_one, s_fld, s_sub, s_ex, s_ret, s_brk, s_cnt, s_pass, s_ite, ss_nil, W_ok, W_opt, b_add, b_sub, b_mul, b_div, b_mod, b_pow, sub_tup, sub_ref, at_0, at_1, at_2, ix_1_0, ix_2_0, ix_2_1, ix_3_0, ix_3_1, ix_3_2, ix_4_0, ix_4_1, ix_4_2, ix_4_3, ix_5_0, ix_5_1, ix_5_2, ix_5_3, ix_5_4, ix_6_0, ix_6_1, ix_6_2, ix_6_3, ix_6_4, ix_6_5, i_max, i_min, i_abs, i_int, i_intb, i_len_tup, bindT, setAll, cmp_eq_int, cmp_ne_int, cmp_lt_int, cmp_gt_int, cmp_le_int, cmp_ge_int, cmp_eq_bl, cmp_ne_bl, cmp_eq_str, cmp_ne_str, cmp_is, cmp_isnot, List.length_cons, List.length_nil, Int.toNat_zero, Int.toNat_one, Option.some.injEq, U.bl.injEq, U.int.injEq, U.ref.injEq, U.tup.injEq, exists_eq_left', Option.bind_some, List.getElem?_cons_zero, List.getElem?_cons_succ, List.set_cons_zero, List.set_cons_succ, decide_eq_true_eq, decide_eq_false_iff_not, hin]
  -- what is due
  have rest : ∀ (s : Str), (s = "refused" ∧ p = decide (x ∈ L) ∨ s = "done" ∧ p ≠ decide (x ∈ L)) → (evSs prg ⟨call prg (d + 3), none⟩ [.ite (.cmp .ne (.call ._law_outcome [.lc 0, .lc 2, .lc 3]) (.lc 4)) [.ret (.cu (.bl false))] [], .ite (.an (.cmp .eq (.lc 4) (.cu (.str "done"))) (.lc 2)) [.ex (.meth (.lc 1) .append [.lc 3])] [.ite (.cmp .eq (.lc 4) (.cu (.str "done"))) [.ex (.meth (.lc 1) .remove [.lc 3])] []], .ret (.cu (.bl true))] [some (.ref i), some (.ref q), some (.bl p), some (ent k x), some (.str s)] h).W { nx := fun _ h' => U.non = .bl true ∧ Fr (fun n => n = e ∨ n = q) h h' ∧ ∃ L' : List En, ((p = decide (x ∈ L) ∧ L' = L) ∨ (p ≠ decide (x ∈ L) ∧ if p = true then L'.Perm (x :: L) else L.Perm (x :: L'))) ∧ Pair k h' i e q L', rt := fun u h' => u = .bl true ∧ Fr (fun n => n = e ∨ n = q) h h' ∧ ∃ L' : List En, ((p = decide (x ∈ L) ∧ L' = L) ∨ (p ≠ decide (x ∈ L) ∧ if p = true then L'.Perm (x :: L) else L.Perm (x :: L'))) ∧ Pair k h' i e q L', xc := fun c fs _ h => noX c fs h } := fun s hs => by
    rw [ss_cons]
    try simp only [e_xisi, e_comp0, e_compIf0, s_for0, e_new0, e_meth0, e_bi0, e_call0, e_lc, e_cu, e_gl, e_bin, e_neg, e_nt, e_an, e_or, e_cmp, e_chain, e_ife, ws_nil, ws_cons, e_isi, e_fld, e_sub, e_tup, e_lst, e_slc, s_asg, s_one, s_fld, s_sub, s_ex, s_ret, s_brk, s_cnt, s_pass, s_ite, ss_nil, W_ok, W_opt, b_add, b_sub, b_mul, b_div, b_mod, b_pow, sub_tup, sub_ref, at_0, at_1, at_2, ix_1_0, ix_2_0, ix_2_1, ix_3_0, ix_3_1, ix_3_2, ix_4_0, ix_4_1, ix_4_2, ix_4_3, ix_5_0, ix_5_1, ix_5_2, ix_5_3, ix_5_4, ix_6_0, ix_6_1, ix_6_2, ix_6_3, ix_6_4, ix_6_5, i_max, i_min, i_abs, i_int, i_intb, i_len_tup, bindT, setAll, cmp_eq_int, cmp_ne_int, cmp_lt_int, cmp_gt_int, cmp_le_int, cmp_ge_int, cmp_eq_bl, cmp_ne_bl, cmp_eq_str, cmp_ne_str, cmp_is, cmp_isnot, List.length_cons, List.length_nil, Int.toNat_zero, Int.toNat_one, Option.some.injEq, U.bl.injEq, U.int.injEq, U.ref.injEq, U.tup.injEq, exists_eq_left', Option.bind_some, List.getElem?_cons_zero, List.getElem?_cons_succ, List.set_cons_zero, List.set_cons_succ, decide_eq_true_eq, decide_eq_false_iff_not]
    refine ⟨rfl, W_no (outcome_W pr.ix hx (by omega)) ?_⟩
    rintro u h' (⟨hp, rfl, L', hp2, ho, rfl⟩ | ⟨hp, rfl, rfl⟩)
    · rcases hs with ⟨_, z⟩ | ⟨rfl, _⟩
      · exact absurd z hp
      try simp only [e_xisi, e_comp0, e_compIf0, s_for0, e_new0, e_meth0, e_bi0, e_call0, e_lc, e_cu, e_gl, e_bin, e_neg, e_nt, e_an, e_or, e_cmp, e_chain, e_ife, ws_nil, ws_cons, e_isi, e_fld, e_sub, e_tup, e_lst, e_slc, s_asg, s_one, s_fld, s_sub, s_ex, s_ret, s_brk, s_cnt, s_pass, s_ite, ss_nil, W_ok, W_opt, b_add, b_sub, b_mul, b_div, b_mod, b_pow, sub_tup, sub_ref, at_0, at_1, at_2, ix_1_0, ix_2_0, ix_2_1, ix_3_0, ix_3_1, ix_3_2, ix_4_0, ix_4_1, ix_4_2, ix_4_3, ix_5_0, ix_5_1, ix_5_2, ix_5_3, ix_5_4, ix_6_0, ix_6_1, ix_6_2, ix_6_3, ix_6_4, ix_6_5, i_max, i_min, i_abs, i_int, i_intb, i_len_tup, bindT, setAll, cmp_eq_int, cmp_ne_int, cmp_lt_int, cmp_gt_int, cmp_le_int, cmp_ge_int, cmp_eq_bl, cmp_ne_bl, cmp_eq_str, cmp_ne_str, cmp_is, cmp_isnot, List.length_cons, List.length_nil, Int.toNat_zero, Int.toNat_one, Option.some.injEq, U.bl.injEq, U.int.injEq, U.ref.injEq, U.tup.injEq, exists_eq_left', Option.bind_some, List.getElem?_cons_zero, List.getElem?_cons_succ, List.set_cons_zero, List.set_cons_succ, decide_eq_true_eq, decide_eq_false_iff_not]
      refine ⟨fun hc => absurd hc (by decide), fun _ => ?_⟩
      have eM : (h.set e (.lst (L'.map (ent k))))[q]? = some (.lst (M.map (ent k))) := at_set_ne hM pr.ne
      have hL : L'.length < 1000 := by
        by_cases z : p = true
        · rw [if_pos z] at hp2; have := hp2.length_eq; simp at this; omega
        · rw [if_neg z] at hp2; have := hp2.length_eq; simp at this; omega
      have gL : ∀ f ∈ L', GoodE k f := fun f hf => by
        by_cases z : p = true
        · rw [if_pos z] at hp2
          rcases List.mem_cons.mp (hp2.subset hf) with q | q
          · subst q; exact hx
          · exact pr.ix.good f q
        · rw [if_neg z] at hp2
          exact pr.ix.good f (hp2.symm.subset (List.mem_cons_of_mem _ hf))
      have fin : ∀ M' : List En, M'.Perm L' → Fr (fun n => n = e ∨ n = q) h ((h.set e (.lst (L'.map (ent k)))).set q (.lst (M'.map (ent k)))) ∧ ∃ L'' : List En, ((p = decide (x ∈ L) ∧ L'' = L) ∨ (p ≠ decide (x ∈ L) ∧ if p = true then L''.Perm (x :: L) else L.Perm (x :: L''))) ∧ Pair k ((h.set e (.lst (L'.map (ent k)))).set q (.lst (M'.map (ent k)))) i e q L'' := fun M' hM' => by
        refine ⟨(Fr.set (.inl rfl)).trans (Fr.set (.inr rfl)), L', .inr ⟨hp, hp2⟩, ⟨⟨?_, ?_, gL, ho⟩, ⟨M', at_set eM, hM'⟩, pr.ne⟩⟩
        · have n1 : e ≠ i := fun z => by have a := pr.ix.lst; rw [z, pr.ix.obj] at a; cases a
          have n2 : q ≠ i := fun z => by have a := hM; rw [z, pr.ix.obj] at a; cases a
          exact at_set_ne (at_set_ne pr.ix.obj n1) n2
        · exact at_set_ne (at_set pr.ix.lst) pr.ne.symm
      rw [ss_cons]
      try simp only [e_xisi, e_comp0, e_compIf0, s_for0, e_new0, e_meth0, e_bi0, e_call0, e_lc, e_cu, e_gl, e_bin, e_neg, e_nt, e_an, e_or, e_cmp, e_chain, e_ife, ws_nil, ws_cons, e_isi, e_fld, e_sub, e_tup, e_lst, e_slc, s_asg, s_one, s_fld, s_sub, s_ex, s_ret, s_brk, s_cnt, s_pass, s_ite, ss_nil, W_ok, W_opt, b_add, b_sub, b_mul, b_div, b_mod, b_pow, sub_tup, sub_ref, at_0, at_1, at_2, ix_1_0, ix_2_0, ix_2_1, ix_3_0, ix_3_1, ix_3_2, ix_4_0, ix_4_1, ix_4_2, ix_4_3, ix_5_0, ix_5_1, ix_5_2, ix_5_3, ix_5_4, ix_6_0, ix_6_1, ix_6_2, ix_6_3, ix_6_4, ix_6_5, i_max, i_min, i_abs, i_int, i_intb, i_len_tup, bindT, setAll, cmp_eq_int, cmp_ne_int, cmp_lt_int, cmp_gt_int, cmp_le_int, cmp_ge_int, cmp_eq_bl, cmp_ne_bl, cmp_eq_str, cmp_ne_str, cmp_is, cmp_isnot, List.length_cons, List.length_nil, Int.toNat_zero, Int.toNat_one, Option.some.injEq, U.bl.injEq, U.int.injEq, U.ref.injEq, U.tup.injEq, exists_eq_left', Option.bind_some, List.getElem?_cons_zero, List.getElem?_cons_succ, List.set_cons_zero, List.set_cons_succ, decide_eq_true_eq, decide_eq_false_iff_not, e_meth0]
      refine ⟨fun _ => ⟨fun hp3 => ?_, fun hp3 => ?_⟩, fun hc => absurd hc (by decide)⟩
      · rw [ss_cons]
        try simp only [e_xisi, e_comp0, e_compIf0, s_for0, e_new0, e_meth0, e_bi0, e_call0, e_lc, e_cu, e_gl, e_bin, e_neg, e_nt, e_an, e_or, e_cmp, e_chain, e_ife, ws_nil, ws_cons, e_isi, e_fld, e_sub, e_tup, e_lst, e_slc, s_asg, s_one, s_fld, s_sub, s_ex, s_ret, s_brk, s_cnt, s_pass, s_ite, ss_nil, W_ok, W_opt, b_add, b_sub, b_mul, b_div, b_mod, b_pow, sub_tup, sub_ref, at_0, at_1, at_2, ix_1_0, ix_2_0, ix_2_1, ix_3_0, ix_3_1, ix_3_2, ix_4_0, ix_4_1, ix_4_2, ix_4_3, ix_5_0, ix_5_1, ix_5_2, ix_5_3, ix_5_4, ix_6_0, ix_6_1, ix_6_2, ix_6_3, ix_6_4, ix_6_5, i_max, i_min, i_abs, i_int, i_intb, i_len_tup, bindT, setAll, cmp_eq_int, cmp_ne_int, cmp_lt_int, cmp_gt_int, cmp_le_int, cmp_ge_int, cmp_eq_bl, cmp_ne_bl, cmp_eq_str, cmp_ne_str, cmp_is, cmp_isnot, List.length_cons, List.length_nil, Int.toNat_zero, Int.toNat_one, Option.some.injEq, U.bl.injEq, U.int.injEq, U.ref.injEq, U.tup.injEq, exists_eq_left', Option.bind_some, List.getElem?_cons_zero, List.getElem?_cons_succ, List.set_cons_zero, List.set_cons_succ, decide_eq_true_eq, decide_eq_false_iff_not, e_meth0]
        refine .inr ⟨_, eM, rfl, ?_⟩
        unfold mtL
        rw [getM_of eM]
        simp only
        have hs : sln = 16777216 := PySem.sizeLine_eq
        have hl := pM.length_eq
        rw [if_pos (by rw [List.length_map]; omega)]
        try simp only [ss_cons, e_xisi, e_comp0, e_compIf0, s_for0, e_new0, e_meth0, e_bi0, e_call0, e_lc, e_cu, e_gl, e_bin, e_neg, e_nt, e_an, e_or, e_cmp, e_chain, e_ife, ws_nil, ws_cons, e_isi, e_fld, e_sub, e_tup, e_lst, e_slc, s_asg, s_one, s_fld, s_sub, s_ex, s_ret, s_brk, s_cnt, s_pass, s_ite, ss_nil, W_ok, W_opt, b_add, b_sub, b_mul, b_div, b_mod, b_pow, sub_tup, sub_ref, at_0, at_1, at_2, ix_1_0, ix_2_0, ix_2_1, ix_3_0, ix_3_1, ix_3_2, ix_4_0, ix_4_1, ix_4_2, ix_4_3, ix_5_0, ix_5_1, ix_5_2, ix_5_3, ix_5_4, ix_6_0, ix_6_1, ix_6_2, ix_6_3, ix_6_4, ix_6_5, i_max, i_min, i_abs, i_int, i_intb, i_len_tup, bindT, setAll, cmp_eq_int, cmp_ne_int, cmp_lt_int, cmp_gt_int, cmp_le_int, cmp_ge_int, cmp_eq_bl, cmp_ne_bl, cmp_eq_str, cmp_ne_str, cmp_is, cmp_isnot, List.length_cons, List.length_nil, Int.toNat_zero, Int.toNat_one, Option.some.injEq, U.bl.injEq, U.int.injEq, U.ref.injEq, U.tup.injEq, exists_eq_left', Option.bind_some, List.getElem?_cons_zero, List.getElem?_cons_succ, List.set_cons_zero, List.set_cons_succ, decide_eq_true_eq, decide_eq_false_iff_not]
        rw [if_pos hp3] at hp2
        have e1 : M.map (ent k) ++ [ent k x] = (M ++ [x]).map (ent k) := by simp
        rw [e1]
        exact ⟨trivial, fin (M ++ [x]) ((List.perm_append_singleton x M).trans ((pM.cons x).trans hp2.symm))⟩
      · rw [ss_cons]
        try simp only [e_xisi, e_comp0, e_compIf0, s_for0, e_new0, e_meth0, e_bi0, e_call0, e_lc, e_cu, e_gl, e_bin, e_neg, e_nt, e_an, e_or, e_cmp, e_chain, e_ife, ws_nil, ws_cons, e_isi, e_fld, e_sub, e_tup, e_lst, e_slc, s_asg, s_one, s_fld, s_sub, s_ex, s_ret, s_brk, s_cnt, s_pass, s_ite, ss_nil, W_ok, W_opt, b_add, b_sub, b_mul, b_div, b_mod, b_pow, sub_tup, sub_ref, at_0, at_1, at_2, ix_1_0, ix_2_0, ix_2_1, ix_3_0, ix_3_1, ix_3_2, ix_4_0, ix_4_1, ix_4_2, ix_4_3, ix_5_0, ix_5_1, ix_5_2, ix_5_3, ix_5_4, ix_6_0, ix_6_1, ix_6_2, ix_6_3, ix_6_4, ix_6_5, i_max, i_min, i_abs, i_int, i_intb, i_len_tup, bindT, setAll, cmp_eq_int, cmp_ne_int, cmp_lt_int, cmp_gt_int, cmp_le_int, cmp_ge_int, cmp_eq_bl, cmp_ne_bl, cmp_eq_str, cmp_ne_str, cmp_is, cmp_isnot, List.length_cons, List.length_nil, Int.toNat_zero, Int.toNat_one, Option.some.injEq, U.bl.injEq, U.int.injEq, U.ref.injEq, U.tup.injEq, exists_eq_left', Option.bind_some, List.getElem?_cons_zero, List.getElem?_cons_succ, List.set_cons_zero, List.set_cons_succ, decide_eq_true_eq, decide_eq_false_iff_not, e_meth0]
        refine ⟨fun _ => ?_, fun hc => absurd hc (by decide)⟩
        rw [ss_cons]
        try simp only [e_xisi, e_comp0, e_compIf0, s_for0, e_new0, e_meth0, e_bi0, e_call0, e_lc, e_cu, e_gl, e_bin, e_neg, e_nt, e_an, e_or, e_cmp, e_chain, e_ife, ws_nil, ws_cons, e_isi, e_fld, e_sub, e_tup, e_lst, e_slc, s_asg, s_one, s_fld, s_sub, s_ex, s_ret, s_brk, s_cnt, s_pass, s_ite, ss_nil, W_ok, W_opt, b_add, b_sub, b_mul, b_div, b_mod, b_pow, sub_tup, sub_ref, at_0, at_1, at_2, ix_1_0, ix_2_0, ix_2_1, ix_3_0, ix_3_1, ix_3_2, ix_4_0, ix_4_1, ix_4_2, ix_4_3, ix_5_0, ix_5_1, ix_5_2, ix_5_3, ix_5_4, ix_6_0, ix_6_1, ix_6_2, ix_6_3, ix_6_4, ix_6_5, i_max, i_min, i_abs, i_int, i_intb, i_len_tup, bindT, setAll, cmp_eq_int, cmp_ne_int, cmp_lt_int, cmp_gt_int, cmp_le_int, cmp_ge_int, cmp_eq_bl, cmp_ne_bl, cmp_eq_str, cmp_ne_str, cmp_is, cmp_isnot, List.length_cons, List.length_nil, Int.toNat_zero, Int.toNat_one, Option.some.injEq, U.bl.injEq, U.int.injEq, U.ref.injEq, U.tup.injEq, exists_eq_left', Option.bind_some, List.getElem?_cons_zero, List.getElem?_cons_succ, List.set_cons_zero, List.set_cons_succ, decide_eq_true_eq, decide_eq_false_iff_not, e_meth0]
        refine .inr ⟨_, eM, rfl, ?_⟩
        unfold mtL
        rw [getM_of eM]
        simp only
        rw [if_neg (by rw [hp3]; decide)] at hp2
        have hmem : x ∈ M := pM.symm.subset (hp2.symm.subset List.mem_cons_self)
        obtain ⟨j, j1, j2⟩ := find_ent hx gM hmem
        rw [ent_dat, ent_dats]
        simp only [j1]
        try simp only [ss_cons, e_xisi, e_comp0, e_compIf0, s_for0, e_new0, e_meth0, e_bi0, e_call0, e_lc, e_cu, e_gl, e_bin, e_neg, e_nt, e_an, e_or, e_cmp, e_chain, e_ife, ws_nil, ws_cons, e_isi, e_fld, e_sub, e_tup, e_lst, e_slc, s_asg, s_one, s_fld, s_sub, s_ex, s_ret, s_brk, s_cnt, s_pass, s_ite, ss_nil, W_ok, W_opt, b_add, b_sub, b_mul, b_div, b_mod, b_pow, sub_tup, sub_ref, at_0, at_1, at_2, ix_1_0, ix_2_0, ix_2_1, ix_3_0, ix_3_1, ix_3_2, ix_4_0, ix_4_1, ix_4_2, ix_4_3, ix_5_0, ix_5_1, ix_5_2, ix_5_3, ix_5_4, ix_6_0, ix_6_1, ix_6_2, ix_6_3, ix_6_4, ix_6_5, i_max, i_min, i_abs, i_int, i_intb, i_len_tup, bindT, setAll, cmp_eq_int, cmp_ne_int, cmp_lt_int, cmp_gt_int, cmp_le_int, cmp_ge_int, cmp_eq_bl, cmp_ne_bl, cmp_eq_str, cmp_ne_str, cmp_is, cmp_isnot, List.length_cons, List.length_nil, Int.toNat_zero, Int.toNat_one, Option.some.injEq, U.bl.injEq, U.int.injEq, U.ref.injEq, U.tup.injEq, exists_eq_left', Option.bind_some, List.getElem?_cons_zero, List.getElem?_cons_succ, List.set_cons_zero, List.set_cons_succ, decide_eq_true_eq, decide_eq_false_iff_not]
        have e1 : (M.map (ent k)).eraseIdx j = (M.eraseIdx j).map (ent k) := by
          rw [List.eraseIdx_eq_take_drop_succ, List.eraseIdx_eq_take_drop_succ, List.map_append, List.map_take, List.map_drop]
        rw [e1]
        exact ⟨trivial, fin (M.eraseIdx j) (((erase_perm j2).symm.trans (pM.trans hp2)).cons_inv)⟩
    · rcases hs with ⟨rfl, _⟩ | ⟨_, z⟩
      rotate_left
      · exact absurd hp z
      try simp only [e_xisi, e_comp0, e_compIf0, s_for0, e_new0, e_meth0, e_bi0, e_call0, e_lc, e_cu, e_gl, e_bin, e_neg, e_nt, e_an, e_or, e_cmp, e_chain, e_ife, ws_nil, ws_cons, e_isi, e_fld, e_sub, e_tup, e_lst, e_slc, s_asg, s_one, s_fld, s_sub, s_ex, s_ret, s_brk, s_cnt, s_pass, s_ite, ss_nil, W_ok, W_opt, b_add, b_sub, b_mul, b_div, b_mod, b_pow, sub_tup, sub_ref, at_0, at_1, at_2, ix_1_0, ix_2_0, ix_2_1, ix_3_0, ix_3_1, ix_3_2, ix_4_0, ix_4_1, ix_4_2, ix_4_3, ix_5_0, ix_5_1, ix_5_2, ix_5_3, ix_5_4, ix_6_0, ix_6_1, ix_6_2, ix_6_3, ix_6_4, ix_6_5, i_max, i_min, i_abs, i_int, i_intb, i_len_tup, bindT, setAll, cmp_eq_int, cmp_ne_int, cmp_lt_int, cmp_gt_int, cmp_le_int, cmp_ge_int, cmp_eq_bl, cmp_ne_bl, cmp_eq_str, cmp_ne_str, cmp_is, cmp_isnot, List.length_cons, List.length_nil, Int.toNat_zero, Int.toNat_one, Option.some.injEq, U.bl.injEq, U.int.injEq, U.ref.injEq, U.tup.injEq, exists_eq_left', Option.bind_some, List.getElem?_cons_zero, List.getElem?_cons_succ, List.set_cons_zero, List.set_cons_succ, decide_eq_true_eq, decide_eq_false_iff_not]
      refine ⟨fun hc => absurd hc (by decide), fun _ => ?_⟩
      rw [ss_cons]
      try simp only [e_xisi, e_comp0, e_compIf0, s_for0, e_new0, e_meth0, e_bi0, e_call0, e_lc, e_cu, e_gl, e_bin, e_neg, e_nt, e_an, e_or, e_cmp, e_chain, e_ife, ws_nil, ws_cons, e_isi, e_fld, e_sub, e_tup, e_lst, e_slc, s_asg, s_one, s_fld, s_sub, s_ex, s_ret, s_brk, s_cnt, s_pass, s_ite, ss_nil, W_ok, W_opt, b_add, b_sub, b_mul, b_div, b_mod, b_pow, sub_tup, sub_ref, at_0, at_1, at_2, ix_1_0, ix_2_0, ix_2_1, ix_3_0, ix_3_1, ix_3_2, ix_4_0, ix_4_1, ix_4_2, ix_4_3, ix_5_0, ix_5_1, ix_5_2, ix_5_3, ix_5_4, ix_6_0, ix_6_1, ix_6_2, ix_6_3, ix_6_4, ix_6_5, i_max, i_min, i_abs, i_int, i_intb, i_len_tup, bindT, setAll, cmp_eq_int, cmp_ne_int, cmp_lt_int, cmp_gt_int, cmp_le_int, cmp_ge_int, cmp_eq_bl, cmp_ne_bl, cmp_eq_str, cmp_ne_str, cmp_is, cmp_isnot, List.length_cons, List.length_nil, Int.toNat_zero, Int.toNat_one, Option.some.injEq, U.bl.injEq, U.int.injEq, U.ref.injEq, U.tup.injEq, exists_eq_left', Option.bind_some, List.getElem?_cons_zero, List.getElem?_cons_succ, List.set_cons_zero, List.set_cons_succ, decide_eq_true_eq, decide_eq_false_iff_not]
      refine ⟨fun hc => absurd hc (by decide), fun _ => ?_⟩
      try simp only [ss_cons, e_xisi, e_comp0, e_compIf0, s_for0, e_new0, e_meth0, e_bi0, e_call0, e_lc, e_cu, e_gl, e_bin, e_neg, e_nt, e_an, e_or, e_cmp, e_chain, e_ife, ws_nil, ws_cons, e_isi, e_fld, e_sub, e_tup, e_lst, e_slc, s_asg, s_one, s_fld, s_sub, s_ex, s_ret, s_brk, s_cnt, s_pass, s_ite, ss_nil, W_ok, W_opt, b_add, b_sub, b_mul, b_div, b_mod, b_pow, sub_tup, sub_ref, at_0, at_1, at_2, ix_1_0, ix_2_0, ix_2_1, ix_3_0, ix_3_1, ix_3_2, ix_4_0, ix_4_1, ix_4_2, ix_4_3, ix_5_0, ix_5_1, ix_5_2, ix_5_3, ix_5_4, ix_6_0, ix_6_1, ix_6_2, ix_6_3, ix_6_4, ix_6_5, i_max, i_min, i_abs, i_int, i_intb, i_len_tup, bindT, setAll, cmp_eq_int, cmp_ne_int, cmp_lt_int, cmp_gt_int, cmp_le_int, cmp_ge_int, cmp_eq_bl, cmp_ne_bl, cmp_eq_str, cmp_ne_str, cmp_is, cmp_isnot, List.length_cons, List.length_nil, Int.toNat_zero, Int.toNat_one, Option.some.injEq, U.bl.injEq, U.int.injEq, U.ref.injEq, U.tup.injEq, exists_eq_left', Option.bind_some, List.getElem?_cons_zero, List.getElem?_cons_succ, List.set_cons_zero, List.set_cons_succ, decide_eq_true_eq, decide_eq_false_iff_not]
      exact ⟨fun hc => absurd hc (by decide), fun _ => ⟨fun hc => absurd hc (by decide), fun _ => ⟨trivial, Fr.rfl', L, .inl ⟨hp, rfl⟩, pr⟩⟩⟩
  refine ⟨fun hc => ?_, fun hc => ?_⟩
  · rw [ss_cons]
    try simp only [e_xisi, e_comp0, e_compIf0, s_for0, e_new0, e_meth0, e_bi0, e_call0, e_lc, e_cu, e_gl, e_bin, e_neg, e_nt, e_an, e_or, e_cmp, e_chain, e_ife, ws_nil, ws_cons, e_isi, e_fld, e_sub, e_tup, e_lst, e_slc, s_asg, s_one, s_fld, s_sub, s_ex, s_ret, s_brk, s_cnt, s_pass, s_ite, ss_nil, W_ok, W_opt, b_add, b_sub, b_mul, b_div, b_mod, b_pow, sub_tup, sub_ref, at_0, at_1, at_2, ix_1_0, ix_2_0, ix_2_1, ix_3_0, ix_3_1, ix_3_2, ix_4_0, ix_4_1, ix_4_2, ix_4_3, ix_5_0, ix_5_1, ix_5_2, ix_5_3, ix_5_4, ix_6_0, ix_6_1, ix_6_2, ix_6_3, ix_6_4, ix_6_5, i_max, i_min, i_abs, i_int, i_intb, i_len_tup, bindT, setAll, cmp_eq_int, cmp_ne_int, cmp_lt_int, cmp_gt_int, cmp_le_int, cmp_ge_int, cmp_eq_bl, cmp_ne_bl, cmp_eq_str, cmp_ne_str, cmp_is, cmp_isnot, List.length_cons, List.length_nil, Int.toNat_zero, Int.toNat_one, Option.some.injEq, U.bl.injEq, U.int.injEq, U.ref.injEq, U.tup.injEq, exists_eq_left', Option.bind_some, List.getElem?_cons_zero, List.getElem?_cons_succ, List.set_cons_zero, List.set_cons_succ, decide_eq_true_eq, decide_eq_false_iff_not]
    exact rest "refused" (.inl ⟨rfl, by simpa using hc⟩)
  · exact rest "done" (.inr ⟨rfl, by simpa using hc⟩)
end Pl

namespace Pl
open PySem
/-- none, or one of them -/
def befU (k : Bool) : Option En → U
  | none => .non
  | some e => ent k e
theorem ent_non {k : Bool} {e : En} : ent k e ≠ .non := by cases k <;> exact fun z => nomatch z
theorem hzs {n : Nat} (h : n ≤ 1000) : n ≤ sln := Nat.le_trans h (by decide)
theorem WellAt.app {h l : AH} {a : Nat} (w : WellAt h a) : WellAt (h ++ l) a := by
  obtain ⟨x, y, z, e⟩ := w
  exact ⟨x, y, z, at_app e⟩
theorem deed_W {d : Nat} {k : Bool} {h : AH} {a q : Nat} {M : List En} {b : Option En} (w : WellAt h a) (hM : h[q]? = some (.lst (M.map (ent k)))) (hq : a ≠ q) (gM : ∀ f ∈ M, GoodE k f) (gb : ∀ e, b = some e → GoodE k e) (hz : M.length < 1000) :
    (call prg (d + 4) ._law_deed [.ref a, .bl k, befU k b, .ref q] h).W (fun u h' => Fr (At1 a) h h' ∧ WellAt h' a ∧ ∃ p e, u = .tup [.bl p, ent k e] ∧ GoodE k e) noX := by
  refine call_W (F := f__law_deed) rfl rfl ?_
  show (evSs prg ⟨call prg (d + 3), none⟩ b__law_deed [some (.ref a), some (.bl k), some (befU k b), some (.ref q), none, none] h).W _
  unfold b__law_deed
  rw [ss_cons]
  try simp only [e_xisi, e_comp0, e_compIf0, s_for0, e_new0, e_meth0, e_bi0, e_call0, e_lc, e_cu, e_gl, e_bin, e_neg, e_nt, e_an, e_or, e_cmp, e_chain, e_ife, ws_nil, ws_cons, e_isi, e_fld, e_sub, e_tup, e_lst, e_slc, s_asg, s_one, s_fld, s_sub, s_ex, s_ret, s_brk, s_cnt, s_pass, s_ite, ss_nil, W_ok, W_opt, b_add, b_sub, b_mul, b_div, b_mod, b_pow, sub_tup, sub_ref, at_0, at_1, at_2, ix_1_0, ix_2_0, ix_2_1, ix_3_0, ix_3_1, ix_3_2, ix_4_0, ix_4_1, ix_4_2, ix_4_3, ix_5_0, ix_5_1, ix_5_2, ix_5_3, ix_5_4, ix_6_0, ix_6_1, ix_6_2, ix_6_3, ix_6_4, ix_6_5, i_max, i_min, i_abs, i_int, i_intb, i_len_tup, bindT, setAll, cmp_eq_int, cmp_ne_int, cmp_lt_int, cmp_gt_int, cmp_le_int, cmp_ge_int, cmp_eq_bl, cmp_ne_bl, cmp_eq_str, cmp_ne_str, cmp_is, cmp_isnot, List.length_cons, List.length_nil, Int.toNat_zero, Int.toNat_one, Option.some.injEq, U.bl.injEq, U.int.injEq, U.ref.injEq, U.tup.injEq, exists_eq_left', Option.bind_some, List.getElem?_cons_zero, List.getElem?_cons_succ, List.set_cons_zero, List.set_cons_succ, decide_eq_true_eq, decide_eq_false_iff_not]
  refine ⟨rfl, W_no (entry_W w) ?_⟩
  rintro u h1 ⟨f1, w1, e1, g1, rfl⟩
  rw [ss_cons]
  try simp only [e_xisi, e_comp0, e_compIf0, s_for0, e_new0, e_meth0, e_bi0, e_call0, e_lc, e_cu, e_gl, e_bin, e_neg, e_nt, e_an, e_or, e_cmp, e_chain, e_ife, ws_nil, ws_cons, e_isi, e_fld, e_sub, e_tup, e_lst, e_slc, s_asg, s_one, s_fld, s_sub, s_ex, s_ret, s_brk, s_cnt, s_pass, s_ite, ss_nil, W_ok, W_opt, b_add, b_sub, b_mul, b_div, b_mod, b_pow, sub_tup, sub_ref, at_0, at_1, at_2, ix_1_0, ix_2_0, ix_2_1, ix_3_0, ix_3_1, ix_3_2, ix_4_0, ix_4_1, ix_4_2, ix_4_3, ix_5_0, ix_5_1, ix_5_2, ix_5_3, ix_5_4, ix_6_0, ix_6_1, ix_6_2, ix_6_3, ix_6_4, ix_6_5, i_max, i_min, i_abs, i_int, i_intb, i_len_tup, bindT, setAll, cmp_eq_int, cmp_ne_int, cmp_lt_int, cmp_gt_int, cmp_le_int, cmp_ge_int, cmp_eq_bl, cmp_ne_bl, cmp_eq_str, cmp_ne_str, cmp_is, cmp_isnot, List.length_cons, List.length_nil, Int.toNat_zero, Int.toNat_one, Option.some.injEq, U.bl.injEq, U.int.injEq, U.ref.injEq, U.tup.injEq, exists_eq_left', Option.bind_some, List.getElem?_cons_zero, List.getElem?_cons_succ, List.set_cons_zero, List.set_cons_succ, decide_eq_true_eq, decide_eq_false_iff_not]
  refine ⟨rfl, W_no (draw_W w1 (by decide) (by decide)) ?_⟩
  rintro u h2 ⟨f2, w2, r, rfl, r0, r1⟩
  rw [ss_cons]
  try simp only [e_xisi, e_comp0, e_compIf0, s_for0, e_new0, e_meth0, e_bi0, e_call0, e_lc, e_cu, e_gl, e_bin, e_neg, e_nt, e_an, e_or, e_cmp, e_chain, e_ife, ws_nil, ws_cons, e_isi, e_fld, e_sub, e_tup, e_lst, e_slc, s_asg, s_one, s_fld, s_sub, s_ex, s_ret, s_brk, s_cnt, s_pass, s_ite, ss_nil, W_ok, W_opt, b_add, b_sub, b_mul, b_div, b_mod, b_pow, sub_tup, sub_ref, at_0, at_1, at_2, ix_1_0, ix_2_0, ix_2_1, ix_3_0, ix_3_1, ix_3_2, ix_4_0, ix_4_1, ix_4_2, ix_4_3, ix_5_0, ix_5_1, ix_5_2, ix_5_3, ix_5_4, ix_6_0, ix_6_1, ix_6_2, ix_6_3, ix_6_4, ix_6_5, i_max, i_min, i_abs, i_int, i_intb, i_len_tup, bindT, setAll, cmp_eq_int, cmp_ne_int, cmp_lt_int, cmp_gt_int, cmp_le_int, cmp_ge_int, cmp_eq_bl, cmp_ne_bl, cmp_eq_str, cmp_ne_str, cmp_is, cmp_isnot, List.length_cons, List.length_nil, Int.toNat_zero, Int.toNat_one, Option.some.injEq, U.bl.injEq, U.int.injEq, U.ref.injEq, U.tup.injEq, exists_eq_left', Option.bind_some, List.getElem?_cons_zero, List.getElem?_cons_succ, List.set_cons_zero, List.set_cons_succ, decide_eq_true_eq, decide_eq_false_iff_not]
  have nq : ¬ At1 a q := fun z => hq z.symm
  have hM2 := f2.same _ _ nq (f1.same _ _ nq hM)
  have f12 := f1.trans f2
  have last : ∀ (h3 : AH) (e : En), GoodE k e → WellAt h3 a → Fr (At1 a) h h3 → (evSs prg ⟨call prg (d + 3), none⟩ [.ret (.tup [.cmp .lt (.call ._law_draw [.lc 0, .cu (.int 5)]) (.cu (.int 3)), .lc 4])] [some (.ref a), some (.bl k), some (befU k b), some (.ref q), some (ent k e), some (.int r)] h3).W { nx := fun _ h' => Fr (At1 a) h h' ∧ WellAt h' a ∧ ∃ p e, U.non = .tup [.bl p, ent k e] ∧ GoodE k e, rt := fun u h' => Fr (At1 a) h h' ∧ WellAt h' a ∧ ∃ p e, u = .tup [.bl p, ent k e] ∧ GoodE k e, xc := fun c fs _ h => noX c fs h } := fun h3 e ge w3 f3 => by
    try simp only [ss_cons, e_xisi, e_comp0, e_compIf0, s_for0, e_new0, e_meth0, e_bi0, e_call0, e_lc, e_cu, e_gl, e_bin, e_neg, e_nt, e_an, e_or, e_cmp, e_chain, e_ife, ws_nil, ws_cons, e_isi, e_fld, e_sub, e_tup, e_lst, e_slc, s_asg, s_one, s_fld, s_sub, s_ex, s_ret, s_brk, s_cnt, s_pass, s_ite, ss_nil, W_ok, W_opt, b_add, b_sub, b_mul, b_div, b_mod, b_pow, sub_tup, sub_ref, at_0, at_1, at_2, ix_1_0, ix_2_0, ix_2_1, ix_3_0, ix_3_1, ix_3_2, ix_4_0, ix_4_1, ix_4_2, ix_4_3, ix_5_0, ix_5_1, ix_5_2, ix_5_3, ix_5_4, ix_6_0, ix_6_1, ix_6_2, ix_6_3, ix_6_4, ix_6_5, i_max, i_min, i_abs, i_int, i_intb, i_len_tup, bindT, setAll, cmp_eq_int, cmp_ne_int, cmp_lt_int, cmp_gt_int, cmp_le_int, cmp_ge_int, cmp_eq_bl, cmp_ne_bl, cmp_eq_str, cmp_ne_str, cmp_is, cmp_isnot, List.length_cons, List.length_nil, Int.toNat_zero, Int.toNat_one, Option.some.injEq, U.bl.injEq, U.int.injEq, U.ref.injEq, U.tup.injEq, exists_eq_left', Option.bind_some, List.getElem?_cons_zero, List.getElem?_cons_succ, List.set_cons_zero, List.set_cons_succ, decide_eq_true_eq, decide_eq_false_iff_not]
    refine ⟨rfl, W_no (draw_W w3 (by decide) (by decide)) ?_⟩
    rintro u h4 ⟨f4, w4, r', rfl, _⟩
    try simp only [e_xisi, e_comp0, e_compIf0, s_for0, e_new0, e_meth0, e_bi0, e_call0, e_lc, e_cu, e_gl, e_bin, e_neg, e_nt, e_an, e_or, e_cmp, e_chain, e_ife, ws_nil, ws_cons, e_isi, e_fld, e_sub, e_tup, e_lst, e_slc, s_asg, s_one, s_fld, s_sub, s_ex, s_ret, s_brk, s_cnt, s_pass, s_ite, ss_nil, W_ok, W_opt, b_add, b_sub, b_mul, b_div, b_mod, b_pow, sub_tup, sub_ref, at_0, at_1, at_2, ix_1_0, ix_2_0, ix_2_1, ix_3_0, ix_3_1, ix_3_2, ix_4_0, ix_4_1, ix_4_2, ix_4_3, ix_5_0, ix_5_1, ix_5_2, ix_5_3, ix_5_4, ix_6_0, ix_6_1, ix_6_2, ix_6_3, ix_6_4, ix_6_5, i_max, i_min, i_abs, i_int, i_intb, i_len_tup, bindT, setAll, cmp_eq_int, cmp_ne_int, cmp_lt_int, cmp_gt_int, cmp_le_int, cmp_ge_int, cmp_eq_bl, cmp_ne_bl, cmp_eq_str, cmp_ne_str, cmp_is, cmp_isnot, List.length_cons, List.length_nil, Int.toNat_zero, Int.toNat_one, Option.some.injEq, U.bl.injEq, U.int.injEq, U.ref.injEq, U.tup.injEq, exists_eq_left', Option.bind_some, List.getElem?_cons_zero, List.getElem?_cons_succ, List.set_cons_zero, List.set_cons_succ, decide_eq_true_eq, decide_eq_false_iff_not]
    exact ⟨hzs (by decide), f3.trans f4, w4, _, e, rfl, ge⟩
  have mid : ∀ (e : En), GoodE k e → (evSs prg ⟨call prg (d + 3), none⟩ [.ite (.an (.cmp .eq (.lc 5) (.cu (.int 2))) (.cmp .ne (.lc 3) (.lst []))) [.asg (.one 4) (.sub (.lc 3) (.call ._law_draw [.lc 0, .bi .len [.lc 3]]))] [], .ret (.tup [.cmp .lt (.call ._law_draw [.lc 0, .cu (.int 5)]) (.cu (.int 3)), .lc 4])] [some (.ref a), some (.bl k), some (befU k b), some (.ref q), some (ent k e), some (.int r)] h2).W { nx := fun _ h' => Fr (At1 a) h h' ∧ WellAt h' a ∧ ∃ p e, U.non = .tup [.bl p, ent k e] ∧ GoodE k e, rt := fun u h' => Fr (At1 a) h h' ∧ WellAt h' a ∧ ∃ p e, u = .tup [.bl p, ent k e] ∧ GoodE k e, xc := fun c fs _ h => noX c fs h } := fun e ge => by
    rw [ss_cons]
    try simp only [e_xisi, e_comp0, e_compIf0, s_for0, e_new0, e_meth0, e_bi0, e_call0, e_lc, e_cu, e_gl, e_bin, e_neg, e_nt, e_an, e_or, e_cmp, e_chain, e_ife, ws_nil, ws_cons, e_isi, e_fld, e_sub, e_tup, e_lst, e_slc, s_asg, s_one, s_fld, s_sub, s_ex, s_ret, s_brk, s_cnt, s_pass, s_ite, ss_nil, W_ok, W_opt, b_add, b_sub, b_mul, b_div, b_mod, b_pow, sub_tup, sub_ref, at_0, at_1, at_2, ix_1_0, ix_2_0, ix_2_1, ix_3_0, ix_3_1, ix_3_2, ix_4_0, ix_4_1, ix_4_2, ix_4_3, ix_5_0, ix_5_1, ix_5_2, ix_5_3, ix_5_4, ix_6_0, ix_6_1, ix_6_2, ix_6_3, ix_6_4, ix_6_5, i_max, i_min, i_abs, i_int, i_intb, i_len_tup, bindT, setAll, cmp_eq_int, cmp_ne_int, cmp_lt_int, cmp_gt_int, cmp_le_int, cmp_ge_int, cmp_eq_bl, cmp_ne_bl, cmp_eq_str, cmp_ne_str, cmp_is, cmp_isnot, List.length_cons, List.length_nil, Int.toNat_zero, Int.toNat_one, Option.some.injEq, U.bl.injEq, U.int.injEq, U.ref.injEq, U.tup.injEq, exists_eq_left', Option.bind_some, List.getElem?_cons_zero, List.getElem?_cons_succ, List.set_cons_zero, List.set_cons_succ, decide_eq_true_eq, decide_eq_false_iff_not]
    refine ⟨fun hr => ⟨hzs (by decide), ?_⟩, fun hr => ⟨fun z => (nomatch z), fun _ => last h2 e ge w2 f12⟩⟩
    have eq0 := eq_lists (k := k) (h := h2 ++ [.lst []]) (a := q) (b := h2.length) (L := M) (M := []) (getL_app (getL_of hM2)) (getL_of at_new) gM (fun _ z => nomatch z)
    have hne : cmpop .ne (.ref q) (.ref h2.length) (h2 ++ [.lst []]) = some (!decide (M = [])) := by
      show (eqU (h2 ++ [.lst []]) (.ref q) (.ref h2.length)).map (!·) = _
      rw [eq0]
      rfl
    have w3 : WellAt (h2 ++ [.lst []]) a := w2.app
    have f3 : Fr (At1 a) h (h2 ++ [.lst []]) := f12.trans Fr.app
    have hM3 : (h2 ++ [Ob.lst []])[q]? = some (.lst (M.map (ent k))) := at_app hM2
    try simp only [e_xisi, e_comp0, e_compIf0, s_for0, e_new0, e_meth0, e_bi0, e_call0, e_lc, e_cu, e_gl, e_bin, e_neg, e_nt, e_an, e_or, e_cmp, e_chain, e_ife, ws_nil, ws_cons, e_isi, e_fld, e_sub, e_tup, e_lst, e_slc, s_asg, s_one, s_fld, s_sub, s_ex, s_ret, s_brk, s_cnt, s_pass, s_ite, ss_nil, W_ok, W_opt, b_add, b_sub, b_mul, b_div, b_mod, b_pow, sub_tup, sub_ref, at_0, at_1, at_2, ix_1_0, ix_2_0, ix_2_1, ix_3_0, ix_3_1, ix_3_2, ix_4_0, ix_4_1, ix_4_2, ix_4_3, ix_5_0, ix_5_1, ix_5_2, ix_5_3, ix_5_4, ix_6_0, ix_6_1, ix_6_2, ix_6_3, ix_6_4, ix_6_5, i_max, i_min, i_abs, i_int, i_intb, i_len_tup, bindT, setAll, cmp_eq_int, cmp_ne_int, cmp_lt_int, cmp_gt_int, cmp_le_int, cmp_ge_int, cmp_eq_bl, cmp_ne_bl, cmp_eq_str, cmp_ne_str, cmp_is, cmp_isnot, List.length_cons, List.length_nil, Int.toNat_zero, Int.toNat_one, Option.some.injEq, U.bl.injEq, U.int.injEq, U.ref.injEq, U.tup.injEq, exists_eq_left', Option.bind_some, List.getElem?_cons_zero, List.getElem?_cons_succ, List.set_cons_zero, List.set_cons_succ, decide_eq_true_eq, decide_eq_false_iff_not, hne]
    refine ⟨fun hc => ?_, fun hc => last _ e ge w3 f3⟩
    have hne2 : M ≠ [] := by simpa using hc
    rw [ss_cons]
    try simp only [e_xisi, e_comp0, e_compIf0, s_for0, e_new0, e_meth0, e_bi0, e_call0, e_lc, e_cu, e_gl, e_bin, e_neg, e_nt, e_an, e_or, e_cmp, e_chain, e_ife, ws_nil, ws_cons, e_isi, e_fld, e_sub, e_tup, e_lst, e_slc, s_asg, s_one, s_fld, s_sub, s_ex, s_ret, s_brk, s_cnt, s_pass, s_ite, ss_nil, W_ok, W_opt, b_add, b_sub, b_mul, b_div, b_mod, b_pow, sub_tup, sub_ref, at_0, at_1, at_2, ix_1_0, ix_2_0, ix_2_1, ix_3_0, ix_3_1, ix_3_2, ix_4_0, ix_4_1, ix_4_2, ix_4_3, ix_5_0, ix_5_1, ix_5_2, ix_5_3, ix_5_4, ix_6_0, ix_6_1, ix_6_2, ix_6_3, ix_6_4, ix_6_5, i_max, i_min, i_abs, i_int, i_intb, i_len_tup, bindT, setAll, cmp_eq_int, cmp_ne_int, cmp_lt_int, cmp_gt_int, cmp_le_int, cmp_ge_int, cmp_eq_bl, cmp_ne_bl, cmp_eq_str, cmp_ne_str, cmp_is, cmp_isnot, List.length_cons, List.length_nil, Int.toNat_zero, Int.toNat_one, Option.some.injEq, U.bl.injEq, U.int.injEq, U.ref.injEq, U.tup.injEq, exists_eq_left', Option.bind_some, List.getElem?_cons_zero, List.getElem?_cons_succ, List.set_cons_zero, List.set_cons_succ, decide_eq_true_eq, decide_eq_false_iff_not]
    rw [i_len_ref (getL_of hM3), List.length_map]
    have hpos : 0 < M.length := List.length_pos_iff.mpr hne2
    refine ⟨rfl, W_no (draw_W w3 (by omega) (by omega)) ?_⟩
    rintro u h4 ⟨f4, w4, j, rfl, j0, j1⟩
    have hM4 := f4.same _ _ nq hM3
    try simp only [e_xisi, e_comp0, e_compIf0, s_for0, e_new0, e_meth0, e_bi0, e_call0, e_lc, e_cu, e_gl, e_bin, e_neg, e_nt, e_an, e_or, e_cmp, e_chain, e_ife, ws_nil, ws_cons, e_isi, e_fld, e_sub, e_tup, e_lst, e_slc, s_asg, s_one, s_fld, s_sub, s_ex, s_ret, s_brk, s_cnt, s_pass, s_ite, ss_nil, W_ok, W_opt, b_add, b_sub, b_mul, b_div, b_mod, b_pow, sub_tup, sub_ref, at_0, at_1, at_2, ix_1_0, ix_2_0, ix_2_1, ix_3_0, ix_3_1, ix_3_2, ix_4_0, ix_4_1, ix_4_2, ix_4_3, ix_5_0, ix_5_1, ix_5_2, ix_5_3, ix_5_4, ix_6_0, ix_6_1, ix_6_2, ix_6_3, ix_6_4, ix_6_5, i_max, i_min, i_abs, i_int, i_intb, i_len_tup, bindT, setAll, cmp_eq_int, cmp_ne_int, cmp_lt_int, cmp_gt_int, cmp_le_int, cmp_ge_int, cmp_eq_bl, cmp_ne_bl, cmp_eq_str, cmp_ne_str, cmp_is, cmp_isnot, List.length_cons, List.length_nil, Int.toNat_zero, Int.toNat_one, Option.some.injEq, U.bl.injEq, U.int.injEq, U.ref.injEq, U.tup.injEq, exists_eq_left', Option.bind_some, List.getElem?_cons_zero, List.getElem?_cons_succ, List.set_cons_zero, List.set_cons_succ, decide_eq_true_eq, decide_eq_false_iff_not, getL_of hM4]
    have hj : j.toNat < M.length := by omega
    have hat : (M.map (ent k))[j.toNat]? = some (ent k M[j.toNat]) := by rw [List.getElem?_map, List.getElem?_eq_getElem hj]; rfl
    refine ⟨ent k M[j.toNat], by rw [at_int j0]; exact hat, ?_⟩
    exact last h4 _ (gM _ (List.getElem_mem hj)) w4 (f3.trans f4)
  refine ⟨fun hr => ⟨fun hb => ?_, fun hb => mid e1 g1⟩, fun hr => ⟨fun z => (nomatch z), fun _ => mid e1 g1⟩⟩
  cases b with
  | none => cases hb
  | some e =>
    rw [ss_cons]
    try simp only [e_xisi, e_comp0, e_compIf0, s_for0, e_new0, e_meth0, e_bi0, e_call0, e_lc, e_cu, e_gl, e_bin, e_neg, e_nt, e_an, e_or, e_cmp, e_chain, e_ife, ws_nil, ws_cons, e_isi, e_fld, e_sub, e_tup, e_lst, e_slc, s_asg, s_one, s_fld, s_sub, s_ex, s_ret, s_brk, s_cnt, s_pass, s_ite, ss_nil, W_ok, W_opt, b_add, b_sub, b_mul, b_div, b_mod, b_pow, sub_tup, sub_ref, at_0, at_1, at_2, ix_1_0, ix_2_0, ix_2_1, ix_3_0, ix_3_1, ix_3_2, ix_4_0, ix_4_1, ix_4_2, ix_4_3, ix_5_0, ix_5_1, ix_5_2, ix_5_3, ix_5_4, ix_6_0, ix_6_1, ix_6_2, ix_6_3, ix_6_4, ix_6_5, i_max, i_min, i_abs, i_int, i_intb, i_len_tup, bindT, setAll, cmp_eq_int, cmp_ne_int, cmp_lt_int, cmp_gt_int, cmp_le_int, cmp_ge_int, cmp_eq_bl, cmp_ne_bl, cmp_eq_str, cmp_ne_str, cmp_is, cmp_isnot, List.length_cons, List.length_nil, Int.toNat_zero, Int.toNat_one, Option.some.injEq, U.bl.injEq, U.int.injEq, U.ref.injEq, U.tup.injEq, exists_eq_left', Option.bind_some, List.getElem?_cons_zero, List.getElem?_cons_succ, List.set_cons_zero, List.set_cons_succ, decide_eq_true_eq, decide_eq_false_iff_not]
    exact mid e (gb e rfl)
theorem wellnew_W {d : Nat} {h : AH} {c : Int} : (call prg (d + 1) ._law_well [.int c] h).W (fun u h' => u = .ref h.length ∧ ∃ x y z, h' = h ++ [.lst (well x y z)]) noX := by
  refine call_W (F := f__law_well) rfl rfl ?_
  show (evSs prg ⟨call prg d, none⟩ b__law_well [some (.int c)] h).W _
  unfold b__law_well
  try simp only [ss_cons, e_xisi, e_comp0, e_compIf0, s_for0, e_new0, e_meth0, e_bi0, e_call0, e_lc, e_cu, e_gl, e_bin, e_neg, e_nt, e_an, e_or, e_cmp, e_chain, e_ife, ws_nil, ws_cons, e_isi, e_fld, e_sub, e_tup, e_lst, e_slc, s_asg, s_one, s_fld, s_sub, s_ex, s_ret, s_brk, s_cnt, s_pass, s_ite, ss_nil, W_ok, W_opt, b_add, b_sub, b_mul, b_div, b_mod, b_pow, sub_tup, sub_ref, at_0, at_1, at_2, ix_1_0, ix_2_0, ix_2_1, ix_3_0, ix_3_1, ix_3_2, ix_4_0, ix_4_1, ix_4_2, ix_4_3, ix_5_0, ix_5_1, ix_5_2, ix_5_3, ix_5_4, ix_6_0, ix_6_1, ix_6_2, ix_6_3, ix_6_4, ix_6_5, i_max, i_min, i_abs, i_int, i_intb, i_len_tup, bindT, setAll, cmp_eq_int, cmp_ne_int, cmp_lt_int, cmp_gt_int, cmp_le_int, cmp_ge_int, cmp_eq_bl, cmp_ne_bl, cmp_eq_str, cmp_ne_str, cmp_is, cmp_isnot, List.length_cons, List.length_nil, Int.toNat_zero, Int.toNat_one, Option.some.injEq, U.bl.injEq, U.int.injEq, U.ref.injEq, U.tup.injEq, exists_eq_left', Option.bind_some, List.getElem?_cons_zero, List.getElem?_cons_succ, List.set_cons_zero, List.set_cons_succ, decide_eq_true_eq, decide_eq_false_iff_not]
  refine ⟨half_big, by decide, .inr ?_, by decide, hzs (by decide), ?_⟩
  · have := Int.emod_nonneg c (show (2 : Int) ≠ 0 by decide)
    have := Int.emod_lt_of_pos c (show (0 : Int) < 2 by decide)
    constructor <;> omega
  · exact ⟨trivial, _, _, _, rfl⟩
theorem bound_W {d : Nat} {k : Bool} {h : AH} {a q : Nat} {M : List En} (w : WellAt h a) (hM : h[q]? = some (.lst (M.map (ent k)))) (hq : a ≠ q) (hz : M.length < 900) :
    (call prg (d + 3) ._law_bound [.ref a, .ref q] h).W (fun u h' => Fr (At1 a) h h' ∧ WellAt h' a ∧ ∃ b, u = bnd b) noX := by
  refine call_W (F := f__law_bound) rfl rfl ?_
  show (evSs prg ⟨call prg (d + 2), none⟩ b__law_bound [some (.ref a), some (.ref q), none, none] h).W _
  unfold b__law_bound
  rw [ss_cons]
  try simp only [e_xisi, e_comp0, e_compIf0, s_for0, e_new0, e_meth0, e_bi0, e_call0, e_lc, e_cu, e_gl, e_bin, e_neg, e_nt, e_an, e_or, e_cmp, e_chain, e_ife, ws_nil, ws_cons, e_isi, e_fld, e_sub, e_tup, e_lst, e_slc, s_asg, s_one, s_fld, s_sub, s_ex, s_ret, s_brk, s_cnt, s_pass, s_ite, ss_nil, W_ok, W_opt, b_add, b_sub, b_mul, b_div, b_mod, b_pow, sub_tup, sub_ref, at_0, at_1, at_2, ix_1_0, ix_2_0, ix_2_1, ix_3_0, ix_3_1, ix_3_2, ix_4_0, ix_4_1, ix_4_2, ix_4_3, ix_5_0, ix_5_1, ix_5_2, ix_5_3, ix_5_4, ix_6_0, ix_6_1, ix_6_2, ix_6_3, ix_6_4, ix_6_5, i_max, i_min, i_abs, i_int, i_intb, i_len_tup, bindT, setAll, cmp_eq_int, cmp_ne_int, cmp_lt_int, cmp_gt_int, cmp_le_int, cmp_ge_int, cmp_eq_bl, cmp_ne_bl, cmp_eq_str, cmp_ne_str, cmp_is, cmp_isnot, List.length_cons, List.length_nil, Int.toNat_zero, Int.toNat_one, Option.some.injEq, U.bl.injEq, U.int.injEq, U.ref.injEq, U.tup.injEq, exists_eq_left', Option.bind_some, List.getElem?_cons_zero, List.getElem?_cons_succ, List.set_cons_zero, List.set_cons_succ, decide_eq_true_eq, decide_eq_false_iff_not]
  refine ⟨rfl, W_no (value_W w) ?_⟩
  rintro u h1 ⟨f1, w1, v, rfl⟩
  have nq : ¬ At1 a q := fun z => hq z.symm
  have hM1 := f1.same _ _ nq hM
  have hM2 : (h1 ++ [Ob.lst [.non, .int v]])[q]? = some (.lst (M.map (ent k))) := at_app hM1
  refine ⟨hzs (by decide), (M.map (ent k), [(q, M.map (ent k))]), by show (match getL _ q with | some xs => some (xs, [(q, xs)]) | none => none) = _; rw [getL_of hM2], ?_⟩
  refine comp_map (fun x => some ((subop x (.int 0) h).getD .non)) (by rw [List.length_map]; exact hzs (by omega)) (fun acc => stands_one (getL_app (getL_of hM2))) ?_ ?_
  · intro x hx acc
    obtain ⟨f, hf, rfl⟩ := List.mem_map.mp hx
    try simp only [e_xisi, e_comp0, e_compIf0, s_for0, e_new0, e_meth0, e_bi0, e_call0, e_lc, e_cu, e_gl, e_bin, e_neg, e_nt, e_an, e_or, e_cmp, e_chain, e_ife, ws_nil, ws_cons, e_isi, e_fld, e_sub, e_tup, e_lst, e_slc, s_asg, s_one, s_fld, s_sub, s_ex, s_ret, s_brk, s_cnt, s_pass, s_ite, ss_nil, W_ok, W_opt, b_add, b_sub, b_mul, b_div, b_mod, b_pow, sub_tup, sub_ref, at_0, at_1, at_2, ix_1_0, ix_2_0, ix_2_1, ix_3_0, ix_3_1, ix_3_2, ix_4_0, ix_4_1, ix_4_2, ix_4_3, ix_5_0, ix_5_1, ix_5_2, ix_5_3, ix_5_4, ix_6_0, ix_6_1, ix_6_2, ix_6_3, ix_6_4, ix_6_5, i_max, i_min, i_abs, i_int, i_intb, i_len_tup, bindT, setAll, cmp_eq_int, cmp_ne_int, cmp_lt_int, cmp_gt_int, cmp_le_int, cmp_ge_int, cmp_eq_bl, cmp_ne_bl, cmp_eq_str, cmp_ne_str, cmp_is, cmp_isnot, List.length_cons, List.length_nil, Int.toNat_zero, Int.toNat_one, Option.some.injEq, U.bl.injEq, U.int.injEq, U.ref.injEq, U.tup.injEq, exists_eq_left', Option.bind_some, List.getElem?_cons_zero, List.getElem?_cons_succ, List.set_cons_zero, List.set_cons_succ, decide_eq_true_eq, decide_eq_false_iff_not, W_bind, List.set_cons_zero, List.set_cons_succ, ent_at0, Option.getD_some]
    exact ⟨trivial, trivial⟩
  · rw [filterMap_all (v := fun f => .int f.1) (fun f => by rw [ent_at0]; rfl)]
    have hl1 : getL (h1 ++ [Ob.lst [.non, .int v]] ++ [Ob.lst (M.map fun f => U.int f.1)]) h1.length = some [.non, .int v] := getL_app (getL_of at_new)
    have hl2 : getL (h1 ++ [Ob.lst [.non, .int v]] ++ [Ob.lst (M.map fun f => U.int f.1)]) (h1 ++ [Ob.lst [.non, .int v]]).length = some (M.map fun f => U.int f.1) := getL_of at_new
    refine b_cat hl1 hl2 (by rw [List.length_map]; exact hzs (by simp; omega)) ?_
    generalize hh : h1 ++ [Ob.lst [.non, .int v]] ++ [Ob.lst (M.map fun f => U.int f.1)] = h2 at *
    have w2 : WellAt h2 a := by rw [← hh]; exact w1.app.app
    have f2 : Fr (At1 a) h h2 := by rw [← hh]; exact (f1.trans Fr.app).trans Fr.app
    rw [ss_cons]
    try simp only [e_xisi, e_comp0, e_compIf0, s_for0, e_new0, e_meth0, e_bi0, e_call0, e_lc, e_cu, e_gl, e_bin, e_neg, e_nt, e_an, e_or, e_cmp, e_chain, e_ife, ws_nil, ws_cons, e_isi, e_fld, e_sub, e_tup, e_lst, e_slc, s_asg, s_one, s_fld, s_sub, s_ex, s_ret, s_brk, s_cnt, s_pass, s_ite, ss_nil, W_ok, W_opt, b_add, b_sub, b_mul, b_div, b_mod, b_pow, sub_tup, sub_ref, at_0, at_1, at_2, ix_1_0, ix_2_0, ix_2_1, ix_3_0, ix_3_1, ix_3_2, ix_4_0, ix_4_1, ix_4_2, ix_4_3, ix_5_0, ix_5_1, ix_5_2, ix_5_3, ix_5_4, ix_6_0, ix_6_1, ix_6_2, ix_6_3, ix_6_4, ix_6_5, i_max, i_min, i_abs, i_int, i_intb, i_len_tup, bindT, setAll, cmp_eq_int, cmp_ne_int, cmp_lt_int, cmp_gt_int, cmp_le_int, cmp_ge_int, cmp_eq_bl, cmp_ne_bl, cmp_eq_str, cmp_ne_str, cmp_is, cmp_isnot, List.length_cons, List.length_nil, Int.toNat_zero, Int.toNat_one, Option.some.injEq, U.bl.injEq, U.int.injEq, U.ref.injEq, U.tup.injEq, exists_eq_left', Option.bind_some, List.getElem?_cons_zero, List.getElem?_cons_succ, List.set_cons_zero, List.set_cons_succ, decide_eq_true_eq, decide_eq_false_iff_not]
    have hg : getL (h2 ++ [Ob.lst ([.non, .int v] ++ M.map fun f => U.int f.1)]) h2.length = some ([.non, .int v] ++ M.map fun f => U.int f.1) := getL_of at_new
    rw [i_len_ref hg]
    refine ⟨rfl, W_no (draw_W w2.app (by simp; omega) (by simp; omega)) ?_⟩
    rintro u h3 ⟨f3, w3, j, rfl, j0, j1⟩
    have na : ¬ At1 a h2.length := fun z => by
      obtain ⟨x, y, zz, e⟩ := w2
      exact absurd (lt_of_at e) (by rw [← z]; exact Nat.lt_irrefl _)
    have hg3 := f3.same _ _ na (at_new (h := h2) (o := Ob.lst ([.non, .int v] ++ M.map fun f => U.int f.1)))
    try simp only [e_xisi, e_comp0, e_compIf0, s_for0, e_new0, e_meth0, e_bi0, e_call0, e_lc, e_cu, e_gl, e_bin, e_neg, e_nt, e_an, e_or, e_cmp, e_chain, e_ife, ws_nil, ws_cons, e_isi, e_fld, e_sub, e_tup, e_lst, e_slc, s_asg, s_one, s_fld, s_sub, s_ex, s_ret, s_brk, s_cnt, s_pass, s_ite, ss_nil, W_ok, W_opt, b_add, b_sub, b_mul, b_div, b_mod, b_pow, sub_tup, sub_ref, at_0, at_1, at_2, ix_1_0, ix_2_0, ix_2_1, ix_3_0, ix_3_1, ix_3_2, ix_4_0, ix_4_1, ix_4_2, ix_4_3, ix_5_0, ix_5_1, ix_5_2, ix_5_3, ix_5_4, ix_6_0, ix_6_1, ix_6_2, ix_6_3, ix_6_4, ix_6_5, i_max, i_min, i_abs, i_int, i_intb, i_len_tup, bindT, setAll, cmp_eq_int, cmp_ne_int, cmp_lt_int, cmp_gt_int, cmp_le_int, cmp_ge_int, cmp_eq_bl, cmp_ne_bl, cmp_eq_str, cmp_ne_str, cmp_is, cmp_isnot, List.length_cons, List.length_nil, Int.toNat_zero, Int.toNat_one, Option.some.injEq, U.bl.injEq, U.int.injEq, U.ref.injEq, U.tup.injEq, exists_eq_left', Option.bind_some, List.getElem?_cons_zero, List.getElem?_cons_succ, List.set_cons_zero, List.set_cons_succ, decide_eq_true_eq, decide_eq_false_iff_not, getL_of hg3]
    have hj : j.toNat < ([U.non, .int v] ++ M.map fun f => U.int f.1).length := by omega
    refine ⟨_, by rw [at_int j0]; exact List.getElem?_eq_getElem hj, ((f2.trans Fr.app).trans f3), w3, ?_⟩
    have hm := List.getElem_mem hj
    rcases List.mem_append.mp hm with z | z
    · rcases List.mem_cons.mp z with z | z
      · exact ⟨none, z⟩
      · rcases List.mem_cons.mp z with z | z
        · exact ⟨some v, z⟩
        · cases z
    · obtain ⟨f, _, e⟩ := List.mem_map.mp z
      exact ⟨some f.1, e.symm⟩
end Pl

namespace Pl
open PySem
theorem Pair.app {k : Bool} {h l : AH} {i e q : Nat} {L : List En} (p : Pair k h i e q L) : Pair k (h ++ l) i e q L := p.fr (S := fun _ => False) Fr.app id id id
theorem bnd_non {b : Option Int} : decide (bnd b = .non) = b.isNone := by cases b <;> rfl
theorem shown_W {d : Nat} {k : Bool} {h : AH} {i e q : Nat} {L : List En} {lo hi : Option Int} (pr : Pair k h i e q L) (hz : L.length < 900) :
    (call prg (d + 3) ._law_shown [.ref i, .ref q, bnd lo, bnd hi] h).W (fun u h' => u = .bl true ∧ Fr (fun _ => False) h h') noX := by
  obtain ⟨M, hM, pM⟩ := pr.kept
  have gM : ∀ f ∈ M, GoodE k f := fun f hf => pr.ix.good f (pM.subset hf)
  have eS : sortE M = L := sorted_uniq pr.ix.ord (sortE_sorted M) ((sortE_perm M).trans pM)
  refine call_W (F := f__law_shown) rfl rfl ?_
  show (evSs prg ⟨call prg (d + 2), none⟩ b__law_shown [some (.ref i), some (.ref q), some (bnd lo), some (bnd hi), none, none, none] h).W _
  unfold b__law_shown
  rw [ss_cons]
  try simp only [e_xisi, e_comp0, e_compIf0, s_for0, e_new0, e_meth0, e_bi0, e_call0, e_lc, e_cu, e_gl, e_bin, e_neg, e_nt, e_an, e_or, e_cmp, e_chain, e_ife, ws_nil, ws_cons, e_isi, e_fld, e_sub, e_tup, e_lst, e_slc, s_asg, s_one, s_fld, s_sub, s_ex, s_ret, s_brk, s_cnt, s_pass, s_ite, ss_nil, W_ok, W_opt, b_add, b_sub, b_mul, b_div, b_mod, b_pow, sub_tup, sub_ref, at_0, at_1, at_2, ix_1_0, ix_2_0, ix_2_1, ix_3_0, ix_3_1, ix_3_2, ix_4_0, ix_4_1, ix_4_2, ix_4_3, ix_5_0, ix_5_1, ix_5_2, ix_5_3, ix_5_4, ix_6_0, ix_6_1, ix_6_2, ix_6_3, ix_6_4, ix_6_5, i_max, i_min, i_abs, i_int, i_intb, i_len_tup, bindT, setAll, cmp_eq_int, cmp_ne_int, cmp_lt_int, cmp_gt_int, cmp_le_int, cmp_ge_int, cmp_eq_bl, cmp_ne_bl, cmp_eq_str, cmp_ne_str, cmp_is, cmp_isnot, List.length_cons, List.length_nil, Int.toNat_zero, Int.toNat_one, Option.some.injEq, U.bl.injEq, U.int.injEq, U.ref.injEq, U.tup.injEq, exists_eq_left', Option.bind_some, List.getElem?_cons_zero, List.getElem?_cons_succ, List.set_cons_zero, List.set_cons_succ, decide_eq_true_eq, decide_eq_false_iff_not]
  rw [i_sorted (getL_of hM) gM, eS]
  have g1 : getL (h ++ [Ob.lst (L.map (ent k))]) h.length = some (L.map (ent k)) := getL_of at_new
  refine ⟨(L.map (ent k), [(h.length, L.map (ent k))]), by show (match getL _ _ with | some xs => some (xs, [(h.length, xs)]) | none => none) = _; rw [g1], ?_⟩
  refine comp_map (fun x => if loB lo ((match x with | .tup (.int v :: _) => v | _ => 0)) = true then some x else none) (by rw [List.length_map]; exact hzs (by omega)) (fun acc => stands_one (getL_app g1)) ?_ ?_
  · intro x hx acc
    obtain ⟨f, hf, rfl⟩ := List.mem_map.mp hx
    have ef : (match ent k f with | .tup (.int v :: _) => v | _ => 0) = f.1 := by cases k <;> rfl
    rw [ef]
    try simp only [e_xisi, e_comp0, e_compIf0, s_for0, e_new0, e_meth0, e_bi0, e_call0, e_lc, e_cu, e_gl, e_bin, e_neg, e_nt, e_an, e_or, e_cmp, e_chain, e_ife, ws_nil, ws_cons, e_isi, e_fld, e_sub, e_tup, e_lst, e_slc, s_asg, s_one, s_fld, s_sub, s_ex, s_ret, s_brk, s_cnt, s_pass, s_ite, ss_nil, W_ok, W_opt, b_add, b_sub, b_mul, b_div, b_mod, b_pow, sub_tup, sub_ref, at_0, at_1, at_2, ix_1_0, ix_2_0, ix_2_1, ix_3_0, ix_3_1, ix_3_2, ix_4_0, ix_4_1, ix_4_2, ix_4_3, ix_5_0, ix_5_1, ix_5_2, ix_5_3, ix_5_4, ix_6_0, ix_6_1, ix_6_2, ix_6_3, ix_6_4, ix_6_5, i_max, i_min, i_abs, i_int, i_intb, i_len_tup, bindT, setAll, cmp_eq_int, cmp_ne_int, cmp_lt_int, cmp_gt_int, cmp_le_int, cmp_ge_int, cmp_eq_bl, cmp_ne_bl, cmp_eq_str, cmp_ne_str, cmp_is, cmp_isnot, List.length_cons, List.length_nil, Int.toNat_zero, Int.toNat_one, Option.some.injEq, U.bl.injEq, U.int.injEq, U.ref.injEq, U.tup.injEq, exists_eq_left', Option.bind_some, List.getElem?_cons_zero, List.getElem?_cons_succ, List.set_cons_zero, List.set_cons_succ, decide_eq_true_eq, decide_eq_false_iff_not, W_bind]
    refine ⟨fun hb => ?_, fun hb => ?_⟩
    · cases lo with
      | none => exact ⟨rfl, trivial⟩
      | some v => cases hb
    · cases lo with
      | none => exact absurd rfl hb
      | some v =>
        refine ⟨_, ent_at0, _, cmp_ge_int, ?_⟩
        show (match U.bl (decide (v ≤ f.1)) with
          | .bl true => _
          | .bl false => _
          | _ => _ : Rs (Option U)).W _ _
        have el : loB (some v) f.1 = decide (v ≤ f.1) := rfl
        rw [el]
        cases decide (v ≤ f.1) with
        | true => try simp only [e_xisi, e_comp0, e_compIf0, s_for0, e_new0, e_meth0, e_bi0, e_call0, e_lc, e_cu, e_gl, e_bin, e_neg, e_nt, e_an, e_or, e_cmp, e_chain, e_ife, ws_nil, ws_cons, e_isi, e_fld, e_sub, e_tup, e_lst, e_slc, s_asg, s_one, s_fld, s_sub, s_ex, s_ret, s_brk, s_cnt, s_pass, s_ite, ss_nil, W_ok, W_opt, b_add, b_sub, b_mul, b_div, b_mod, b_pow, sub_tup, sub_ref, at_0, at_1, at_2, ix_1_0, ix_2_0, ix_2_1, ix_3_0, ix_3_1, ix_3_2, ix_4_0, ix_4_1, ix_4_2, ix_4_3, ix_5_0, ix_5_1, ix_5_2, ix_5_3, ix_5_4, ix_6_0, ix_6_1, ix_6_2, ix_6_3, ix_6_4, ix_6_5, i_max, i_min, i_abs, i_int, i_intb, i_len_tup, bindT, setAll, cmp_eq_int, cmp_ne_int, cmp_lt_int, cmp_gt_int, cmp_le_int, cmp_ge_int, cmp_eq_bl, cmp_ne_bl, cmp_eq_str, cmp_ne_str, cmp_is, cmp_isnot, List.length_cons, List.length_nil, Int.toNat_zero, Int.toNat_one, Option.some.injEq, U.bl.injEq, U.int.injEq, U.ref.injEq, U.tup.injEq, exists_eq_left', Option.bind_some, List.getElem?_cons_zero, List.getElem?_cons_succ, List.set_cons_zero, List.set_cons_succ, decide_eq_true_eq, decide_eq_false_iff_not, W_bind]; exact ⟨rfl, trivial⟩
        | false => exact ⟨rfl, rfl⟩
  rw [filterMap_ent (p := fun f => loB lo f.1) (fun f => by cases k <;> rfl)]
  generalize hh1 : h ++ [Ob.lst (L.map (ent k))] = h1
  have F1 : Fr (fun _ => False) h h1 := by rw [← hh1]; exact Fr.app
  rw [ss_cons]
  try simp only [e_xisi, e_comp0, e_compIf0, s_for0, e_new0, e_meth0, e_bi0, e_call0, e_lc, e_cu, e_gl, e_bin, e_neg, e_nt, e_an, e_or, e_cmp, e_chain, e_ife, ws_nil, ws_cons, e_isi, e_fld, e_sub, e_tup, e_lst, e_slc, s_asg, s_one, s_fld, s_sub, s_ex, s_ret, s_brk, s_cnt, s_pass, s_ite, ss_nil, W_ok, W_opt, b_add, b_sub, b_mul, b_div, b_mod, b_pow, sub_tup, sub_ref, at_0, at_1, at_2, ix_1_0, ix_2_0, ix_2_1, ix_3_0, ix_3_1, ix_3_2, ix_4_0, ix_4_1, ix_4_2, ix_4_3, ix_5_0, ix_5_1, ix_5_2, ix_5_3, ix_5_4, ix_6_0, ix_6_1, ix_6_2, ix_6_3, ix_6_4, ix_6_5, i_max, i_min, i_abs, i_int, i_intb, i_len_tup, bindT, setAll, cmp_eq_int, cmp_ne_int, cmp_lt_int, cmp_gt_int, cmp_le_int, cmp_ge_int, cmp_eq_bl, cmp_ne_bl, cmp_eq_str, cmp_ne_str, cmp_is, cmp_isnot, List.length_cons, List.length_nil, Int.toNat_zero, Int.toNat_one, Option.some.injEq, U.bl.injEq, U.int.injEq, U.ref.injEq, U.tup.injEq, exists_eq_left', Option.bind_some, List.getElem?_cons_zero, List.getElem?_cons_succ, List.set_cons_zero, List.set_cons_succ, decide_eq_true_eq, decide_eq_false_iff_not]
  have g2 : getL (h1 ++ [Ob.lst ((L.filter fun f => loB lo f.1).map (ent k))]) h1.length = some ((L.filter fun f => loB lo f.1).map (ent k)) := getL_of at_new
  have hl1 : (L.filter fun f => loB lo f.1).length ≤ L.length := List.length_filter_le _ _
  generalize hh2 : h1 ++ [Ob.lst ((L.filter fun f => loB lo f.1).map (ent k))] = h2 at g2 ⊢
  have F2 : Fr (fun _ => False) h h2 := by rw [← hh2]; exact F1.trans Fr.app
  refine ⟨((L.filter fun f => loB lo f.1).map (ent k), [(h1.length, (L.filter fun f => loB lo f.1).map (ent k))]), by show (match getL _ _ with | some xs => some (xs, [(h1.length, xs)]) | none => none) = _; rw [g2], ?_⟩
  refine comp_map (fun x => if hiB hi ((match x with | .tup (.int v :: _) => v | _ => 0)) = true then some x else none) (by rw [List.length_map]; exact hzs (by omega)) (fun acc => stands_one (getL_app g2)) ?_ ?_
  · intro x hx acc
    obtain ⟨f, hf, rfl⟩ := List.mem_map.mp hx
    have ef : (match ent k f with | .tup (.int v :: _) => v | _ => 0) = f.1 := by cases k <;> rfl
    rw [ef]
    try simp only [e_xisi, e_comp0, e_compIf0, s_for0, e_new0, e_meth0, e_bi0, e_call0, e_lc, e_cu, e_gl, e_bin, e_neg, e_nt, e_an, e_or, e_cmp, e_chain, e_ife, ws_nil, ws_cons, e_isi, e_fld, e_sub, e_tup, e_lst, e_slc, s_asg, s_one, s_fld, s_sub, s_ex, s_ret, s_brk, s_cnt, s_pass, s_ite, ss_nil, W_ok, W_opt, b_add, b_sub, b_mul, b_div, b_mod, b_pow, sub_tup, sub_ref, at_0, at_1, at_2, ix_1_0, ix_2_0, ix_2_1, ix_3_0, ix_3_1, ix_3_2, ix_4_0, ix_4_1, ix_4_2, ix_4_3, ix_5_0, ix_5_1, ix_5_2, ix_5_3, ix_5_4, ix_6_0, ix_6_1, ix_6_2, ix_6_3, ix_6_4, ix_6_5, i_max, i_min, i_abs, i_int, i_intb, i_len_tup, bindT, setAll, cmp_eq_int, cmp_ne_int, cmp_lt_int, cmp_gt_int, cmp_le_int, cmp_ge_int, cmp_eq_bl, cmp_ne_bl, cmp_eq_str, cmp_ne_str, cmp_is, cmp_isnot, List.length_cons, List.length_nil, Int.toNat_zero, Int.toNat_one, Option.some.injEq, U.bl.injEq, U.int.injEq, U.ref.injEq, U.tup.injEq, exists_eq_left', Option.bind_some, List.getElem?_cons_zero, List.getElem?_cons_succ, List.set_cons_zero, List.set_cons_succ, decide_eq_true_eq, decide_eq_false_iff_not, W_bind]
    refine ⟨fun hb => ?_, fun hb => ?_⟩
    · cases hi with
      | none => exact ⟨rfl, trivial⟩
      | some v => cases hb
    · cases hi with
      | none => exact absurd rfl hb
      | some v =>
        refine ⟨_, ent_at0, _, cmp_le_int, ?_⟩
        show (match U.bl (decide (f.1 ≤ v)) with
          | .bl true => _
          | .bl false => _
          | _ => _ : Rs (Option U)).W _ _
        have el : hiB (some v) f.1 = decide (f.1 ≤ v) := rfl
        rw [el]
        cases decide (f.1 ≤ v) with
        | true => try simp only [e_xisi, e_comp0, e_compIf0, s_for0, e_new0, e_meth0, e_bi0, e_call0, e_lc, e_cu, e_gl, e_bin, e_neg, e_nt, e_an, e_or, e_cmp, e_chain, e_ife, ws_nil, ws_cons, e_isi, e_fld, e_sub, e_tup, e_lst, e_slc, s_asg, s_one, s_fld, s_sub, s_ex, s_ret, s_brk, s_cnt, s_pass, s_ite, ss_nil, W_ok, W_opt, b_add, b_sub, b_mul, b_div, b_mod, b_pow, sub_tup, sub_ref, at_0, at_1, at_2, ix_1_0, ix_2_0, ix_2_1, ix_3_0, ix_3_1, ix_3_2, ix_4_0, ix_4_1, ix_4_2, ix_4_3, ix_5_0, ix_5_1, ix_5_2, ix_5_3, ix_5_4, ix_6_0, ix_6_1, ix_6_2, ix_6_3, ix_6_4, ix_6_5, i_max, i_min, i_abs, i_int, i_intb, i_len_tup, bindT, setAll, cmp_eq_int, cmp_ne_int, cmp_lt_int, cmp_gt_int, cmp_le_int, cmp_ge_int, cmp_eq_bl, cmp_ne_bl, cmp_eq_str, cmp_ne_str, cmp_is, cmp_isnot, List.length_cons, List.length_nil, Int.toNat_zero, Int.toNat_one, Option.some.injEq, U.bl.injEq, U.int.injEq, U.ref.injEq, U.tup.injEq, exists_eq_left', Option.bind_some, List.getElem?_cons_zero, List.getElem?_cons_succ, List.set_cons_zero, List.set_cons_succ, decide_eq_true_eq, decide_eq_false_iff_not, W_bind]; exact ⟨rfl, trivial⟩
        | false => exact ⟨rfl, rfl⟩
  have eF : ((L.filter fun f => loB lo f.1).filter fun f => hiB hi f.1) = L.filter (inB lo hi) := by
    rw [List.filter_filter]
    congr 1
    funext f
    exact Bool.and_comm _ _
  rw [filterMap_ent (p := fun f => hiB hi f.1) (fun f => by cases k <;> rfl), eF]
  have gF : ∀ f ∈ L.filter (inB lo hi), GoodE k f := fun f hf => pr.ix.good f (List.mem_filter.mp hf).1
  have hl2 : (L.filter (inB lo hi)).length ≤ L.length := List.length_filter_le _ _
  have gD : (h2 ++ [Ob.lst ((L.filter (inB lo hi)).map (ent k))])[h2.length]? = some (.lst ((L.filter (inB lo hi)).map (ent k))) := at_new
  generalize hh3 : h2 ++ [Ob.lst ((L.filter (inB lo hi)).map (ent k))] = h3 at gD ⊢
  have F3 : Fr (fun _ => False) h h3 := by rw [← hh3]; exact F2.trans Fr.app
  generalize h2.length = D at gD ⊢
  have I3 : IdxAt k h3 i e L := pr.ix.fr F3 id id
  -- between, once
  rw [ss_cons]
  try simp only [e_xisi, e_comp0, e_compIf0, s_for0, e_new0, e_meth0, e_bi0, e_call0, e_lc, e_cu, e_gl, e_bin, e_neg, e_nt, e_an, e_or, e_cmp, e_chain, e_ife, ws_nil, ws_cons, e_isi, e_fld, e_sub, e_tup, e_lst, e_slc, s_asg, s_one, s_fld, s_sub, s_ex, s_ret, s_brk, s_cnt, s_pass, s_ite, ss_nil, W_ok, W_opt, b_add, b_sub, b_mul, b_div, b_mod, b_pow, sub_tup, sub_ref, at_0, at_1, at_2, ix_1_0, ix_2_0, ix_2_1, ix_3_0, ix_3_1, ix_3_2, ix_4_0, ix_4_1, ix_4_2, ix_4_3, ix_5_0, ix_5_1, ix_5_2, ix_5_3, ix_5_4, ix_6_0, ix_6_1, ix_6_2, ix_6_3, ix_6_4, ix_6_5, i_max, i_min, i_abs, i_int, i_intb, i_len_tup, bindT, setAll, cmp_eq_int, cmp_ne_int, cmp_lt_int, cmp_gt_int, cmp_le_int, cmp_ge_int, cmp_eq_bl, cmp_ne_bl, cmp_eq_str, cmp_ne_str, cmp_is, cmp_isnot, List.length_cons, List.length_nil, Int.toNat_zero, Int.toNat_one, Option.some.injEq, U.bl.injEq, U.int.injEq, U.ref.injEq, U.tup.injEq, exists_eq_left', Option.bind_some, List.getElem?_cons_zero, List.getElem?_cons_succ, List.set_cons_zero, List.set_cons_succ, decide_eq_true_eq, decide_eq_false_iff_not]
  refine .inl ⟨_, _, _, I3.obj, rfl, rfl, rfl, W_no (between_spec I3) ?_⟩
  rintro u h4 ⟨rfl, rfl⟩
  have gX : (h3 ++ [Ob.lst ((L.filter (inB lo hi)).map (ent k))])[h3.length]? = some (.lst ((L.filter (inB lo hi)).map (ent k))) := at_new
  have gD4 : (h3 ++ [Ob.lst ((L.filter (inB lo hi)).map (ent k))])[D]? = some (.lst ((L.filter (inB lo hi)).map (ent k))) := at_app gD
  have nD : h3.length ≠ D := fun z => absurd (lt_of_at gD) (by rw [z]; exact Nat.lt_irrefl _)
  generalize hh4 : h3 ++ [Ob.lst ((L.filter (inB lo hi)).map (ent k))] = h4 at gX gD4 ⊢
  have F4 : Fr (fun _ => False) h3 h4 := by rw [← hh4]; exact Fr.app
  generalize hFd : h3.length = Fd at gX nD ⊢
  have F4n : ∀ n o, h3[n]? = some o → n ≠ Fd := fun n o e z => absurd (lt_of_at e) (by rw [z, hFd]; exact Nat.lt_irrefl _)
  rw [ss_cons]
  try simp only [e_xisi, e_comp0, e_compIf0, s_for0, e_new0, e_meth0, e_bi0, e_call0, e_lc, e_cu, e_gl, e_bin, e_neg, e_nt, e_an, e_or, e_cmp, e_chain, e_ife, ws_nil, ws_cons, e_isi, e_fld, e_sub, e_tup, e_lst, e_slc, s_asg, s_one, s_fld, s_sub, s_ex, s_ret, s_brk, s_cnt, s_pass, s_ite, ss_nil, W_ok, W_opt, b_add, b_sub, b_mul, b_div, b_mod, b_pow, sub_tup, sub_ref, at_0, at_1, at_2, ix_1_0, ix_2_0, ix_2_1, ix_3_0, ix_3_1, ix_3_2, ix_4_0, ix_4_1, ix_4_2, ix_4_3, ix_5_0, ix_5_1, ix_5_2, ix_5_3, ix_5_4, ix_6_0, ix_6_1, ix_6_2, ix_6_3, ix_6_4, ix_6_5, i_max, i_min, i_abs, i_int, i_intb, i_len_tup, bindT, setAll, cmp_eq_int, cmp_ne_int, cmp_lt_int, cmp_gt_int, cmp_le_int, cmp_ge_int, cmp_eq_bl, cmp_ne_bl, cmp_eq_str, cmp_ne_str, cmp_is, cmp_isnot, List.length_cons, List.length_nil, Int.toNat_zero, Int.toNat_one, Option.some.injEq, U.bl.injEq, U.int.injEq, U.ref.injEq, U.tup.injEq, exists_eq_left', Option.bind_some, List.getElem?_cons_zero, List.getElem?_cons_succ, List.set_cons_zero, List.set_cons_succ, decide_eq_true_eq, decide_eq_false_iff_not, isi_list gX]
  have ne4 : cmpop .ne (.ref Fd) (.ref D) h4 = some false := by
    show (eqU h4 (.ref Fd) (.ref D)).map (!·) = _
    rw [eq_lists (getL_of gX) (getL_of gD4) gF gF, decide_eq_true rfl]
    rfl
  refine ⟨fun hc => (nomatch hc), fun _ => ⟨false, ne4, fun hc => (nomatch hc), fun _ => ⟨((L.filter (inB lo hi)).map (ent k), [(Fd, (L.filter (inB lo hi)).map (ent k))]), by show (match getL _ _ with | some xs => some (xs, [(Fd, xs)]) | none => none) = _; rw [getL_of gX], ?_⟩⟩⟩
  refine comp_map (fun _ => some (.bl true)) (by rw [List.length_map]; exact hzs (by omega)) (fun acc => stands_one (getL_app (getL_of gX))) ?_ ?_
  · intro x hx acc
    obtain ⟨f, hf, rfl⟩ := List.mem_map.mp hx
    try simp only [e_xisi, e_comp0, e_compIf0, s_for0, e_new0, e_meth0, e_bi0, e_call0, e_lc, e_cu, e_gl, e_bin, e_neg, e_nt, e_an, e_or, e_cmp, e_chain, e_ife, ws_nil, ws_cons, e_isi, e_fld, e_sub, e_tup, e_lst, e_slc, s_asg, s_one, s_fld, s_sub, s_ex, s_ret, s_brk, s_cnt, s_pass, s_ite, ss_nil, W_ok, W_opt, b_add, b_sub, b_mul, b_div, b_mod, b_pow, sub_tup, sub_ref, at_0, at_1, at_2, ix_1_0, ix_2_0, ix_2_1, ix_3_0, ix_3_1, ix_3_2, ix_4_0, ix_4_1, ix_4_2, ix_4_3, ix_5_0, ix_5_1, ix_5_2, ix_5_3, ix_5_4, ix_6_0, ix_6_1, ix_6_2, ix_6_3, ix_6_4, ix_6_5, i_max, i_min, i_abs, i_int, i_intb, i_len_tup, bindT, setAll, cmp_eq_int, cmp_ne_int, cmp_lt_int, cmp_gt_int, cmp_le_int, cmp_ge_int, cmp_eq_bl, cmp_ne_bl, cmp_eq_str, cmp_ne_str, cmp_is, cmp_isnot, List.length_cons, List.length_nil, Int.toNat_zero, Int.toNat_one, Option.some.injEq, U.bl.injEq, U.int.injEq, U.ref.injEq, U.tup.injEq, exists_eq_left', Option.bind_some, List.getElem?_cons_zero, List.getElem?_cons_succ, List.set_cons_zero, List.set_cons_succ, decide_eq_true_eq, decide_eq_false_iff_not, W_bind, isi_ent]
    exact ⟨trivial, trivial⟩
  rw [filterMap_all (v := fun _ => .bl true) (fun _ => rfl)]
  have gB : getL (h4 ++ [Ob.lst ((L.filter (inB lo hi)).map fun _ => U.bl true)]) h4.length = some (((L.filter (inB lo hi)).map fun _ => true).map U.bl) := by
    rw [List.map_map]
    exact getL_of at_new
  rw [i_all gB]
  have gX5 := at_app (l := [Ob.lst ((L.filter (inB lo hi)).map fun _ => U.bl true)]) gX
  have gD5 := at_app (l := [Ob.lst ((L.filter (inB lo hi)).map fun _ => U.bl true)]) gD4
  have F5 : Fr (fun _ => False) h3 (h4 ++ [Ob.lst ((L.filter (inB lo hi)).map fun _ => U.bl true)]) := F4.trans Fr.app
  generalize h4 ++ [Ob.lst ((L.filter (inB lo hi)).map fun _ => U.bl true)] = h5 at gX5 gD5 F5 ⊢
  have eall : (((L.filter (inB lo hi)).map fun _ => true).all id) = true := by simp
  rw [eall]
  refine ⟨true, rfl, fun hc => (nomatch hc), fun _ => ?_⟩
  -- turned round, and longer
  rw [ss_cons]
  try simp only [e_xisi, e_comp0, e_compIf0, s_for0, e_new0, e_meth0, e_bi0, e_call0, e_lc, e_cu, e_gl, e_bin, e_neg, e_nt, e_an, e_or, e_cmp, e_chain, e_ife, ws_nil, ws_cons, e_isi, e_fld, e_sub, e_tup, e_lst, e_slc, s_asg, s_one, s_fld, s_sub, s_ex, s_ret, s_brk, s_cnt, s_pass, s_ite, ss_nil, W_ok, W_opt, b_add, b_sub, b_mul, b_div, b_mod, b_pow, sub_tup, sub_ref, at_0, at_1, at_2, ix_1_0, ix_2_0, ix_2_1, ix_3_0, ix_3_1, ix_3_2, ix_4_0, ix_4_1, ix_4_2, ix_4_3, ix_5_0, ix_5_1, ix_5_2, ix_5_3, ix_5_4, ix_6_0, ix_6_1, ix_6_2, ix_6_3, ix_6_4, ix_6_5, i_max, i_min, i_abs, i_int, i_intb, i_len_tup, bindT, setAll, cmp_eq_int, cmp_ne_int, cmp_lt_int, cmp_gt_int, cmp_le_int, cmp_ge_int, cmp_eq_bl, cmp_ne_bl, cmp_eq_str, cmp_ne_str, cmp_is, cmp_isnot, List.length_cons, List.length_nil, Int.toNat_zero, Int.toNat_one, Option.some.injEq, U.bl.injEq, U.int.injEq, U.ref.injEq, U.tup.injEq, exists_eq_left', Option.bind_some, List.getElem?_cons_zero, List.getElem?_cons_succ, List.set_cons_zero, List.set_cons_succ, decide_eq_true_eq, decide_eq_false_iff_not]
  refine .inr ⟨_, gX5, rfl, ?_⟩
  unfold mtL
  rw [getM_of gX5]
  simp only
  rw [W_ok, ss_cons]
  try simp only [e_xisi, e_comp0, e_compIf0, s_for0, e_new0, e_meth0, e_bi0, e_call0, e_lc, e_cu, e_gl, e_bin, e_neg, e_nt, e_an, e_or, e_cmp, e_chain, e_ife, ws_nil, ws_cons, e_isi, e_fld, e_sub, e_tup, e_lst, e_slc, s_asg, s_one, s_fld, s_sub, s_ex, s_ret, s_brk, s_cnt, s_pass, s_ite, ss_nil, W_ok, W_opt, b_add, b_sub, b_mul, b_div, b_mod, b_pow, sub_tup, sub_ref, at_0, at_1, at_2, ix_1_0, ix_2_0, ix_2_1, ix_3_0, ix_3_1, ix_3_2, ix_4_0, ix_4_1, ix_4_2, ix_4_3, ix_5_0, ix_5_1, ix_5_2, ix_5_3, ix_5_4, ix_6_0, ix_6_1, ix_6_2, ix_6_3, ix_6_4, ix_6_5, i_max, i_min, i_abs, i_int, i_intb, i_len_tup, bindT, setAll, cmp_eq_int, cmp_ne_int, cmp_lt_int, cmp_gt_int, cmp_le_int, cmp_ge_int, cmp_eq_bl, cmp_ne_bl, cmp_eq_str, cmp_ne_str, cmp_is, cmp_isnot, List.length_cons, List.length_nil, Int.toNat_zero, Int.toNat_one, Option.some.injEq, U.bl.injEq, U.int.injEq, U.ref.injEq, U.tup.injEq, exists_eq_left', Option.bind_some, List.getElem?_cons_zero, List.getElem?_cons_succ, List.set_cons_zero, List.set_cons_succ, decide_eq_true_eq, decide_eq_false_iff_not]
  have gX6 := at_set (o' := Ob.lst ((L.filter (inB lo hi)).map (ent k)).reverse) gX5
  refine .inr ⟨_, gX6, rfl, hzs (by decide), ?_⟩
  unfold mtL
  rw [getM_of gX6]
  simp only
  have hs : sln = 16777216 := PySem.sizeLine_eq
  rw [if_pos (by rw [List.length_reverse, List.length_map]; omega), W_ok, List.set_set]
  have S6 : ∀ n o, h3[n]? = some o → (h5.set Fd (Ob.lst (((L.filter (inB lo hi)).map (ent k)).reverse ++ [.tup [.int 0, .int 0]])))[n]? = some o := fun n o e => at_set_ne (F5.same n o id e) (F4n n o e).symm
  have len6 : h3.length ≤ (h5.set Fd (Ob.lst (((L.filter (inB lo hi)).map (ent k)).reverse ++ [.tup [.int 0, .int 0]]))).length := by rw [List.length_set]; exact F5.len
  generalize h5.set Fd (Ob.lst (((L.filter (inB lo hi)).map (ent k)).reverse ++ [.tup [.int 0, .int 0]])) = h6 at S6 len6 ⊢
  have F6 : Fr (fun _ => False) h3 h6 := ⟨len6, fun n o _ e => S6 n o e⟩
  have I6 : IdxAt k h6 i e L := I3.fr F6 id id
  try simp only [ss_cons, e_xisi, e_comp0, e_compIf0, s_for0, e_new0, e_meth0, e_bi0, e_call0, e_lc, e_cu, e_gl, e_bin, e_neg, e_nt, e_an, e_or, e_cmp, e_chain, e_ife, ws_nil, ws_cons, e_isi, e_fld, e_sub, e_tup, e_lst, e_slc, s_asg, s_one, s_fld, s_sub, s_ex, s_ret, s_brk, s_cnt, s_pass, s_ite, ss_nil, W_ok, W_opt, b_add, b_sub, b_mul, b_div, b_mod, b_pow, sub_tup, sub_ref, at_0, at_1, at_2, ix_1_0, ix_2_0, ix_2_1, ix_3_0, ix_3_1, ix_3_2, ix_4_0, ix_4_1, ix_4_2, ix_4_3, ix_5_0, ix_5_1, ix_5_2, ix_5_3, ix_5_4, ix_6_0, ix_6_1, ix_6_2, ix_6_3, ix_6_4, ix_6_5, i_max, i_min, i_abs, i_int, i_intb, i_len_tup, bindT, setAll, cmp_eq_int, cmp_ne_int, cmp_lt_int, cmp_gt_int, cmp_le_int, cmp_ge_int, cmp_eq_bl, cmp_ne_bl, cmp_eq_str, cmp_ne_str, cmp_is, cmp_isnot, List.length_cons, List.length_nil, Int.toNat_zero, Int.toNat_one, Option.some.injEq, U.bl.injEq, U.int.injEq, U.ref.injEq, U.tup.injEq, exists_eq_left', Option.bind_some, List.getElem?_cons_zero, List.getElem?_cons_succ, List.set_cons_zero, List.set_cons_succ, decide_eq_true_eq, decide_eq_false_iff_not]
  refine .inl ⟨_, _, _, I6.obj, rfl, rfl, rfl, W_no (between_spec I6) ?_⟩
  rintro u h7 ⟨rfl, rfl⟩
  refine ⟨true, ?_, rfl, (F3.trans F6).trans Fr.app⟩
  show eqU _ _ _ = _
  rw [eq_lists (getL_of at_new) (getL_app (getL_of (S6 _ _ gD))) gF gF, decide_eq_true rfl]
end Pl

namespace Pl
open PySem
/-- a new index -/
def nw (h : AH) : AH := ((h ++ [Ob.ins .Index []]) ++ [Ob.lst []]).set h.length (.ins .Index [(.entries, .ref (h.length + 1))])
theorem nw_len (h : AH) : (nw h).length = h.length + 2 := by unfold nw; simp
theorem nw_fr {S : Nat → Prop} (h : AH) : Fr S h (nw h) := by
  refine ⟨by rw [nw_len]; omega, fun n o _ e => ?_⟩
  exact at_set_ne (at_app (at_app e)) (ne_new e).symm
theorem nw_idx {k : Bool} (h : AH) : IdxAt k (nw h) h.length (h.length + 1) [] := by
  refine ⟨at_set (at_app (at_new (o := Ob.ins .Index []))), ?_, (fun _ z => nomatch z), List.Pairwise.nil⟩
  have e : (h ++ [Ob.ins .Index []]).length = h.length + 1 := by simp
  have := at_new (h := h ++ [Ob.ins .Index []]) (o := Ob.lst [])
  rw [e] at this
  exact at_set_ne this (by omega)
theorem new_W {d : Nat} {h : AH} {ρ : Loc} {Q : U → AH → Prop} {Z : XW} (q : Q (.ref h.length) (nw h)) : (evE prg ⟨call prg (d + 1), none⟩ (.new .Index []) ρ h).W Q Z := by
  try simp only [e_xisi, e_comp0, e_compIf0, s_for0, e_new0, e_meth0, e_bi0, e_call0, e_lc, e_cu, e_gl, e_bin, e_neg, e_nt, e_an, e_or, e_cmp, e_chain, e_ife, ws_nil, ws_cons, e_isi, e_fld, e_sub, e_tup, e_lst, e_slc, s_asg, s_one, s_fld, s_sub, s_ex, s_ret, s_brk, s_cnt, s_pass, s_ite, ss_nil, W_ok, W_opt, b_add, b_sub, b_mul, b_div, b_mod, b_pow, sub_tup, sub_ref, at_0, at_1, at_2, ix_1_0, ix_2_0, ix_2_1, ix_3_0, ix_3_1, ix_3_2, ix_4_0, ix_4_1, ix_4_2, ix_4_3, ix_5_0, ix_5_1, ix_5_2, ix_5_3, ix_5_4, ix_6_0, ix_6_1, ix_6_2, ix_6_3, ix_6_4, ix_6_5, i_max, i_min, i_abs, i_int, i_intb, i_len_tup, bindT, setAll, cmp_eq_int, cmp_ne_int, cmp_lt_int, cmp_gt_int, cmp_le_int, cmp_ge_int, cmp_eq_bl, cmp_ne_bl, cmp_eq_str, cmp_ne_str, cmp_is, cmp_isnot, List.length_cons, List.length_nil, Int.toNat_zero, Int.toNat_one, Option.some.injEq, U.bl.injEq, U.int.injEq, U.ref.injEq, U.tup.injEq, exists_eq_left', Option.bind_some, List.getElem?_cons_zero, List.getElem?_cons_succ, List.set_cons_zero, List.set_cons_succ, decide_eq_true_eq, decide_eq_false_iff_not]
  refine ⟨_, rfl, rfl, ?_⟩
  have ho : (h ++ [Ob.ins .Index []])[h.length]? = some (.ins .Index []) := at_new
  refine call_W (F := f_Index___init__) rfl rfl ?_
  show (evSs prg ⟨call prg d, none⟩ b_Index___init__ [some (.ref h.length)] (h ++ [.ins .Index []])).W _
  unfold b_Index___init__
  try simp only [ss_cons, e_xisi, e_comp0, e_compIf0, s_for0, e_new0, e_meth0, e_bi0, e_call0, e_lc, e_cu, e_gl, e_bin, e_neg, e_nt, e_an, e_or, e_cmp, e_chain, e_ife, ws_nil, ws_cons, e_isi, e_fld, e_sub, e_tup, e_lst, e_slc, s_asg, s_one, s_fld, s_sub, s_ex, s_ret, s_brk, s_cnt, s_pass, s_ite, ss_nil, W_ok, W_opt, b_add, b_sub, b_mul, b_div, b_mod, b_pow, sub_tup, sub_ref, at_0, at_1, at_2, ix_1_0, ix_2_0, ix_2_1, ix_3_0, ix_3_1, ix_3_2, ix_4_0, ix_4_1, ix_4_2, ix_4_3, ix_5_0, ix_5_1, ix_5_2, ix_5_3, ix_5_4, ix_6_0, ix_6_1, ix_6_2, ix_6_3, ix_6_4, ix_6_5, i_max, i_min, i_abs, i_int, i_intb, i_len_tup, bindT, setAll, cmp_eq_int, cmp_ne_int, cmp_lt_int, cmp_gt_int, cmp_le_int, cmp_ge_int, cmp_eq_bl, cmp_ne_bl, cmp_eq_str, cmp_ne_str, cmp_is, cmp_isnot, List.length_cons, List.length_nil, Int.toNat_zero, Int.toNat_one, Option.some.injEq, U.bl.injEq, U.int.injEq, U.ref.injEq, U.tup.injEq, exists_eq_left', Option.bind_some, List.getElem?_cons_zero, List.getElem?_cons_succ, List.set_cons_zero, List.set_cons_succ, decide_eq_true_eq, decide_eq_false_iff_not, getI_of (at_app (l := [Ob.lst []]) ho)]
  refine ⟨hzs (by decide), by decide, by decide, trivial, ?_⟩
  have e : (h ++ [Ob.ins .Index []]).length = h.length + 1 := by simp
  rw [e]
  exact q
theorem fresh_W {d : Nat} {k : Bool} {h : AH} {x : En} (hx : GoodE k x) : (call prg (d + 5) ._law_fresh_right [ent k x] h).W (fun u _ => u = .bl true) noX := by
  refine call_W (F := f__law_fresh_right) rfl rfl ?_
  show (evSs prg ⟨call prg (d + 4), none⟩ b__law_fresh_right [some (ent k x), none, none, none] h).W _
  unfold b__law_fresh_right
  rw [ss_cons, s_asg, e_tup, ws_cons]
  refine new_W ?_
  try simp only [e_xisi, e_comp0, e_compIf0, s_for0, e_new0, e_meth0, e_bi0, e_call0, e_lc, e_cu, e_gl, e_bin, e_neg, e_nt, e_an, e_or, e_cmp, e_chain, e_ife, ws_nil, ws_cons, e_isi, e_fld, e_sub, e_tup, e_lst, e_slc, s_asg, s_one, s_fld, s_sub, s_ex, s_ret, s_brk, s_cnt, s_pass, s_ite, ss_nil, W_ok, W_opt, b_add, b_sub, b_mul, b_div, b_mod, b_pow, sub_tup, sub_ref, at_0, at_1, at_2, ix_1_0, ix_2_0, ix_2_1, ix_3_0, ix_3_1, ix_3_2, ix_4_0, ix_4_1, ix_4_2, ix_4_3, ix_5_0, ix_5_1, ix_5_2, ix_5_3, ix_5_4, ix_6_0, ix_6_1, ix_6_2, ix_6_3, ix_6_4, ix_6_5, i_max, i_min, i_abs, i_int, i_intb, i_len_tup, bindT, setAll, cmp_eq_int, cmp_ne_int, cmp_lt_int, cmp_gt_int, cmp_le_int, cmp_ge_int, cmp_eq_bl, cmp_ne_bl, cmp_eq_str, cmp_ne_str, cmp_is, cmp_isnot, List.length_cons, List.length_nil, Int.toNat_zero, Int.toNat_one, Option.some.injEq, U.bl.injEq, U.int.injEq, U.ref.injEq, U.tup.injEq, exists_eq_left', Option.bind_some, List.getElem?_cons_zero, List.getElem?_cons_succ, List.set_cons_zero, List.set_cons_succ, decide_eq_true_eq, decide_eq_false_iff_not]
  refine ⟨hzs (by decide), hzs (by decide), ?_⟩
  have P0 : Pair k (nw h ++ [Ob.lst []]) h.length (h.length + 1) (nw h).length [] := by
    refine ⟨(nw_idx h).fr (S := fun _ => False) Fr.app id id, ⟨[], at_new, List.Perm.refl _⟩, ?_⟩
    rw [nw_len]; omega
  generalize nw h ++ [Ob.lst []] = h1 at P0 ⊢
  generalize (nw h).length = q at P0 ⊢
  generalize h.length = i at P0 ⊢
  generalize i + 1 = e at P0 ⊢
  rw [ss_cons]
  try simp only [e_xisi, e_comp0, e_compIf0, s_for0, e_new0, e_meth0, e_bi0, e_call0, e_lc, e_cu, e_gl, e_bin, e_neg, e_nt, e_an, e_or, e_cmp, e_chain, e_ife, ws_nil, ws_cons, e_isi, e_fld, e_sub, e_tup, e_lst, e_slc, s_asg, s_one, s_fld, s_sub, s_ex, s_ret, s_brk, s_cnt, s_pass, s_ite, ss_nil, W_ok, W_opt, b_add, b_sub, b_mul, b_div, b_mod, b_pow, sub_tup, sub_ref, at_0, at_1, at_2, ix_1_0, ix_2_0, ix_2_1, ix_3_0, ix_3_1, ix_3_2, ix_4_0, ix_4_1, ix_4_2, ix_4_3, ix_5_0, ix_5_1, ix_5_2, ix_5_3, ix_5_4, ix_6_0, ix_6_1, ix_6_2, ix_6_3, ix_6_4, ix_6_5, i_max, i_min, i_abs, i_int, i_intb, i_len_tup, bindT, setAll, cmp_eq_int, cmp_ne_int, cmp_lt_int, cmp_gt_int, cmp_le_int, cmp_ge_int, cmp_eq_bl, cmp_ne_bl, cmp_eq_str, cmp_ne_str, cmp_is, cmp_isnot, List.length_cons, List.length_nil, Int.toNat_zero, Int.toNat_one, Option.some.injEq, U.bl.injEq, U.int.injEq, U.ref.injEq, U.tup.injEq, exists_eq_left', Option.bind_some, List.getElem?_cons_zero, List.getElem?_cons_succ, List.set_cons_zero, List.set_cons_succ, decide_eq_true_eq, decide_eq_false_iff_not]
  refine ⟨hzs (by decide), ([.bl false, .bl true, .bl true, .bl false, .bl false, .bl true], [(h1.length, [.bl false, .bl true, .bl true, .bl false, .bl false, .bl true])]), by show (match getL _ _ with | some xs => some (xs, [(h1.length, xs)]) | none => none) = _; rw [getL_of at_new], ?_⟩
  generalize hB : h1.length = B
  have nB : ∀ n o, h1[n]? = some o → n ≠ B := fun n o e z => absurd (lt_of_at e) (by rw [z, hB]; exact Nat.lt_irrefl _)
  have eB : e ≠ B := nB _ _ P0.ix.lst
  have qB : q ≠ B := by obtain ⟨M, hM, _⟩ := P0.kept; exact nB _ _ hM
  have iB : i ≠ B := nB _ _ P0.ix.obj
  have gB0 : (h1 ++ [Ob.lst [.bl false, .bl true, .bl true, .bl false, .bl false, .bl true]])[B]? = some (.lst [.bl false, .bl true, .bl true, .bl false, .bl false, .bl true]) := by rw [← hB]; exact at_new
  have P1 := P0.app (l := [Ob.lst [.bl false, .bl true, .bl true, .bl false, .bl false, .bl true]])
  generalize h1 ++ [Ob.lst [.bl false, .bl true, .bl true, .bl false, .bl false, .bl true]] = h2 at gB0 P1 ⊢
  have nil_of : ∀ {L' : List En}, [x].Perm (x :: L') → L' = [] := fun {L'} p => by
    have := p.length_eq
    cases L' with
    | nil => rfl
    | cons _ _ => simp at this
  -- the state by what is left
  refine for_W (fun xs ρ h' => ∃ (L : List En) (z : Option U), ρ = [some (ent k x), some (.ref i), some (.ref q), z] ∧ h'[B]? = some (.lst [.bl false, .bl true, .bl true, .bl false, .bl false, .bl true]) ∧ Pair k h' i e q L ∧
    ((xs = [.bl false, .bl true, .bl true, .bl false, .bl false, .bl true] ∧ L = []) ∨ (xs = [.bl true, .bl true, .bl false, .bl false, .bl true] ∧ L = []) ∨ (xs = [.bl true, .bl false, .bl false, .bl true] ∧ L = [x]) ∨ (xs = [.bl false, .bl false, .bl true] ∧ L = [x]) ∨ (xs = [.bl false, .bl true] ∧ L = []) ∨ (xs = [.bl true] ∧ L = []) ∨ (xs = [] ∧ L = [x]))) ?_ ?_ ?_ _ _ _ ⟨[], none, rfl, gB0, P1, .inl ⟨rfl, rfl⟩⟩
  · rintro xs ρ h' ⟨L, z, _, g, _⟩
    exact stands_one (getL_of g)
  · rintro ρ h' ⟨L, z, rfl, g, pr, st⟩
    have eL : L = [x] := by
      rcases st with ⟨z, _⟩ | ⟨z, _⟩ | ⟨z, _⟩ | ⟨z, _⟩ | ⟨z, _⟩ | ⟨z, _⟩ | ⟨_, z⟩ <;> first | exact z | cases z
    subst eL
    show (evSs prg ⟨call prg (d + 4), none⟩ _ [some (ent k x), some (.ref i), some (.ref q), z] h').W _
    rw [ss_cons]
    try simp only [e_xisi, e_comp0, e_compIf0, s_for0, e_new0, e_meth0, e_bi0, e_call0, e_lc, e_cu, e_gl, e_bin, e_neg, e_nt, e_an, e_or, e_cmp, e_chain, e_ife, ws_nil, ws_cons, e_isi, e_fld, e_sub, e_tup, e_lst, e_slc, s_asg, s_one, s_fld, s_sub, s_ex, s_ret, s_brk, s_cnt, s_pass, s_ite, ss_nil, W_ok, W_opt, b_add, b_sub, b_mul, b_div, b_mod, b_pow, sub_tup, sub_ref, at_0, at_1, at_2, ix_1_0, ix_2_0, ix_2_1, ix_3_0, ix_3_1, ix_3_2, ix_4_0, ix_4_1, ix_4_2, ix_4_3, ix_5_0, ix_5_1, ix_5_2, ix_5_3, ix_5_4, ix_6_0, ix_6_1, ix_6_2, ix_6_3, ix_6_4, ix_6_5, i_max, i_min, i_abs, i_int, i_intb, i_len_tup, bindT, setAll, cmp_eq_int, cmp_ne_int, cmp_lt_int, cmp_gt_int, cmp_le_int, cmp_ge_int, cmp_eq_bl, cmp_ne_bl, cmp_eq_str, cmp_ne_str, cmp_is, cmp_isnot, List.length_cons, List.length_nil, Int.toNat_zero, Int.toNat_one, Option.some.injEq, U.bl.injEq, U.int.injEq, U.ref.injEq, U.tup.injEq, exists_eq_left', Option.bind_some, List.getElem?_cons_zero, List.getElem?_cons_succ, List.set_cons_zero, List.set_cons_succ, decide_eq_true_eq, decide_eq_false_iff_not, ent_at0]
    refine .inl ⟨_, _, _, pr.ix.obj, rfl, rfl, rfl, W_no (between_spec (lo := none) (hi := none) pr.ix) ?_⟩
    rintro u h3 ⟨rfl, rfl⟩
    have f1 : [x].filter (inB none none) = [x] := rfl
    rw [f1]
    have gs : ∀ f ∈ [x], GoodE k f := pr.ix.good
    have gn : ∀ f ∈ ([] : List En), GoodE k f := fun _ z => nomatch z
    have pr3 := pr.app (l := [Ob.lst ([x].map (ent k))])
    have c1 : cmpop .eq (.ref h'.length) (.ref (h' ++ [Ob.lst ([x].map (ent k))]).length) (h' ++ [Ob.lst ([x].map (ent k))] ++ [Ob.lst [ent k x]]) = some true := by
      show eqU _ _ _ = _
      refine (eq_lists (k := k) (L := [x]) (M := [x]) ?_ ?_ gs gs).trans (by rw [decide_eq_true rfl])
      · exact getL_app (getL_of at_new)
      · exact getL_of at_new
    try simp only [e_xisi, e_comp0, e_compIf0, s_for0, e_new0, e_meth0, e_bi0, e_call0, e_lc, e_cu, e_gl, e_bin, e_neg, e_nt, e_an, e_or, e_cmp, e_chain, e_ife, ws_nil, ws_cons, e_isi, e_fld, e_sub, e_tup, e_lst, e_slc, s_asg, s_one, s_fld, s_sub, s_ex, s_ret, s_brk, s_cnt, s_pass, s_ite, ss_nil, W_ok, W_opt, b_add, b_sub, b_mul, b_div, b_mod, b_pow, sub_tup, sub_ref, at_0, at_1, at_2, ix_1_0, ix_2_0, ix_2_1, ix_3_0, ix_3_1, ix_3_2, ix_4_0, ix_4_1, ix_4_2, ix_4_3, ix_5_0, ix_5_1, ix_5_2, ix_5_3, ix_5_4, ix_6_0, ix_6_1, ix_6_2, ix_6_3, ix_6_4, ix_6_5, i_max, i_min, i_abs, i_int, i_intb, i_len_tup, bindT, setAll, cmp_eq_int, cmp_ne_int, cmp_lt_int, cmp_gt_int, cmp_le_int, cmp_ge_int, cmp_eq_bl, cmp_ne_bl, cmp_eq_str, cmp_ne_str, cmp_is, cmp_isnot, List.length_cons, List.length_nil, Int.toNat_zero, Int.toNat_one, Option.some.injEq, U.bl.injEq, U.int.injEq, U.ref.injEq, U.tup.injEq, exists_eq_left', Option.bind_some, List.getElem?_cons_zero, List.getElem?_cons_succ, List.set_cons_zero, List.set_cons_succ, decide_eq_true_eq, decide_eq_false_iff_not, c1]
    refine ⟨hzs (by decide), fun _ => ?_, fun hc => (nomatch hc)⟩
    have pr4 := pr3.app (l := [Ob.lst [ent k x]])
    refine .inl ⟨_, _, _, pr4.ix.obj, rfl, rfl, rfl, ?_⟩
    refine W_no (between_spec (lo := some (x.1 + 1)) (hi := none) pr4.ix) ?_
    rintro u h5 ⟨rfl, rfl⟩
    have f2 : [x].filter (inB (some (x.1 + 1)) none) = [] := by
      have : inB (some (x.1 + 1)) none x = false := by
        unfold inB loB hiB
        rw [Bool.and_true, decide_eq_false_iff_not]
        omega
      rw [List.filter_cons_of_neg (by rw [this]; decide)]
      rfl
    rw [f2]
    refine ⟨hzs (by decide), true, ?_, rfl⟩
    show eqU _ _ _ = _
    refine (eq_lists (k := k) (L := []) (M := []) ?_ ?_ gn gn).trans (by rw [decide_eq_true rfl])
    · exact getL_app (getL_of at_new)
    · exact getL_of at_new
  · rintro y xs ρ h' ⟨L, z, rfl, g, pr, st⟩
    have hz : L.length < 900 := by
      rcases st with ⟨_, z⟩ | ⟨_, z⟩ | ⟨_, z⟩ | ⟨_, z⟩ | ⟨_, z⟩ | ⟨_, z⟩ | ⟨_, z⟩ <;> (rw [z]; simp)
    obtain ⟨p, rfl⟩ : ∃ p, y = .bl p := by
      rcases st with ⟨z, _⟩ | ⟨z, _⟩ | ⟨z, _⟩ | ⟨z, _⟩ | ⟨z, _⟩ | ⟨z, _⟩ | ⟨z, _⟩ <;> cases z <;> exact ⟨_, rfl⟩
    try simp only [ss_cons, e_xisi, e_comp0, e_compIf0, s_for0, e_new0, e_meth0, e_bi0, e_call0, e_lc, e_cu, e_gl, e_bin, e_neg, e_nt, e_an, e_or, e_cmp, e_chain, e_ife, ws_nil, ws_cons, e_isi, e_fld, e_sub, e_tup, e_lst, e_slc, s_asg, s_one, s_fld, s_sub, s_ex, s_ret, s_brk, s_cnt, s_pass, s_ite, ss_nil, W_ok, W_opt, b_add, b_sub, b_mul, b_div, b_mod, b_pow, sub_tup, sub_ref, at_0, at_1, at_2, ix_1_0, ix_2_0, ix_2_1, ix_3_0, ix_3_1, ix_3_2, ix_4_0, ix_4_1, ix_4_2, ix_4_3, ix_5_0, ix_5_1, ix_5_2, ix_5_3, ix_5_4, ix_6_0, ix_6_1, ix_6_2, ix_6_3, ix_6_4, ix_6_5, i_max, i_min, i_abs, i_int, i_intb, i_len_tup, bindT, setAll, cmp_eq_int, cmp_ne_int, cmp_lt_int, cmp_gt_int, cmp_le_int, cmp_ge_int, cmp_eq_bl, cmp_ne_bl, cmp_eq_str, cmp_ne_str, cmp_is, cmp_isnot, List.length_cons, List.length_nil, Int.toNat_zero, Int.toNat_one, Option.some.injEq, U.bl.injEq, U.int.injEq, U.ref.injEq, U.tup.injEq, exists_eq_left', Option.bind_some, List.getElem?_cons_zero, List.getElem?_cons_succ, List.set_cons_zero, List.set_cons_succ, decide_eq_true_eq, decide_eq_false_iff_not]
    refine ⟨rfl, W_no (done_W pr hx hz) ?_⟩
    rintro u h3 ⟨rfl, fr, L', st2, pr'⟩
    try simp only [e_xisi, e_comp0, e_compIf0, s_for0, e_new0, e_meth0, e_bi0, e_call0, e_lc, e_cu, e_gl, e_bin, e_neg, e_nt, e_an, e_or, e_cmp, e_chain, e_ife, ws_nil, ws_cons, e_isi, e_fld, e_sub, e_tup, e_lst, e_slc, s_asg, s_one, s_fld, s_sub, s_ex, s_ret, s_brk, s_cnt, s_pass, s_ite, ss_nil, W_ok, W_opt, b_add, b_sub, b_mul, b_div, b_mod, b_pow, sub_tup, sub_ref, at_0, at_1, at_2, ix_1_0, ix_2_0, ix_2_1, ix_3_0, ix_3_1, ix_3_2, ix_4_0, ix_4_1, ix_4_2, ix_4_3, ix_5_0, ix_5_1, ix_5_2, ix_5_3, ix_5_4, ix_6_0, ix_6_1, ix_6_2, ix_6_3, ix_6_4, ix_6_5, i_max, i_min, i_abs, i_int, i_intb, i_len_tup, bindT, setAll, cmp_eq_int, cmp_ne_int, cmp_lt_int, cmp_gt_int, cmp_le_int, cmp_ge_int, cmp_eq_bl, cmp_ne_bl, cmp_eq_str, cmp_ne_str, cmp_is, cmp_isnot, List.length_cons, List.length_nil, Int.toNat_zero, Int.toNat_one, Option.some.injEq, U.bl.injEq, U.int.injEq, U.ref.injEq, U.tup.injEq, exists_eq_left', Option.bind_some, List.getElem?_cons_zero, List.getElem?_cons_succ, List.set_cons_zero, List.set_cons_succ, decide_eq_true_eq, decide_eq_false_iff_not]
    refine ⟨fun hc => (nomatch hc), fun _ => ⟨L', _, rfl, fr.same _ _ (fun z => z.elim (fun z => eB z.symm) fun z => qB z.symm) g, pr', ?_⟩⟩
    have nx : x ∉ ([] : List En) := fun z => nomatch z
    have ix : x ∈ [x] := List.mem_cons_self
    rcases st with ⟨z, rfl⟩ | ⟨z, rfl⟩ | ⟨z, rfl⟩ | ⟨z, rfl⟩ | ⟨z, rfl⟩ | ⟨z, rfl⟩ | ⟨z, rfl⟩
    all_goals cases z
    · rcases st2 with ⟨_, rfl⟩ | ⟨z, _⟩
      · exact .inr (.inl ⟨rfl, rfl⟩)
      · exact absurd (by rw [decide_eq_false nx]) z
    · rcases st2 with ⟨z, _⟩ | ⟨_, z⟩
      · rw [decide_eq_false nx] at z; cases z
      · exact .inr (.inr (.inl ⟨rfl, List.perm_singleton.mp z⟩))
    · rcases st2 with ⟨_, rfl⟩ | ⟨z, _⟩
      · exact .inr (.inr (.inr (.inl ⟨rfl, rfl⟩)))
      · exact absurd (by rw [decide_eq_true ix]) z
    · rcases st2 with ⟨z, _⟩ | ⟨_, z⟩
      · rw [decide_eq_true ix] at z; cases z
      · exact .inr (.inr (.inr (.inr (.inl ⟨rfl, nil_of z⟩))))
    · rcases st2 with ⟨_, rfl⟩ | ⟨z, _⟩
      · exact .inr (.inr (.inr (.inr (.inr (.inl ⟨rfl, rfl⟩)))))
      · exact absurd (by rw [decide_eq_false nx]) z
    · rcases st2 with ⟨z, _⟩ | ⟨_, z⟩
      · rw [decide_eq_false nx] at z; cases z
      · exact .inr (.inr (.inr (.inr (.inr (.inr ⟨rfl, List.perm_singleton.mp z⟩)))))
end Pl

namespace Pl
open PySem
/-- the two indexes, what is kept beside them, the well, the cells -/
structure St (k : Bool) (ix ek qk : Bool → Nat) (IX KX w0 CL : Nat) (C : List U) (L : Bool → List En) (h : AH) : Prop where
  pr : ∀ b, Pair k h (ix b) (ek b) (qk b) (L b)
  hI : h[IX]? = some (.lst [.ref (ix false), .ref (ix true)])
  hK : h[KX]? = some (.lst [.ref (qk false), .ref (qk true)])
  hW : WellAt h w0
  hC : h[CL]? = some (.lst C)
  ne : ∀ b c, b ≠ c → ek b ≠ ek c ∧ qk b ≠ qk c
  ne2 : ∀ b c, ek b ≠ qk c
  far : ∀ b n, n = IX ∨ n = KX ∨ n = w0 ∨ n = CL → ek b ≠ n ∧ qk b ≠ n
section
variable {k : Bool} {ix ek qk : Bool → Nat} {IX KX w0 CL : Nat} {C : List U} {L : Bool → List En} {h h' : AH}
theorem St.fr {S : Nat → Prop} (s : St k ix ek qk IX KX w0 CL C L h) (f : Fr S h h') (hS : ∀ n, n < h.length → ¬ S n) : St k ix ek qk IX KX w0 CL C L h' where
  pr := fun b => by
    obtain ⟨M, hM, _⟩ := (s.pr b).kept
    exact (s.pr b).fr f (hS _ (lt_of_at (s.pr b).ix.obj)) (hS _ (lt_of_at (s.pr b).ix.lst)) (hS _ (lt_of_at hM))
  hI := f.same _ _ (hS _ (lt_of_at s.hI)) s.hI
  hK := f.same _ _ (hS _ (lt_of_at s.hK)) s.hK
  hW := by
    obtain ⟨x, y, z, e⟩ := s.hW
    exact ⟨x, y, z, f.same _ _ (hS _ (lt_of_at e)) e⟩
  hC := f.same _ _ (hS _ (lt_of_at s.hC)) s.hC
  ne := s.ne
  ne2 := s.ne2
  far := s.far
theorem St.app {l : AH} (s : St k ix ek qk IX KX w0 CL C L h) : St k ix ek qk IX KX w0 CL C L (h ++ l) := s.fr (S := fun _ => False) Fr.app fun _ _ z => z
/-- what was all there before a -/
theorem St.fr1 (s : St k ix ek qk IX KX w0 CL C L h) {a : Nat} (f : Fr (At1 a) h h') (o : ∀ b, ix b ≠ a ∧ ek b ≠ a ∧ qk b ≠ a) (o2 : IX ≠ a ∧ KX ≠ a ∧ w0 ≠ a ∧ CL ≠ a) : St k ix ek qk IX KX w0 CL C L h' where
  pr := fun b => (s.pr b).fr f (o b).1 (o b).2.1 (o b).2.2
  hI := f.same _ _ o2.1 s.hI
  hK := f.same _ _ o2.2.1 s.hK
  hW := s.hW.fr f o2.2.2.1
  hC := f.same _ _ o2.2.2.2 s.hC
  ne := s.ne
  ne2 := s.ne2
  far := s.far
theorem St.off (s : St k ix ek qk IX KX w0 CL C L h) {a : Nat} (ha : h.length ≤ a) : (∀ b, ix b ≠ a ∧ ek b ≠ a ∧ qk b ≠ a) ∧ (IX ≠ a ∧ KX ≠ a ∧ w0 ≠ a ∧ CL ≠ a) := by
  have lt : ∀ {n o}, h[n]? = some o → n ≠ a := fun {n o} e z => absurd (lt_of_at e) (by omega)
  refine ⟨fun b => ?_, lt s.hI, lt s.hK, ?_, lt s.hC⟩
  · obtain ⟨M, hM, _⟩ := (s.pr b).kept
    exact ⟨lt (s.pr b).ix.obj, lt (s.pr b).ix.lst, lt hM⟩
  · obtain ⟨x, y, z, e⟩ := s.hW
    exact lt e
/-- a deed on one side -/
theorem St.deed (s : St k ix ek qk IX KX w0 CL C L h) {c : Bool} {L' : List En} (f : Fr (fun n => n = ek c ∨ n = qk c) h h') (p : Pair k h' (ix c) (ek c) (qk c) L') : St k ix ek qk IX KX w0 CL C (fun b => if b = c then L' else L b) h' where
  pr := fun b => by
    by_cases z : b = c
    · subst z; rw [if_pos rfl]; exact p
    · rw [if_neg z]
      obtain ⟨M, hM, _⟩ := (s.pr c).kept
      have n1 : ¬ (ix b = ek c ∨ ix b = qk c) := fun q => by
        have a := (s.pr b).ix.obj
        rcases q with q | q
        · rw [q, (s.pr c).ix.lst] at a; cases a
        · rw [q, hM] at a; cases a
      exact (s.pr b).fr f n1 (fun q => q.elim (s.ne b c z).1 (s.ne2 b c)) (fun q => q.elim (fun q => s.ne2 c b q.symm) (s.ne b c z).2)
  hI := f.same _ _ (fun q => q.elim (fun q => (s.far c IX (.inl rfl)).1 q.symm) fun q => (s.far c IX (.inl rfl)).2 q.symm) s.hI
  hK := f.same _ _ (fun q => q.elim (fun q => (s.far c KX (.inr (.inl rfl))).1 q.symm) fun q => (s.far c KX (.inr (.inl rfl))).2 q.symm) s.hK
  hW := s.hW.fr f fun q => q.elim (fun q => (s.far c w0 (.inr (.inr (.inl rfl)))).1 q.symm) fun q => (s.far c w0 (.inr (.inr (.inl rfl)))).2 q.symm
  hC := f.same _ _ (fun q => q.elim (fun q => (s.far c CL (.inr (.inr (.inr rfl)))).1 q.symm) fun q => (s.far c CL (.inr (.inr (.inr rfl)))).2 q.symm) s.hC
  ne := s.ne
  ne2 := s.ne2
  far := s.far
theorem at_side {f : Bool → Nat} {A : Nat} (e : h[A]? = some (.lst [.ref (f false), .ref (f true)])) (c : Bool) : (getL h A).bind (fun xs => L2.atI xs (if c = true then 1 else 0)) = some (.ref (f c)) := by
  rw [getL_of e]
  cases c <;> rfl
end
theorem third {r : Int} (h0 : 0 ≤ r) (h1 : r < 4) : ∃ c : Bool, r / 3 = if c = true then 1 else 0 := by
  by_cases z : r = 3
  · exact ⟨true, by subst z; rfl⟩
  · exact ⟨false, by rw [if_neg Bool.false_ne_true]; omega⟩
end Pl

namespace Pl
open PySem
/-- what the cells' turns keep -/
def I1 (k late : Bool) (ix ek qk : Bool → Nat) (IX KX w0 CL : Nat) (C : List U) (xs : List U) (ρ : Loc) (h : AH) : Prop :=
  (∀ y ∈ xs, ∃ c, y = .int c) ∧ ∃ (L : Bool → List En) (b : Option En) (v7 v8 v9 v10 v11 v12 v13 v14 v15 : Option U), ρ = [some (.ref 0), some (.ref w0), some (.bl k), some (.bl late), some (.ref IX), some (.ref KX), some (befU k b), v7, v8, v9, v10, v11, v12, v13, v14, v15] ∧
    (∀ e, b = some e → GoodE k e) ∧ St k ix ek qk IX KX w0 CL C L h ∧ ∀ c, (L c).length + xs.length ≤ 40
theorem turn_W {d : Nat} {k late : Bool} {ix ek qk : Bool → Nat} {IX KX w0 CL : Nat} {C : List U} {y : U} {xs : List U} {ρ : Loc} {h : AH} {D : Po} (hD : ∀ ρ h, I1 k late ix ek qk IX KX w0 CL C xs ρ h → D.nx ρ h) (I : I1 k late ix ek qk IX KX w0 CL C (y :: xs) ρ h) :
    (evSs prg ⟨call prg (d + 5), none⟩ [.asg (.one 8) (.call ._law_well [.lc 7]), .asg (.one 9) (.bin .div (.call ._law_draw [.lc 8, .cu (.int 4)]) (.cu (.int 3))), .asg (.tup [10, 6]) (.call ._law_deed [.lc 8, .lc 2, .lc 6, .sub (.lc 5) (.lc 9)]), .ite (.nt (.call ._law_done [.sub (.lc 4) (.lc 9), .sub (.lc 5) (.lc 9), .lc 10, .lc 6])) [.ret (.cu (.bl false))] [],
      .ite (.an (.nt (.lc 3)) (.cmp .eq (.call ._law_draw [.lc 8, .cu (.int 3)]) (.cu (.int 0)))) [.asg (.tup [11, 12]) (.tup [.call ._law_bound [.lc 8, .sub (.lc 5) (.lc 9)], .call ._law_bound [.lc 8, .sub (.lc 5) (.lc 9)]]), .ite (.nt (.call ._law_shown [.sub (.lc 4) (.lc 9), .sub (.lc 5) (.lc 9), .lc 11, .lc 12])) [.ret (.cu (.bl false))] []] []] (ρ.set 7 (some y)) h).W D := by
  obtain ⟨hx, L, b, v7, v8, v9, v10, v11, v12, v13, v14, v15, rfl, gb, s, hl⟩ := I
  obtain ⟨c, rfl⟩ := hx y List.mem_cons_self
  have hx' : ∀ y ∈ xs, ∃ c, y = .int c := fun y hy => hx y (List.mem_cons_of_mem _ hy)
  rw [ss_cons]
  try simp only [e_xisi, e_comp0, e_compIf0, s_for0, e_new0, e_meth0, e_bi0, e_call0, e_lc, e_cu, e_gl, e_bin, e_neg, e_nt, e_an, e_or, e_cmp, e_chain, e_ife, ws_nil, ws_cons, e_isi, e_fld, e_sub, e_tup, e_lst, e_slc, s_asg, s_one, s_fld, s_sub, s_ex, s_ret, s_brk, s_cnt, s_pass, s_ite, ss_nil, W_ok, W_opt, b_add, b_sub, b_mul, b_div, b_mod, b_pow, sub_tup, sub_ref, at_0, at_1, at_2, ix_1_0, ix_2_0, ix_2_1, ix_3_0, ix_3_1, ix_3_2, ix_4_0, ix_4_1, ix_4_2, ix_4_3, ix_5_0, ix_5_1, ix_5_2, ix_5_3, ix_5_4, ix_6_0, ix_6_1, ix_6_2, ix_6_3, ix_6_4, ix_6_5, i_max, i_min, i_abs, i_int, i_intb, i_len_tup, bindT, setAll, cmp_eq_int, cmp_ne_int, cmp_lt_int, cmp_gt_int, cmp_le_int, cmp_ge_int, cmp_eq_bl, cmp_ne_bl, cmp_eq_str, cmp_ne_str, cmp_is, cmp_isnot, List.length_cons, List.length_nil, Int.toNat_zero, Int.toNat_one, Option.some.injEq, U.bl.injEq, U.int.injEq, U.ref.injEq, U.tup.injEq, exists_eq_left', Option.bind_some, List.getElem?_cons_zero, List.getElem?_cons_succ, List.set_cons_zero, List.set_cons_succ, decide_eq_true_eq, decide_eq_false_iff_not]
  refine ⟨rfl, W_no wellnew_W ?_⟩
  rintro u h1 ⟨rfl, wx, wy, wz, rfl⟩
  have w1 : WellAt (h ++ [Ob.lst (well wx wy wz)]) h.length := ⟨wx, wy, wz, at_new⟩
  have s1 := s.app (l := [Ob.lst (well wx wy wz)])
  obtain ⟨o1, o2⟩ := s.off (a := h.length) (Nat.le_refl _)
  generalize h ++ [Ob.lst (well wx wy wz)] = h1 at w1 s1 ⊢
  generalize h.length = a at w1 o1 o2 ⊢
  rw [ss_cons]
  try simp only [e_xisi, e_comp0, e_compIf0, s_for0, e_new0, e_meth0, e_bi0, e_call0, e_lc, e_cu, e_gl, e_bin, e_neg, e_nt, e_an, e_or, e_cmp, e_chain, e_ife, ws_nil, ws_cons, e_isi, e_fld, e_sub, e_tup, e_lst, e_slc, s_asg, s_one, s_fld, s_sub, s_ex, s_ret, s_brk, s_cnt, s_pass, s_ite, ss_nil, W_ok, W_opt, b_add, b_sub, b_mul, b_div, b_mod, b_pow, sub_tup, sub_ref, at_0, at_1, at_2, ix_1_0, ix_2_0, ix_2_1, ix_3_0, ix_3_1, ix_3_2, ix_4_0, ix_4_1, ix_4_2, ix_4_3, ix_5_0, ix_5_1, ix_5_2, ix_5_3, ix_5_4, ix_6_0, ix_6_1, ix_6_2, ix_6_3, ix_6_4, ix_6_5, i_max, i_min, i_abs, i_int, i_intb, i_len_tup, bindT, setAll, cmp_eq_int, cmp_ne_int, cmp_lt_int, cmp_gt_int, cmp_le_int, cmp_ge_int, cmp_eq_bl, cmp_ne_bl, cmp_eq_str, cmp_ne_str, cmp_is, cmp_isnot, List.length_cons, List.length_nil, Int.toNat_zero, Int.toNat_one, Option.some.injEq, U.bl.injEq, U.int.injEq, U.ref.injEq, U.tup.injEq, exists_eq_left', Option.bind_some, List.getElem?_cons_zero, List.getElem?_cons_succ, List.set_cons_zero, List.set_cons_succ, decide_eq_true_eq, decide_eq_false_iff_not]
  refine ⟨rfl, W_no (draw_W w1 (by decide) (by decide)) ?_⟩
  rintro u h2 ⟨f2, w2, r, rfl, r0, r1⟩
  have s2 := s1.fr1 f2 o1 o2
  obtain ⟨sd, hsd⟩ := third r0 r1
  try simp only [e_xisi, e_comp0, e_compIf0, s_for0, e_new0, e_meth0, e_bi0, e_call0, e_lc, e_cu, e_gl, e_bin, e_neg, e_nt, e_an, e_or, e_cmp, e_chain, e_ife, ws_nil, ws_cons, e_isi, e_fld, e_sub, e_tup, e_lst, e_slc, s_asg, s_one, s_fld, s_sub, s_ex, s_ret, s_brk, s_cnt, s_pass, s_ite, ss_nil, W_ok, W_opt, b_add, b_sub, b_mul, b_div, b_mod, b_pow, sub_tup, sub_ref, at_0, at_1, at_2, ix_1_0, ix_2_0, ix_2_1, ix_3_0, ix_3_1, ix_3_2, ix_4_0, ix_4_1, ix_4_2, ix_4_3, ix_5_0, ix_5_1, ix_5_2, ix_5_3, ix_5_4, ix_6_0, ix_6_1, ix_6_2, ix_6_3, ix_6_4, ix_6_5, i_max, i_min, i_abs, i_int, i_intb, i_len_tup, bindT, setAll, cmp_eq_int, cmp_ne_int, cmp_lt_int, cmp_gt_int, cmp_le_int, cmp_ge_int, cmp_eq_bl, cmp_ne_bl, cmp_eq_str, cmp_ne_str, cmp_is, cmp_isnot, List.length_cons, List.length_nil, Int.toNat_zero, Int.toNat_one, Option.some.injEq, U.bl.injEq, U.int.injEq, U.ref.injEq, U.tup.injEq, exists_eq_left', Option.bind_some, List.getElem?_cons_zero, List.getElem?_cons_succ, List.set_cons_zero, List.set_cons_succ, decide_eq_true_eq, decide_eq_false_iff_not]
  refine ⟨by decide, ?_⟩
  rw [hsd]
  rw [ss_cons]
  try simp only [e_xisi, e_comp0, e_compIf0, s_for0, e_new0, e_meth0, e_bi0, e_call0, e_lc, e_cu, e_gl, e_bin, e_neg, e_nt, e_an, e_or, e_cmp, e_chain, e_ife, ws_nil, ws_cons, e_isi, e_fld, e_sub, e_tup, e_lst, e_slc, s_asg, s_one, s_fld, s_sub, s_ex, s_ret, s_brk, s_cnt, s_pass, s_ite, ss_nil, W_ok, W_opt, b_add, b_sub, b_mul, b_div, b_mod, b_pow, sub_tup, sub_ref, at_0, at_1, at_2, ix_1_0, ix_2_0, ix_2_1, ix_3_0, ix_3_1, ix_3_2, ix_4_0, ix_4_1, ix_4_2, ix_4_3, ix_5_0, ix_5_1, ix_5_2, ix_5_3, ix_5_4, ix_6_0, ix_6_1, ix_6_2, ix_6_3, ix_6_4, ix_6_5, i_max, i_min, i_abs, i_int, i_intb, i_len_tup, bindT, setAll, cmp_eq_int, cmp_ne_int, cmp_lt_int, cmp_gt_int, cmp_le_int, cmp_ge_int, cmp_eq_bl, cmp_ne_bl, cmp_eq_str, cmp_ne_str, cmp_is, cmp_isnot, List.length_cons, List.length_nil, Int.toNat_zero, Int.toNat_one, Option.some.injEq, U.bl.injEq, U.int.injEq, U.ref.injEq, U.tup.injEq, exists_eq_left', Option.bind_some, List.getElem?_cons_zero, List.getElem?_cons_succ, List.set_cons_zero, List.set_cons_succ, decide_eq_true_eq, decide_eq_false_iff_not, at_side s2.hK]
  obtain ⟨M, hM, pM⟩ := (s2.pr sd).kept
  have hlM := pM.length_eq
  have hls := hl sd
  rw [List.length_cons] at hls
  have nq : a ≠ qk sd := (o1 sd).2.2.symm
  refine ⟨rfl, W_no (deed_W w2 hM nq (fun f hf => (s2.pr sd).ix.good f (pM.subset hf)) gb (by omega)) ?_⟩
  rintro u h3 ⟨f3, w3, p, x, rfl, gx⟩
  have s3 := s2.fr1 f3 o1 o2
  try simp only [e_xisi, e_comp0, e_compIf0, s_for0, e_new0, e_meth0, e_bi0, e_call0, e_lc, e_cu, e_gl, e_bin, e_neg, e_nt, e_an, e_or, e_cmp, e_chain, e_ife, ws_nil, ws_cons, e_isi, e_fld, e_sub, e_tup, e_lst, e_slc, s_asg, s_one, s_fld, s_sub, s_ex, s_ret, s_brk, s_cnt, s_pass, s_ite, ss_nil, W_ok, W_opt, b_add, b_sub, b_mul, b_div, b_mod, b_pow, sub_tup, sub_ref, at_0, at_1, at_2, ix_1_0, ix_2_0, ix_2_1, ix_3_0, ix_3_1, ix_3_2, ix_4_0, ix_4_1, ix_4_2, ix_4_3, ix_5_0, ix_5_1, ix_5_2, ix_5_3, ix_5_4, ix_6_0, ix_6_1, ix_6_2, ix_6_3, ix_6_4, ix_6_5, i_max, i_min, i_abs, i_int, i_intb, i_len_tup, bindT, setAll, cmp_eq_int, cmp_ne_int, cmp_lt_int, cmp_gt_int, cmp_le_int, cmp_ge_int, cmp_eq_bl, cmp_ne_bl, cmp_eq_str, cmp_ne_str, cmp_is, cmp_isnot, List.length_cons, List.length_nil, Int.toNat_zero, Int.toNat_one, Option.some.injEq, U.bl.injEq, U.int.injEq, U.ref.injEq, U.tup.injEq, exists_eq_left', Option.bind_some, List.getElem?_cons_zero, List.getElem?_cons_succ, List.set_cons_zero, List.set_cons_succ, decide_eq_true_eq, decide_eq_false_iff_not]
  rw [ss_cons]
  try simp only [e_xisi, e_comp0, e_compIf0, s_for0, e_new0, e_meth0, e_bi0, e_call0, e_lc, e_cu, e_gl, e_bin, e_neg, e_nt, e_an, e_or, e_cmp, e_chain, e_ife, ws_nil, ws_cons, e_isi, e_fld, e_sub, e_tup, e_lst, e_slc, s_asg, s_one, s_fld, s_sub, s_ex, s_ret, s_brk, s_cnt, s_pass, s_ite, ss_nil, W_ok, W_opt, b_add, b_sub, b_mul, b_div, b_mod, b_pow, sub_tup, sub_ref, at_0, at_1, at_2, ix_1_0, ix_2_0, ix_2_1, ix_3_0, ix_3_1, ix_3_2, ix_4_0, ix_4_1, ix_4_2, ix_4_3, ix_5_0, ix_5_1, ix_5_2, ix_5_3, ix_5_4, ix_6_0, ix_6_1, ix_6_2, ix_6_3, ix_6_4, ix_6_5, i_max, i_min, i_abs, i_int, i_intb, i_len_tup, bindT, setAll, cmp_eq_int, cmp_ne_int, cmp_lt_int, cmp_gt_int, cmp_le_int, cmp_ge_int, cmp_eq_bl, cmp_ne_bl, cmp_eq_str, cmp_ne_str, cmp_is, cmp_isnot, List.length_cons, List.length_nil, Int.toNat_zero, Int.toNat_one, Option.some.injEq, U.bl.injEq, U.int.injEq, U.ref.injEq, U.tup.injEq, exists_eq_left', Option.bind_some, List.getElem?_cons_zero, List.getElem?_cons_succ, List.set_cons_zero, List.set_cons_succ, decide_eq_true_eq, decide_eq_false_iff_not, at_side s3.hK, at_side s3.hI]
  refine ⟨rfl, W_no (done_W (s3.pr sd) gx (by omega)) ?_⟩
  rintro u h4 ⟨rfl, f4, L', hL', p4⟩
  have s4 := s3.deed f4 p4
  have w4 : WellAt h4 a := w3.fr f4 fun z => z.elim (fun z => (o1 sd).2.1 z.symm) fun z => (o1 sd).2.2 z.symm
  have hl4 : L'.length ≤ (L sd).length + 1 := by
    rcases hL' with ⟨_, rfl⟩ | ⟨_, z⟩
    · omega
    · by_cases q : p = true
      · rw [if_pos q] at z; have := z.length_eq; simp at this; omega
      · rw [if_neg q] at z; have := z.length_eq; simp at this; omega
  have hl5 : ∀ c, (if c = sd then L' else L c).length + xs.length ≤ 40 := fun c => by
    by_cases q : c = sd
    · rw [if_pos q]; omega
    · rw [if_neg q]; have := hl c; rw [List.length_cons] at this; omega
  try simp only [e_xisi, e_comp0, e_compIf0, s_for0, e_new0, e_meth0, e_bi0, e_call0, e_lc, e_cu, e_gl, e_bin, e_neg, e_nt, e_an, e_or, e_cmp, e_chain, e_ife, ws_nil, ws_cons, e_isi, e_fld, e_sub, e_tup, e_lst, e_slc, s_asg, s_one, s_fld, s_sub, s_ex, s_ret, s_brk, s_cnt, s_pass, s_ite, ss_nil, W_ok, W_opt, b_add, b_sub, b_mul, b_div, b_mod, b_pow, sub_tup, sub_ref, at_0, at_1, at_2, ix_1_0, ix_2_0, ix_2_1, ix_3_0, ix_3_1, ix_3_2, ix_4_0, ix_4_1, ix_4_2, ix_4_3, ix_5_0, ix_5_1, ix_5_2, ix_5_3, ix_5_4, ix_6_0, ix_6_1, ix_6_2, ix_6_3, ix_6_4, ix_6_5, i_max, i_min, i_abs, i_int, i_intb, i_len_tup, bindT, setAll, cmp_eq_int, cmp_ne_int, cmp_lt_int, cmp_gt_int, cmp_le_int, cmp_ge_int, cmp_eq_bl, cmp_ne_bl, cmp_eq_str, cmp_ne_str, cmp_is, cmp_isnot, List.length_cons, List.length_nil, Int.toNat_zero, Int.toNat_one, Option.some.injEq, U.bl.injEq, U.int.injEq, U.ref.injEq, U.tup.injEq, exists_eq_left', Option.bind_some, List.getElem?_cons_zero, List.getElem?_cons_succ, List.set_cons_zero, List.set_cons_succ, decide_eq_true_eq, decide_eq_false_iff_not]
  refine ⟨fun hc => (nomatch hc), fun _ => ?_⟩
  rw [ss_cons]
  try simp only [e_xisi, e_comp0, e_compIf0, s_for0, e_new0, e_meth0, e_bi0, e_call0, e_lc, e_cu, e_gl, e_bin, e_neg, e_nt, e_an, e_or, e_cmp, e_chain, e_ife, ws_nil, ws_cons, e_isi, e_fld, e_sub, e_tup, e_lst, e_slc, s_asg, s_one, s_fld, s_sub, s_ex, s_ret, s_brk, s_cnt, s_pass, s_ite, ss_nil, W_ok, W_opt, b_add, b_sub, b_mul, b_div, b_mod, b_pow, sub_tup, sub_ref, at_0, at_1, at_2, ix_1_0, ix_2_0, ix_2_1, ix_3_0, ix_3_1, ix_3_2, ix_4_0, ix_4_1, ix_4_2, ix_4_3, ix_5_0, ix_5_1, ix_5_2, ix_5_3, ix_5_4, ix_6_0, ix_6_1, ix_6_2, ix_6_3, ix_6_4, ix_6_5, i_max, i_min, i_abs, i_int, i_intb, i_len_tup, bindT, setAll, cmp_eq_int, cmp_ne_int, cmp_lt_int, cmp_gt_int, cmp_le_int, cmp_ge_int, cmp_eq_bl, cmp_ne_bl, cmp_eq_str, cmp_ne_str, cmp_is, cmp_isnot, List.length_cons, List.length_nil, Int.toNat_zero, Int.toNat_one, Option.some.injEq, U.bl.injEq, U.int.injEq, U.ref.injEq, U.tup.injEq, exists_eq_left', Option.bind_some, List.getElem?_cons_zero, List.getElem?_cons_succ, List.set_cons_zero, List.set_cons_succ, decide_eq_true_eq, decide_eq_false_iff_not]
  refine ⟨fun hlate => ⟨rfl, ?_⟩, fun hlate => ⟨fun z => (nomatch z), fun _ => hD _ _ ⟨hx', _, some x, _, _, _, _, _, _, _, _, _, rfl, (fun e z => by cases z; exact gx), s4, hl5⟩⟩⟩
  refine W_no (draw_W w4 (by decide) (by decide)) ?_
  rintro u h5 ⟨f5, w5, r5, rfl, _⟩
  have s5 := s4.fr1 f5 o1 o2
  try simp only [e_xisi, e_comp0, e_compIf0, s_for0, e_new0, e_meth0, e_bi0, e_call0, e_lc, e_cu, e_gl, e_bin, e_neg, e_nt, e_an, e_or, e_cmp, e_chain, e_ife, ws_nil, ws_cons, e_isi, e_fld, e_sub, e_tup, e_lst, e_slc, s_asg, s_one, s_fld, s_sub, s_ex, s_ret, s_brk, s_cnt, s_pass, s_ite, ss_nil, W_ok, W_opt, b_add, b_sub, b_mul, b_div, b_mod, b_pow, sub_tup, sub_ref, at_0, at_1, at_2, ix_1_0, ix_2_0, ix_2_1, ix_3_0, ix_3_1, ix_3_2, ix_4_0, ix_4_1, ix_4_2, ix_4_3, ix_5_0, ix_5_1, ix_5_2, ix_5_3, ix_5_4, ix_6_0, ix_6_1, ix_6_2, ix_6_3, ix_6_4, ix_6_5, i_max, i_min, i_abs, i_int, i_intb, i_len_tup, bindT, setAll, cmp_eq_int, cmp_ne_int, cmp_lt_int, cmp_gt_int, cmp_le_int, cmp_ge_int, cmp_eq_bl, cmp_ne_bl, cmp_eq_str, cmp_ne_str, cmp_is, cmp_isnot, List.length_cons, List.length_nil, Int.toNat_zero, Int.toNat_one, Option.some.injEq, U.bl.injEq, U.int.injEq, U.ref.injEq, U.tup.injEq, exists_eq_left', Option.bind_some, List.getElem?_cons_zero, List.getElem?_cons_succ, List.set_cons_zero, List.set_cons_succ, decide_eq_true_eq, decide_eq_false_iff_not]
  refine ⟨fun _ => ?_, fun _ => hD _ _ ⟨hx', _, some x, _, _, _, _, _, _, _, _, _, rfl, (fun e z => by cases z; exact gx), s5, hl5⟩⟩
  rw [ss_cons]
  try simp only [e_xisi, e_comp0, e_compIf0, s_for0, e_new0, e_meth0, e_bi0, e_call0, e_lc, e_cu, e_gl, e_bin, e_neg, e_nt, e_an, e_or, e_cmp, e_chain, e_ife, ws_nil, ws_cons, e_isi, e_fld, e_sub, e_tup, e_lst, e_slc, s_asg, s_one, s_fld, s_sub, s_ex, s_ret, s_brk, s_cnt, s_pass, s_ite, ss_nil, W_ok, W_opt, b_add, b_sub, b_mul, b_div, b_mod, b_pow, sub_tup, sub_ref, at_0, at_1, at_2, ix_1_0, ix_2_0, ix_2_1, ix_3_0, ix_3_1, ix_3_2, ix_4_0, ix_4_1, ix_4_2, ix_4_3, ix_5_0, ix_5_1, ix_5_2, ix_5_3, ix_5_4, ix_6_0, ix_6_1, ix_6_2, ix_6_3, ix_6_4, ix_6_5, i_max, i_min, i_abs, i_int, i_intb, i_len_tup, bindT, setAll, cmp_eq_int, cmp_ne_int, cmp_lt_int, cmp_gt_int, cmp_le_int, cmp_ge_int, cmp_eq_bl, cmp_ne_bl, cmp_eq_str, cmp_ne_str, cmp_is, cmp_isnot, List.length_cons, List.length_nil, Int.toNat_zero, Int.toNat_one, Option.some.injEq, U.bl.injEq, U.int.injEq, U.ref.injEq, U.tup.injEq, exists_eq_left', Option.bind_some, List.getElem?_cons_zero, List.getElem?_cons_succ, List.set_cons_zero, List.set_cons_succ, decide_eq_true_eq, decide_eq_false_iff_not, at_side s5.hK]
  obtain ⟨M5, hM5, pM5⟩ := (s5.pr sd).kept
  have hM5l : M5.length < 900 := by have := pM5.length_eq; have := hl5 sd; omega
  refine ⟨rfl, W_no (bound_W w5 hM5 nq hM5l) ?_⟩
  rintro u h6 ⟨f6, w6, lo, rfl⟩
  have s6 := s5.fr1 f6 o1 o2
  try simp only [e_xisi, e_comp0, e_compIf0, s_for0, e_new0, e_meth0, e_bi0, e_call0, e_lc, e_cu, e_gl, e_bin, e_neg, e_nt, e_an, e_or, e_cmp, e_chain, e_ife, ws_nil, ws_cons, e_isi, e_fld, e_sub, e_tup, e_lst, e_slc, s_asg, s_one, s_fld, s_sub, s_ex, s_ret, s_brk, s_cnt, s_pass, s_ite, ss_nil, W_ok, W_opt, b_add, b_sub, b_mul, b_div, b_mod, b_pow, sub_tup, sub_ref, at_0, at_1, at_2, ix_1_0, ix_2_0, ix_2_1, ix_3_0, ix_3_1, ix_3_2, ix_4_0, ix_4_1, ix_4_2, ix_4_3, ix_5_0, ix_5_1, ix_5_2, ix_5_3, ix_5_4, ix_6_0, ix_6_1, ix_6_2, ix_6_3, ix_6_4, ix_6_5, i_max, i_min, i_abs, i_int, i_intb, i_len_tup, bindT, setAll, cmp_eq_int, cmp_ne_int, cmp_lt_int, cmp_gt_int, cmp_le_int, cmp_ge_int, cmp_eq_bl, cmp_ne_bl, cmp_eq_str, cmp_ne_str, cmp_is, cmp_isnot, List.length_cons, List.length_nil, Int.toNat_zero, Int.toNat_one, Option.some.injEq, U.bl.injEq, U.int.injEq, U.ref.injEq, U.tup.injEq, exists_eq_left', Option.bind_some, List.getElem?_cons_zero, List.getElem?_cons_succ, List.set_cons_zero, List.set_cons_succ, decide_eq_true_eq, decide_eq_false_iff_not, at_side s6.hK]
  obtain ⟨M6, hM6, pM6⟩ := (s6.pr sd).kept
  have hM6l : M6.length < 900 := by have := pM6.length_eq; have := hl5 sd; omega
  refine ⟨rfl, W_no (bound_W w6 hM6 nq hM6l) ?_⟩
  rintro u h7 ⟨f7, w7, hi, rfl⟩
  have s7 := s6.fr1 f7 o1 o2
  try simp only [e_xisi, e_comp0, e_compIf0, s_for0, e_new0, e_meth0, e_bi0, e_call0, e_lc, e_cu, e_gl, e_bin, e_neg, e_nt, e_an, e_or, e_cmp, e_chain, e_ife, ws_nil, ws_cons, e_isi, e_fld, e_sub, e_tup, e_lst, e_slc, s_asg, s_one, s_fld, s_sub, s_ex, s_ret, s_brk, s_cnt, s_pass, s_ite, ss_nil, W_ok, W_opt, b_add, b_sub, b_mul, b_div, b_mod, b_pow, sub_tup, sub_ref, at_0, at_1, at_2, ix_1_0, ix_2_0, ix_2_1, ix_3_0, ix_3_1, ix_3_2, ix_4_0, ix_4_1, ix_4_2, ix_4_3, ix_5_0, ix_5_1, ix_5_2, ix_5_3, ix_5_4, ix_6_0, ix_6_1, ix_6_2, ix_6_3, ix_6_4, ix_6_5, i_max, i_min, i_abs, i_int, i_intb, i_len_tup, bindT, setAll, cmp_eq_int, cmp_ne_int, cmp_lt_int, cmp_gt_int, cmp_le_int, cmp_ge_int, cmp_eq_bl, cmp_ne_bl, cmp_eq_str, cmp_ne_str, cmp_is, cmp_isnot, List.length_cons, List.length_nil, Int.toNat_zero, Int.toNat_one, Option.some.injEq, U.bl.injEq, U.int.injEq, U.ref.injEq, U.tup.injEq, exists_eq_left', Option.bind_some, List.getElem?_cons_zero, List.getElem?_cons_succ, List.set_cons_zero, List.set_cons_succ, decide_eq_true_eq, decide_eq_false_iff_not]
  refine ⟨hzs (by decide), ?_⟩
  rw [ss_cons]
  try simp only [e_xisi, e_comp0, e_compIf0, s_for0, e_new0, e_meth0, e_bi0, e_call0, e_lc, e_cu, e_gl, e_bin, e_neg, e_nt, e_an, e_or, e_cmp, e_chain, e_ife, ws_nil, ws_cons, e_isi, e_fld, e_sub, e_tup, e_lst, e_slc, s_asg, s_one, s_fld, s_sub, s_ex, s_ret, s_brk, s_cnt, s_pass, s_ite, ss_nil, W_ok, W_opt, b_add, b_sub, b_mul, b_div, b_mod, b_pow, sub_tup, sub_ref, at_0, at_1, at_2, ix_1_0, ix_2_0, ix_2_1, ix_3_0, ix_3_1, ix_3_2, ix_4_0, ix_4_1, ix_4_2, ix_4_3, ix_5_0, ix_5_1, ix_5_2, ix_5_3, ix_5_4, ix_6_0, ix_6_1, ix_6_2, ix_6_3, ix_6_4, ix_6_5, i_max, i_min, i_abs, i_int, i_intb, i_len_tup, bindT, setAll, cmp_eq_int, cmp_ne_int, cmp_lt_int, cmp_gt_int, cmp_le_int, cmp_ge_int, cmp_eq_bl, cmp_ne_bl, cmp_eq_str, cmp_ne_str, cmp_is, cmp_isnot, List.length_cons, List.length_nil, Int.toNat_zero, Int.toNat_one, Option.some.injEq, U.bl.injEq, U.int.injEq, U.ref.injEq, U.tup.injEq, exists_eq_left', Option.bind_some, List.getElem?_cons_zero, List.getElem?_cons_succ, List.set_cons_zero, List.set_cons_succ, decide_eq_true_eq, decide_eq_false_iff_not, at_side s7.hK, at_side s7.hI]
  have hLl : (if sd = sd then L' else L sd).length < 900 := by have := hl5 sd; omega
  refine ⟨rfl, W_no (shown_W (s7.pr sd) hLl) ?_⟩
  rintro u h8 ⟨rfl, f8⟩
  have s8 := s7.fr f8 fun _ _ z => z
  try simp only [e_xisi, e_comp0, e_compIf0, s_for0, e_new0, e_meth0, e_bi0, e_call0, e_lc, e_cu, e_gl, e_bin, e_neg, e_nt, e_an, e_or, e_cmp, e_chain, e_ife, ws_nil, ws_cons, e_isi, e_fld, e_sub, e_tup, e_lst, e_slc, s_asg, s_one, s_fld, s_sub, s_ex, s_ret, s_brk, s_cnt, s_pass, s_ite, ss_nil, W_ok, W_opt, b_add, b_sub, b_mul, b_div, b_mod, b_pow, sub_tup, sub_ref, at_0, at_1, at_2, ix_1_0, ix_2_0, ix_2_1, ix_3_0, ix_3_1, ix_3_2, ix_4_0, ix_4_1, ix_4_2, ix_4_3, ix_5_0, ix_5_1, ix_5_2, ix_5_3, ix_5_4, ix_6_0, ix_6_1, ix_6_2, ix_6_3, ix_6_4, ix_6_5, i_max, i_min, i_abs, i_int, i_intb, i_len_tup, bindT, setAll, cmp_eq_int, cmp_ne_int, cmp_lt_int, cmp_gt_int, cmp_le_int, cmp_ge_int, cmp_eq_bl, cmp_ne_bl, cmp_eq_str, cmp_ne_str, cmp_is, cmp_isnot, List.length_cons, List.length_nil, Int.toNat_zero, Int.toNat_one, Option.some.injEq, U.bl.injEq, U.int.injEq, U.ref.injEq, U.tup.injEq, exists_eq_left', Option.bind_some, List.getElem?_cons_zero, List.getElem?_cons_succ, List.set_cons_zero, List.set_cons_succ, decide_eq_true_eq, decide_eq_false_iff_not]
  exact ⟨fun hc => (nomatch hc), fun _ => hD _ _ ⟨hx', _, some x, _, _, _, _, _, _, _, _, _, rfl, (fun e z => by cases z; exact gx), s8, hl5⟩⟩
end Pl

namespace Pl
open PySem
theorem ints_mem {ns : List Int} : ∀ y ∈ ns.map U.int, ∃ c, y = .int c := fun y hy => by
  obtain ⟨c, _, rfl⟩ := List.mem_map.mp hy
  exact ⟨c, rfl⟩
/-- one side shown, four times -/
theorem tail_W {d : Nat} {k : Bool} {ix ek qk : Bool → Nat} {IX KX w0 : Nat} {L : Bool → List En} {h : AH} {D : Po} {b : Bool} {z15 : Option U} {r0 r2 r3 r4 r5 r6 r7 r8 r9 r10 r11 r12 : Option U} (s : St k ix ek qk IX KX w0 IX [.ref (ix false), .ref (ix true)] L h) (hl : ∀ c, (L c).length ≤ 40)
    (hD : ∀ z h', St k ix ek qk IX KX w0 IX [.ref (ix false), .ref (ix true)] L h' → D.nx [r0, some (.ref w0), r2, r3, r4, r5, r6, r7, r8, r9, r10, r11, r12, some (.ref (ix b)), some (.ref (qk b)), z] h') :
    (evSs prg ⟨call prg (d + 5), none⟩ [.for_ (.one 15) .range1 [.cu (.int 3)] [.ite (.nt (.call ._law_shown [.lc 13, .lc 14, .call ._law_bound [.lc 1, .lc 14], .call ._law_bound [.lc 1, .lc 14]])) [.ret (.cu (.bl false))] []], .ite (.nt (.call ._law_shown [.lc 13, .lc 14, .cu .non, .cu .non])) [.ret (.cu (.bl false))] []]
      [r0, some (.ref w0), r2, r3, r4, r5, r6, r7, r8, r9, r10, r11, r12, some (.ref (ix b)), some (.ref (qk b)), z15] h).W D := by
  have o : (∀ b, ix b ≠ w0 ∧ ek b ≠ w0 ∧ qk b ≠ w0) ∧ (IX ≠ w0 ∧ KX ≠ w0) := by
    obtain ⟨x, y, z, e⟩ := s.hW
    refine ⟨fun b => ⟨fun q => ?_, (s.far b w0 (.inr (.inr (.inl rfl)))).1, (s.far b w0 (.inr (.inr (.inl rfl)))).2⟩, fun q => ?_, fun q => ?_⟩
    · have a := (s.pr b).ix.obj; rw [q, e] at a; cases a
    · have a := s.hI; rw [q, e] at a; cases a
    · have a := s.hK; rw [q, e] at a; cases a
  have draw1 : ∀ {h h' : AH}, St k ix ek qk IX KX w0 IX [.ref (ix false), .ref (ix true)] L h → Fr (At1 w0) h h' → WellAt h' w0 → St k ix ek qk IX KX w0 IX [.ref (ix false), .ref (ix true)] L h' := fun {h h'} s f w =>
    { pr := fun b => (s.pr b).fr f (o.1 b).1 (o.1 b).2.1 (o.1 b).2.2
      hI := f.same _ _ o.2.1 s.hI
      hK := f.same _ _ o.2.2 s.hK
      hW := w
      hC := f.same _ _ o.2.1 s.hC
      ne := s.ne
      ne2 := s.ne2
      far := s.far }
  rw [ss_cons]
  try simp only [e_xisi, e_comp0, e_compIf0, s_for0, e_new0, e_meth0, e_bi0, e_call0, e_lc, e_cu, e_gl, e_bin, e_neg, e_nt, e_an, e_or, e_cmp, e_chain, e_ife, ws_nil, ws_cons, e_isi, e_fld, e_sub, e_tup, e_lst, e_slc, s_asg, s_one, s_fld, s_sub, s_ex, s_ret, s_brk, s_cnt, s_pass, s_ite, ss_nil, W_ok, W_opt, b_add, b_sub, b_mul, b_div, b_mod, b_pow, sub_tup, sub_ref, at_0, at_1, at_2, ix_1_0, ix_2_0, ix_2_1, ix_3_0, ix_3_1, ix_3_2, ix_4_0, ix_4_1, ix_4_2, ix_4_3, ix_5_0, ix_5_1, ix_5_2, ix_5_3, ix_5_4, ix_6_0, ix_6_1, ix_6_2, ix_6_3, ix_6_4, ix_6_5, i_max, i_min, i_abs, i_int, i_intb, i_len_tup, bindT, setAll, cmp_eq_int, cmp_ne_int, cmp_lt_int, cmp_gt_int, cmp_le_int, cmp_ge_int, cmp_eq_bl, cmp_ne_bl, cmp_eq_str, cmp_ne_str, cmp_is, cmp_isnot, List.length_cons, List.length_nil, Int.toNat_zero, Int.toNat_one, Option.some.injEq, U.bl.injEq, U.int.injEq, U.ref.injEq, U.tup.injEq, exists_eq_left', Option.bind_some, List.getElem?_cons_zero, List.getElem?_cons_succ, List.set_cons_zero, List.set_cons_succ, decide_eq_true_eq, decide_eq_false_iff_not]
  refine ⟨([.int 0, .int 1, .int 2], []), rfl, ?_⟩
  refine for_W (fun xs ρ h' => (∃ z, ρ = [r0, some (.ref w0), r2, r3, r4, r5, r6, r7, r8, r9, r10, r11, r12, some (.ref (ix b)), some (.ref (qk b)), z]) ∧ St k ix ek qk IX KX w0 IX [.ref (ix false), .ref (ix true)] L h') ?_ ?_ ?_ _ _ _ ⟨⟨_, rfl⟩, s⟩
  · intro xs ρ h' _
    rfl
  · rintro ρ h' ⟨⟨z, rfl⟩, s'⟩
    show (evSs prg ⟨call prg (d + 5), none⟩ _ [r0, some (.ref w0), r2, r3, r4, r5, r6, r7, r8, r9, r10, r11, r12, some (.ref (ix b)), some (.ref (qk b)), z] h').W _
    rw [ss_cons]
    try simp only [e_xisi, e_comp0, e_compIf0, s_for0, e_new0, e_meth0, e_bi0, e_call0, e_lc, e_cu, e_gl, e_bin, e_neg, e_nt, e_an, e_or, e_cmp, e_chain, e_ife, ws_nil, ws_cons, e_isi, e_fld, e_sub, e_tup, e_lst, e_slc, s_asg, s_one, s_fld, s_sub, s_ex, s_ret, s_brk, s_cnt, s_pass, s_ite, ss_nil, W_ok, W_opt, b_add, b_sub, b_mul, b_div, b_mod, b_pow, sub_tup, sub_ref, at_0, at_1, at_2, ix_1_0, ix_2_0, ix_2_1, ix_3_0, ix_3_1, ix_3_2, ix_4_0, ix_4_1, ix_4_2, ix_4_3, ix_5_0, ix_5_1, ix_5_2, ix_5_3, ix_5_4, ix_6_0, ix_6_1, ix_6_2, ix_6_3, ix_6_4, ix_6_5, i_max, i_min, i_abs, i_int, i_intb, i_len_tup, bindT, setAll, cmp_eq_int, cmp_ne_int, cmp_lt_int, cmp_gt_int, cmp_le_int, cmp_ge_int, cmp_eq_bl, cmp_ne_bl, cmp_eq_str, cmp_ne_str, cmp_is, cmp_isnot, List.length_cons, List.length_nil, Int.toNat_zero, Int.toNat_one, Option.some.injEq, U.bl.injEq, U.int.injEq, U.ref.injEq, U.tup.injEq, exists_eq_left', Option.bind_some, List.getElem?_cons_zero, List.getElem?_cons_succ, List.set_cons_zero, List.set_cons_succ, decide_eq_true_eq, decide_eq_false_iff_not]
    refine ⟨rfl, W_no (shown_W (lo := none) (hi := none) (s'.pr b) (by have := hl b; omega)) ?_⟩
    rintro u h3 ⟨rfl, f3⟩
    try simp only [e_xisi, e_comp0, e_compIf0, s_for0, e_new0, e_meth0, e_bi0, e_call0, e_lc, e_cu, e_gl, e_bin, e_neg, e_nt, e_an, e_or, e_cmp, e_chain, e_ife, ws_nil, ws_cons, e_isi, e_fld, e_sub, e_tup, e_lst, e_slc, s_asg, s_one, s_fld, s_sub, s_ex, s_ret, s_brk, s_cnt, s_pass, s_ite, ss_nil, W_ok, W_opt, b_add, b_sub, b_mul, b_div, b_mod, b_pow, sub_tup, sub_ref, at_0, at_1, at_2, ix_1_0, ix_2_0, ix_2_1, ix_3_0, ix_3_1, ix_3_2, ix_4_0, ix_4_1, ix_4_2, ix_4_3, ix_5_0, ix_5_1, ix_5_2, ix_5_3, ix_5_4, ix_6_0, ix_6_1, ix_6_2, ix_6_3, ix_6_4, ix_6_5, i_max, i_min, i_abs, i_int, i_intb, i_len_tup, bindT, setAll, cmp_eq_int, cmp_ne_int, cmp_lt_int, cmp_gt_int, cmp_le_int, cmp_ge_int, cmp_eq_bl, cmp_ne_bl, cmp_eq_str, cmp_ne_str, cmp_is, cmp_isnot, List.length_cons, List.length_nil, Int.toNat_zero, Int.toNat_one, Option.some.injEq, U.bl.injEq, U.int.injEq, U.ref.injEq, U.tup.injEq, exists_eq_left', Option.bind_some, List.getElem?_cons_zero, List.getElem?_cons_succ, List.set_cons_zero, List.set_cons_succ, decide_eq_true_eq, decide_eq_false_iff_not]
    exact ⟨fun hc => (nomatch hc), fun _ => hD _ _ (s'.fr f3 fun _ _ z => z)⟩
  · rintro y xs ρ h' ⟨⟨z, rfl⟩, s'⟩
    show (evSs prg ⟨call prg (d + 5), none⟩ _ [r0, some (.ref w0), r2, r3, r4, r5, r6, r7, r8, r9, r10, r11, r12, some (.ref (ix b)), some (.ref (qk b)), some y] h').W _
    rw [ss_cons]
    try simp only [e_xisi, e_comp0, e_compIf0, s_for0, e_new0, e_meth0, e_bi0, e_call0, e_lc, e_cu, e_gl, e_bin, e_neg, e_nt, e_an, e_or, e_cmp, e_chain, e_ife, ws_nil, ws_cons, e_isi, e_fld, e_sub, e_tup, e_lst, e_slc, s_asg, s_one, s_fld, s_sub, s_ex, s_ret, s_brk, s_cnt, s_pass, s_ite, ss_nil, W_ok, W_opt, b_add, b_sub, b_mul, b_div, b_mod, b_pow, sub_tup, sub_ref, at_0, at_1, at_2, ix_1_0, ix_2_0, ix_2_1, ix_3_0, ix_3_1, ix_3_2, ix_4_0, ix_4_1, ix_4_2, ix_4_3, ix_5_0, ix_5_1, ix_5_2, ix_5_3, ix_5_4, ix_6_0, ix_6_1, ix_6_2, ix_6_3, ix_6_4, ix_6_5, i_max, i_min, i_abs, i_int, i_intb, i_len_tup, bindT, setAll, cmp_eq_int, cmp_ne_int, cmp_lt_int, cmp_gt_int, cmp_le_int, cmp_ge_int, cmp_eq_bl, cmp_ne_bl, cmp_eq_str, cmp_ne_str, cmp_is, cmp_isnot, List.length_cons, List.length_nil, Int.toNat_zero, Int.toNat_one, Option.some.injEq, U.bl.injEq, U.int.injEq, U.ref.injEq, U.tup.injEq, exists_eq_left', Option.bind_some, List.getElem?_cons_zero, List.getElem?_cons_succ, List.set_cons_zero, List.set_cons_succ, decide_eq_true_eq, decide_eq_false_iff_not]
    obtain ⟨M, hM, pM⟩ := (s'.pr b).kept
    have hMl : M.length < 900 := by have := pM.length_eq; have := hl b; omega
    refine ⟨rfl, W_no (bound_W s'.hW hM (o.1 b).2.2.symm hMl) ?_⟩
    rintro u h3 ⟨f3, w3, lo, rfl⟩
    have s3 := draw1 s' f3 w3
    obtain ⟨M3, hM3, pM3⟩ := (s3.pr b).kept
    have hM3l : M3.length < 900 := by have := pM3.length_eq; have := hl b; omega
    refine ⟨rfl, W_no (bound_W w3 hM3 (o.1 b).2.2.symm hM3l) ?_⟩
    rintro u h4 ⟨f4, w4, hi, rfl⟩
    have s4 := draw1 s3 f4 w4
    refine ⟨rfl, W_no (shown_W (s4.pr b) (by have := hl b; omega)) ?_⟩
    rintro u h5 ⟨rfl, f5⟩
    try simp only [e_xisi, e_comp0, e_compIf0, s_for0, e_new0, e_meth0, e_bi0, e_call0, e_lc, e_cu, e_gl, e_bin, e_neg, e_nt, e_an, e_or, e_cmp, e_chain, e_ife, ws_nil, ws_cons, e_isi, e_fld, e_sub, e_tup, e_lst, e_slc, s_asg, s_one, s_fld, s_sub, s_ex, s_ret, s_brk, s_cnt, s_pass, s_ite, ss_nil, W_ok, W_opt, b_add, b_sub, b_mul, b_div, b_mod, b_pow, sub_tup, sub_ref, at_0, at_1, at_2, ix_1_0, ix_2_0, ix_2_1, ix_3_0, ix_3_1, ix_3_2, ix_4_0, ix_4_1, ix_4_2, ix_4_3, ix_5_0, ix_5_1, ix_5_2, ix_5_3, ix_5_4, ix_6_0, ix_6_1, ix_6_2, ix_6_3, ix_6_4, ix_6_5, i_max, i_min, i_abs, i_int, i_intb, i_len_tup, bindT, setAll, cmp_eq_int, cmp_ne_int, cmp_lt_int, cmp_gt_int, cmp_le_int, cmp_ge_int, cmp_eq_bl, cmp_ne_bl, cmp_eq_str, cmp_ne_str, cmp_is, cmp_isnot, List.length_cons, List.length_nil, Int.toNat_zero, Int.toNat_one, Option.some.injEq, U.bl.injEq, U.int.injEq, U.ref.injEq, U.tup.injEq, exists_eq_left', Option.bind_some, List.getElem?_cons_zero, List.getElem?_cons_succ, List.set_cons_zero, List.set_cons_succ, decide_eq_true_eq, decide_eq_false_iff_not]
    exact ⟨fun hc => (nomatch hc), fun _ => ⟨⟨_, rfl⟩, s4.fr f5 fun _ _ z => z⟩⟩
/-! ### the start -/
def ixF (n : Nat) (b : Bool) : Nat := cond b (n + 2) n
def ekF (n : Nat) (b : Bool) : Nat := cond b (n + 3) (n + 1)
def qkF (n : Nat) (b : Bool) : Nat := cond b (n + 6) (n + 5)
def start0 (h : AH) : AH := ((((nw (nw h) ++ [Ob.lst [.ref (ixF h.length false), .ref (ixF h.length true)]]) ++ [Ob.lst []]) ++ [Ob.lst []]) ++ [Ob.lst [.ref (qkF h.length false), .ref (qkF h.length true)]])
theorem start_St {k : Bool} {h : AH} {w0 : Nat} (w : WellAt h w0) : Fr (fun _ => False) h (start0 h) ∧ St k (ixF h.length) (ekF h.length) (qkF h.length) (h.length + 4) (h.length + 7) w0 (h.length + 4) [.ref (ixF h.length false), .ref (ixF h.length true)] (fun _ => []) (start0 h) := by
  have l2 : (nw (nw h)).length = h.length + 4 := by rw [nw_len, nw_len]
  have f0 : Fr (fun _ => False) h (nw (nw h)) := (nw_fr h).trans (nw_fr _)
  have fr : Fr (fun _ => False) (nw (nw h)) (start0 h) := by unfold start0; exact ((Fr.app.trans Fr.app).trans Fr.app).trans Fr.app
  have hIX : (start0 h)[h.length + 4]? = some (.lst [.ref (ixF h.length false), .ref (ixF h.length true)]) := by
    unfold start0
    rw [← l2]
    exact at_app (at_app (at_app at_new))
  have e5 : (nw (nw h) ++ [Ob.lst [.ref (ixF h.length false), .ref (ixF h.length true)]]).length = h.length + 5 := by rw [List.length_append, l2]; rfl
  have h5 : (start0 h)[h.length + 5]? = some (.lst []) := by
    unfold start0
    rw [← e5]
    exact at_app (at_app at_new)
  have e6 : ((nw (nw h) ++ [Ob.lst [.ref (ixF h.length false), .ref (ixF h.length true)]]) ++ [Ob.lst []]).length = h.length + 6 := by rw [List.length_append, e5]; rfl
  have h6 : (start0 h)[h.length + 6]? = some (.lst []) := by
    unfold start0
    rw [← e6]
    exact at_app at_new
  have e7 : (((nw (nw h) ++ [Ob.lst [.ref (ixF h.length false), .ref (ixF h.length true)]]) ++ [Ob.lst []]) ++ [Ob.lst []]).length = h.length + 7 := by rw [List.length_append, e6]; rfl
  have h7 : (start0 h)[h.length + 7]? = some (.lst [.ref (qkF h.length false), .ref (qkF h.length true)]) := by
    unfold start0
    rw [← e7]
    exact at_new
  have i0 : IdxAt k (start0 h) h.length (h.length + 1) [] := ((nw_idx h).fr (nw_fr (S := fun _ => False) _) id id).fr fr id id
  have i1 : IdxAt k (start0 h) (h.length + 2) (h.length + 3) [] := by
    have := (nw_idx (k := k) (nw h)).fr fr id id
    rw [nw_len] at this
    exact this
  obtain ⟨x, y, z, e⟩ := w
  have hw0 := lt_of_at e
  refine ⟨f0.trans fr, ⟨fun b => ?_, hIX, h7, ⟨x, y, z, (f0.trans fr).same _ _ id e⟩, hIX, fun b c hbc => ?_, fun b c => ?_, fun b n hn => ?_⟩⟩
  · cases b with
    | false => exact ⟨i0, ⟨[], h5, List.Perm.refl _⟩, by show h.length + 1 ≠ h.length + 5; omega⟩
    | true => exact ⟨i1, ⟨[], h6, List.Perm.refl _⟩, by show h.length + 3 ≠ h.length + 6; omega⟩
  · cases b <;> cases c <;> first | exact absurd rfl hbc | (simp only [ekF, qkF, cond_true, cond_false]; omega)
  · cases b <;> cases c <;> (simp only [ekF, qkF, cond_true, cond_false]; omega)
  · cases b <;> (simp only [ekF, qkF, cond_true, cond_false]; omega)
theorem law_true (ns : List Int) (o : Ob) (hl : ns.length ≤ 63) (hb : ∀ z ∈ ns, Builtin.Int.intBits z ≤ 1048576) (hs : IsScript o ns) : ∃ h', call prg (9 + 1) .law [.ref 0] [o] = .ok (.bl true) h' := by
  suffices q : (call prg (4 + 6) .law [.ref 0] [o]).W (fun u _ => u = .bl true) noX by
    obtain ⟨u, h', e, rfl⟩ := W_eq q
    exact ⟨h', e⟩
  have g0 : getL [o] 0 = some (ns.map U.int) := script_get hs
  refine call_W (F := f_law) rfl rfl ?_
  show (evSs prg ⟨call prg (4 + 5), none⟩ b_law [some (.ref 0), none, none, none, none, none, none, none, none, none, none, none, none, none, none, none] [o]).W _
  unfold b_law
  rw [ss_cons]
  try simp only [e_xisi, e_comp0, e_compIf0, s_for0, e_new0, e_meth0, e_bi0, e_call0, e_lc, e_cu, e_gl, e_bin, e_neg, e_nt, e_an, e_or, e_cmp, e_chain, e_ife, ws_nil, ws_cons, e_isi, e_fld, e_sub, e_tup, e_lst, e_slc, s_asg, s_one, s_fld, s_sub, s_ex, s_ret, s_brk, s_cnt, s_pass, s_ite, ss_nil, W_ok, W_opt, b_add, b_sub, b_mul, b_div, b_mod, b_pow, sub_tup, sub_ref, at_0, at_1, at_2, ix_1_0, ix_2_0, ix_2_1, ix_3_0, ix_3_1, ix_3_2, ix_4_0, ix_4_1, ix_4_2, ix_4_3, ix_5_0, ix_5_1, ix_5_2, ix_5_3, ix_5_4, ix_6_0, ix_6_1, ix_6_2, ix_6_3, ix_6_4, ix_6_5, i_max, i_min, i_abs, i_int, i_intb, i_len_tup, bindT, setAll, cmp_eq_int, cmp_ne_int, cmp_lt_int, cmp_gt_int, cmp_le_int, cmp_ge_int, cmp_eq_bl, cmp_ne_bl, cmp_eq_str, cmp_ne_str, cmp_is, cmp_isnot, List.length_cons, List.length_nil, Int.toNat_zero, Int.toNat_one, Option.some.injEq, U.bl.injEq, U.int.injEq, U.ref.injEq, U.tup.injEq, exists_eq_left', Option.bind_some, List.getElem?_cons_zero, List.getElem?_cons_succ, List.set_cons_zero, List.set_cons_succ, decide_eq_true_eq, decide_eq_false_iff_not]
  refine ⟨hzs (by decide), ?_⟩
  refine b_cat (getL_app g0) (getL_of at_new) (by rw [List.length_map]; exact hzs (by simp; omega)) ?_
  have g1 : getL ([o] ++ [Ob.lst [.int 0]] ++ [Ob.lst (ns.map U.int ++ [.int 0])]) 0 = some (ns.map U.int) := getL_app (getL_app g0)
  have g2 : getL ([o] ++ [Ob.lst [.int 0]] ++ [Ob.lst (ns.map U.int ++ [.int 0])]) ([o] ++ [Ob.lst [.int 0]]).length = some (ns.map U.int ++ [.int 0]) := getL_of at_new
  generalize [o] ++ [Ob.lst [.int 0]] ++ [Ob.lst (ns.map U.int ++ [.int 0])] = h1 at g1 g2 ⊢
  generalize ([o] ++ [Ob.lst [.int 0]]).length = c1 at g2 ⊢
  have h0 : ∃ c, L2.atI (ns.map U.int ++ [.int 0]) 0 = some (.int c) := by
    cases ns with
    | nil => exact ⟨0, rfl⟩
    | cons c ns => exact ⟨c, at_0⟩
  obtain ⟨c0, hc0⟩ := h0
  try simp only [e_xisi, e_comp0, e_compIf0, s_for0, e_new0, e_meth0, e_bi0, e_call0, e_lc, e_cu, e_gl, e_bin, e_neg, e_nt, e_an, e_or, e_cmp, e_chain, e_ife, ws_nil, ws_cons, e_isi, e_fld, e_sub, e_tup, e_lst, e_slc, s_asg, s_one, s_fld, s_sub, s_ex, s_ret, s_brk, s_cnt, s_pass, s_ite, ss_nil, W_ok, W_opt, b_add, b_sub, b_mul, b_div, b_mod, b_pow, sub_tup, sub_ref, at_0, at_1, at_2, ix_1_0, ix_2_0, ix_2_1, ix_3_0, ix_3_1, ix_3_2, ix_4_0, ix_4_1, ix_4_2, ix_4_3, ix_5_0, ix_5_1, ix_5_2, ix_5_3, ix_5_4, ix_6_0, ix_6_1, ix_6_2, ix_6_3, ix_6_4, ix_6_5, i_max, i_min, i_abs, i_int, i_intb, i_len_tup, bindT, setAll, cmp_eq_int, cmp_ne_int, cmp_lt_int, cmp_gt_int, cmp_le_int, cmp_ge_int, cmp_eq_bl, cmp_ne_bl, cmp_eq_str, cmp_ne_str, cmp_is, cmp_isnot, List.length_cons, List.length_nil, Int.toNat_zero, Int.toNat_one, Option.some.injEq, U.bl.injEq, U.int.injEq, U.ref.injEq, U.tup.injEq, exists_eq_left', Option.bind_some, List.getElem?_cons_zero, List.getElem?_cons_succ, List.set_cons_zero, List.set_cons_succ, decide_eq_true_eq, decide_eq_false_iff_not, g2, hc0]
  refine ⟨rfl, W_no wellnew_W ?_⟩
  rintro u h2 ⟨rfl, wx, wy, wz, rfl⟩
  have w2 : WellAt (h1 ++ [Ob.lst (well wx wy wz)]) h1.length := ⟨wx, wy, wz, at_new⟩
  have g3 : getL (h1 ++ [Ob.lst (well wx wy wz)]) 0 = some (ns.map U.int) := getL_app g1
  have n0 : (0 : Nat) ≠ h1.length := fun z => by
    have : h1[0]? = none := List.getElem?_eq_none (by omega)
    unfold getL at g1
    rw [this] at g1
    cases g1
  generalize h1 ++ [Ob.lst (well wx wy wz)] = h2 at w2 g3 ⊢
  generalize h1.length = w0 at w2 n0 ⊢
  have getL_fr : ∀ {h h' : AH}, Fr (At1 w0) h h' → getL h 0 = some (ns.map U.int) → getL h' 0 = some (ns.map U.int) := fun {h h'} f g => by
    unfold getL at *
    cases q : h[0]? with
    | none => rw [q] at g; cases g
    | some o => rw [f.same 0 o n0 q]; rw [q] at g; exact g
  rw [ss_cons]
  try simp only [e_xisi, e_comp0, e_compIf0, s_for0, e_new0, e_meth0, e_bi0, e_call0, e_lc, e_cu, e_gl, e_bin, e_neg, e_nt, e_an, e_or, e_cmp, e_chain, e_ife, ws_nil, ws_cons, e_isi, e_fld, e_sub, e_tup, e_lst, e_slc, s_asg, s_one, s_fld, s_sub, s_ex, s_ret, s_brk, s_cnt, s_pass, s_ite, ss_nil, W_ok, W_opt, b_add, b_sub, b_mul, b_div, b_mod, b_pow, sub_tup, sub_ref, at_0, at_1, at_2, ix_1_0, ix_2_0, ix_2_1, ix_3_0, ix_3_1, ix_3_2, ix_4_0, ix_4_1, ix_4_2, ix_4_3, ix_5_0, ix_5_1, ix_5_2, ix_5_3, ix_5_4, ix_6_0, ix_6_1, ix_6_2, ix_6_3, ix_6_4, ix_6_5, i_max, i_min, i_abs, i_int, i_intb, i_len_tup, bindT, setAll, cmp_eq_int, cmp_ne_int, cmp_lt_int, cmp_gt_int, cmp_le_int, cmp_ge_int, cmp_eq_bl, cmp_ne_bl, cmp_eq_str, cmp_ne_str, cmp_is, cmp_isnot, List.length_cons, List.length_nil, Int.toNat_zero, Int.toNat_one, Option.some.injEq, U.bl.injEq, U.int.injEq, U.ref.injEq, U.tup.injEq, exists_eq_left', Option.bind_some, List.getElem?_cons_zero, List.getElem?_cons_succ, List.set_cons_zero, List.set_cons_succ, decide_eq_true_eq, decide_eq_false_iff_not]
  refine ⟨rfl, W_no (draw_W w2 (by decide) (by decide)) ?_⟩
  rintro u h3 ⟨f3, w3, r3, rfl, _⟩
  try simp only [e_xisi, e_comp0, e_compIf0, s_for0, e_new0, e_meth0, e_bi0, e_call0, e_lc, e_cu, e_gl, e_bin, e_neg, e_nt, e_an, e_or, e_cmp, e_chain, e_ife, ws_nil, ws_cons, e_isi, e_fld, e_sub, e_tup, e_lst, e_slc, s_asg, s_one, s_fld, s_sub, s_ex, s_ret, s_brk, s_cnt, s_pass, s_ite, ss_nil, W_ok, W_opt, b_add, b_sub, b_mul, b_div, b_mod, b_pow, sub_tup, sub_ref, at_0, at_1, at_2, ix_1_0, ix_2_0, ix_2_1, ix_3_0, ix_3_1, ix_3_2, ix_4_0, ix_4_1, ix_4_2, ix_4_3, ix_5_0, ix_5_1, ix_5_2, ix_5_3, ix_5_4, ix_6_0, ix_6_1, ix_6_2, ix_6_3, ix_6_4, ix_6_5, i_max, i_min, i_abs, i_int, i_intb, i_len_tup, bindT, setAll, cmp_eq_int, cmp_ne_int, cmp_lt_int, cmp_gt_int, cmp_le_int, cmp_ge_int, cmp_eq_bl, cmp_ne_bl, cmp_eq_str, cmp_ne_str, cmp_is, cmp_isnot, List.length_cons, List.length_nil, Int.toNat_zero, Int.toNat_one, Option.some.injEq, U.bl.injEq, U.int.injEq, U.ref.injEq, U.tup.injEq, exists_eq_left', Option.bind_some, List.getElem?_cons_zero, List.getElem?_cons_succ, List.set_cons_zero, List.set_cons_succ, decide_eq_true_eq, decide_eq_false_iff_not]
  refine ⟨rfl, W_no (draw_W w3 (by decide) (by decide)) ?_⟩
  rintro u h4 ⟨f4, w4, r4, rfl, _⟩
  have g4 := getL_fr f4 (getL_fr f3 g3)
  try simp only [e_xisi, e_comp0, e_compIf0, s_for0, e_new0, e_meth0, e_bi0, e_call0, e_lc, e_cu, e_gl, e_bin, e_neg, e_nt, e_an, e_or, e_cmp, e_chain, e_ife, ws_nil, ws_cons, e_isi, e_fld, e_sub, e_tup, e_lst, e_slc, s_asg, s_one, s_fld, s_sub, s_ex, s_ret, s_brk, s_cnt, s_pass, s_ite, ss_nil, W_ok, W_opt, b_add, b_sub, b_mul, b_div, b_mod, b_pow, sub_tup, sub_ref, at_0, at_1, at_2, ix_1_0, ix_2_0, ix_2_1, ix_3_0, ix_3_1, ix_3_2, ix_4_0, ix_4_1, ix_4_2, ix_4_3, ix_5_0, ix_5_1, ix_5_2, ix_5_3, ix_5_4, ix_6_0, ix_6_1, ix_6_2, ix_6_3, ix_6_4, ix_6_5, i_max, i_min, i_abs, i_int, i_intb, i_len_tup, bindT, setAll, cmp_eq_int, cmp_ne_int, cmp_lt_int, cmp_gt_int, cmp_le_int, cmp_ge_int, cmp_eq_bl, cmp_ne_bl, cmp_eq_str, cmp_ne_str, cmp_is, cmp_isnot, List.length_cons, List.length_nil, Int.toNat_zero, Int.toNat_one, Option.some.injEq, U.bl.injEq, U.int.injEq, U.ref.injEq, U.tup.injEq, exists_eq_left', Option.bind_some, List.getElem?_cons_zero, List.getElem?_cons_succ, List.set_cons_zero, List.set_cons_succ, decide_eq_true_eq, decide_eq_false_iff_not]
  refine ⟨hzs (by decide), ?_⟩
  generalize decide (r3 = 0) = k
  generalize decide (r4 = 0) = late
  -- the two indexes
  rw [ss_cons, s_asg, e_tup, ws_cons, e_lst, ws_cons]
  refine new_W ?_
  rw [ws_cons]
  refine new_W ?_
  try simp only [e_xisi, e_comp0, e_compIf0, s_for0, e_new0, e_meth0, e_bi0, e_call0, e_lc, e_cu, e_gl, e_bin, e_neg, e_nt, e_an, e_or, e_cmp, e_chain, e_ife, ws_nil, ws_cons, e_isi, e_fld, e_sub, e_tup, e_lst, e_slc, s_asg, s_one, s_fld, s_sub, s_ex, s_ret, s_brk, s_cnt, s_pass, s_ite, ss_nil, W_ok, W_opt, b_add, b_sub, b_mul, b_div, b_mod, b_pow, sub_tup, sub_ref, at_0, at_1, at_2, ix_1_0, ix_2_0, ix_2_1, ix_3_0, ix_3_1, ix_3_2, ix_4_0, ix_4_1, ix_4_2, ix_4_3, ix_5_0, ix_5_1, ix_5_2, ix_5_3, ix_5_4, ix_6_0, ix_6_1, ix_6_2, ix_6_3, ix_6_4, ix_6_5, i_max, i_min, i_abs, i_int, i_intb, i_len_tup, bindT, setAll, cmp_eq_int, cmp_ne_int, cmp_lt_int, cmp_gt_int, cmp_le_int, cmp_ge_int, cmp_eq_bl, cmp_ne_bl, cmp_eq_str, cmp_ne_str, cmp_is, cmp_isnot, List.length_cons, List.length_nil, Int.toNat_zero, Int.toNat_one, Option.some.injEq, U.bl.injEq, U.int.injEq, U.ref.injEq, U.tup.injEq, exists_eq_left', Option.bind_some, List.getElem?_cons_zero, List.getElem?_cons_succ, List.set_cons_zero, List.set_cons_succ, decide_eq_true_eq, decide_eq_false_iff_not]
  refine ⟨hzs (by decide), hzs (by decide), hzs (by decide), hzs (by decide), hzs (by decide), ?_⟩
  obtain ⟨f5, s5⟩ := start_St (k := k) w4
  have e5 : nw (nw h4) ++ [Ob.lst [.ref h4.length, .ref (nw h4).length]] ++ [Ob.lst []] ++ [Ob.lst []] ++ [Ob.lst [.ref (nw (nw h4) ++ [Ob.lst [.ref h4.length, .ref (nw h4).length]]).length, .ref (nw (nw h4) ++ [Ob.lst [.ref h4.length, .ref (nw h4).length]] ++ [Ob.lst []]).length]] = start0 h4 := by
    unfold start0 ixF qkF
    simp only [nw_len, List.length_append, List.length_cons, List.length_nil, cond_true, cond_false]
  rw [e5]
  have l4 : (nw (nw h4)).length = h4.length + 4 := by rw [nw_len, nw_len]
  have l7 : (nw (nw h4) ++ [Ob.lst [.ref h4.length, .ref (nw h4).length]] ++ [Ob.lst []] ++ [Ob.lst []]).length = h4.length + 7 := by
    simp only [nw_len, List.length_append, List.length_cons, List.length_nil]
  rw [l4, l7]
  have g5 : getL (start0 h4) 0 = some (ns.map U.int) := getL_fr (f5.sub fun _ _ z => z.elim) g4
  generalize start0 h4 = h5 at s5 g5 f5 ⊢
  generalize h4.length + 4 = IX at s5 ⊢
  generalize h4.length + 7 = KX at s5 ⊢
  generalize ixF h4.length = ix at s5 ⊢
  generalize ekF h4.length = ek at s5 ⊢
  generalize qkF h4.length = qk at s5 ⊢
  -- the cells
  rw [ss_cons]
  try simp only [e_xisi, e_comp0, e_compIf0, s_for0, e_new0, e_meth0, e_bi0, e_call0, e_lc, e_cu, e_gl, e_bin, e_neg, e_nt, e_an, e_or, e_cmp, e_chain, e_ife, ws_nil, ws_cons, e_isi, e_fld, e_sub, e_tup, e_lst, e_slc, s_asg, s_one, s_fld, s_sub, s_ex, s_ret, s_brk, s_cnt, s_pass, s_ite, ss_nil, W_ok, W_opt, b_add, b_sub, b_mul, b_div, b_mod, b_pow, sub_tup, sub_ref, at_0, at_1, at_2, ix_1_0, ix_2_0, ix_2_1, ix_3_0, ix_3_1, ix_3_2, ix_4_0, ix_4_1, ix_4_2, ix_4_3, ix_5_0, ix_5_1, ix_5_2, ix_5_3, ix_5_4, ix_6_0, ix_6_1, ix_6_2, ix_6_3, ix_6_4, ix_6_5, i_max, i_min, i_abs, i_int, i_intb, i_len_tup, bindT, setAll, cmp_eq_int, cmp_ne_int, cmp_lt_int, cmp_gt_int, cmp_le_int, cmp_ge_int, cmp_eq_bl, cmp_ne_bl, cmp_eq_str, cmp_ne_str, cmp_is, cmp_isnot, List.length_cons, List.length_nil, Int.toNat_zero, Int.toNat_one, Option.some.injEq, U.bl.injEq, U.int.injEq, U.ref.injEq, U.tup.injEq, exists_eq_left', Option.bind_some, List.getElem?_cons_zero, List.getElem?_cons_succ, List.set_cons_zero, List.set_cons_succ, decide_eq_true_eq, decide_eq_false_iff_not]
  refine ⟨some 1, rfl, some 31, rfl, ?_⟩
  unfold slcop
  simp only [g5]
  unfold newOb
  rw [W_ok]
  have hC : ∀ y ∈ cutU (ns.map U.int) (some 1) (some 31), ∃ c, y = .int c := fun y hy => by
    unfold cutU at hy
    exact ints_mem y (List.mem_of_mem_drop (List.mem_of_mem_take hy))
  have hCl : (cutU (ns.map U.int) (some 1) (some 31)).length ≤ 30 := by
    unfold cutU
    rw [List.length_take, List.length_drop]
    have e1 : HT.sIx (ns.map U.int).length 0 (some 1) = min 1 (ns.map U.int).length := HT.sIx_nat _ _ 1
    have e2 : HT.sIx (ns.map U.int).length (ns.map U.int).length (some 31) = min 31 (ns.map U.int).length := HT.sIx_nat _ _ 31
    rw [e1, e2]
    omega
  generalize cutU (ns.map U.int) (some 1) (some 31) = C at hC hCl ⊢
  have gC : (h5 ++ [Ob.lst C])[h5.length]? = some (.lst C) := at_new
  have s6 : St k ix ek qk IX KX w0 h5.length C (fun _ => []) (h5 ++ [Ob.lst C]) :=
    { pr := fun b => (s5.pr b).app
      hI := at_app s5.hI
      hK := at_app s5.hK
      hW := s5.hW.app
      hC := gC
      ne := s5.ne
      ne2 := s5.ne2
      far := fun b n hn => by
        rcases hn with z | z | z | z
        · exact s5.far b n (.inl z)
        · exact s5.far b n (.inr (.inl z))
        · exact s5.far b n (.inr (.inr (.inl z)))
        · subst z
          obtain ⟨M, hM, _⟩ := (s5.pr b).kept
          exact ⟨ne_new (s5.pr b).ix.lst, ne_new hM⟩ }
  generalize h5 ++ [Ob.lst C] = h6 at s6 gC ⊢
  generalize h5.length = CL at s6 gC ⊢
  refine ⟨(C, [(CL, C)]), by show (match getL _ _ with | some xs => some (xs, [(CL, xs)]) | none => none) = _; rw [getL_of gC], ?_⟩
  refine for_W (I1 k late ix ek qk IX KX w0 CL C) ?_ ?_ ?_ _ _ _ ⟨hC, _, none, _, _, _, _, _, _, _, _, _, rfl, (fun e z => nomatch z), s6, fun c => by show 0 + C.length ≤ 40; omega⟩
  · rintro xs ρ h' ⟨_, _, _, _, _, _, _, _, _, _, _, _, _, _, s, _⟩
    exact stands_one (getL_of s.hC)
  rotate_left
  · intro y xs ρ h' I
    exact turn_W (fun _ _ i => i) I
  · rintro ρ h' ⟨_, L, b, v7, v8, v9, v10, v11, v12, v13, v14, v15, rfl, gb, s, hlL⟩
    have hlL : ∀ c, (L c).length ≤ 40 := fun c => hlL c
    have s7 : St k ix ek qk IX KX w0 IX [.ref (ix false), .ref (ix true)] L h' :=
      { pr := s.pr
        hI := s.hI
        hK := s.hK
        hW := s.hW
        hC := s.hI
        ne := s.ne
        ne2 := s.ne2
        far := fun b n hn => by
          rcases hn with z | z | z | z
          · exact s.far b n (.inl z)
          · exact s.far b n (.inr (.inl z))
          · exact s.far b n (.inr (.inr (.inl z)))
          · exact s.far b n (.inl z) }
    show (evSs prg ⟨call prg (4 + 5), none⟩ _ [some (.ref 0), some (.ref w0), some (.bl k), some (.bl late), some (.ref IX), some (.ref KX), some (befU k b), v7, v8, v9, v10, v11, v12, v13, v14, v15] h').W _
    rw [ss_cons]
    try simp only [e_xisi, e_comp0, e_compIf0, s_for0, e_new0, e_meth0, e_bi0, e_call0, e_lc, e_cu, e_gl, e_bin, e_neg, e_nt, e_an, e_or, e_cmp, e_chain, e_ife, ws_nil, ws_cons, e_isi, e_fld, e_sub, e_tup, e_lst, e_slc, s_asg, s_one, s_fld, s_sub, s_ex, s_ret, s_brk, s_cnt, s_pass, s_ite, ss_nil, W_ok, W_opt, b_add, b_sub, b_mul, b_div, b_mod, b_pow, sub_tup, sub_ref, at_0, at_1, at_2, ix_1_0, ix_2_0, ix_2_1, ix_3_0, ix_3_1, ix_3_2, ix_4_0, ix_4_1, ix_4_2, ix_4_3, ix_5_0, ix_5_1, ix_5_2, ix_5_3, ix_5_4, ix_6_0, ix_6_1, ix_6_2, ix_6_3, ix_6_4, ix_6_5, i_max, i_min, i_abs, i_int, i_intb, i_len_tup, bindT, setAll, cmp_eq_int, cmp_ne_int, cmp_lt_int, cmp_gt_int, cmp_le_int, cmp_ge_int, cmp_eq_bl, cmp_ne_bl, cmp_eq_str, cmp_ne_str, cmp_is, cmp_isnot, List.length_cons, List.length_nil, Int.toNat_zero, Int.toNat_one, Option.some.injEq, U.bl.injEq, U.int.injEq, U.ref.injEq, U.tup.injEq, exists_eq_left', Option.bind_some, List.getElem?_cons_zero, List.getElem?_cons_succ, List.set_cons_zero, List.set_cons_succ, decide_eq_true_eq, decide_eq_false_iff_not]
    refine ⟨([.tup [.ref (ix false), .ref (qk false)], .tup [.ref (ix true), .ref (qk true)]], [(IX, [.ref (ix false), .ref (ix true)]), (KX, [.ref (qk false), .ref (qk true)])]), ?_, ?_⟩
    · show (match getL h' IX, getL h' KX with
        | some xs, some ys => some ((xs.zip ys).map fun (p : U × U) => U.tup [p.1, p.2], [(IX, xs), (KX, ys)])
        | _, _ => none) = _
      rw [getL_of s7.hI, getL_of s7.hK]
      rfl
    refine for_W (fun xs ρ h' => (∃ z13 z14 z15, ρ = [some (.ref 0), some (.ref w0), some (.bl k), some (.bl late), some (.ref IX), some (.ref KX), some (befU k b), v7, v8, v9, v10, v11, v12, z13, z14, z15]) ∧ St k ix ek qk IX KX w0 IX [.ref (ix false), .ref (ix true)] L h' ∧ ∀ y ∈ xs, ∃ b, y = .tup [.ref (ix b), .ref (qk b)]) ?_ ?_ ?_ _ _ _ ⟨⟨_, _, _, rfl⟩, s7, ?_⟩
    · rintro xs ρ h' ⟨_, s, _⟩
      unfold stands
      simp only [List.all_cons, List.all_nil, Bool.and_true, Bool.and_eq_true, decide_eq_true_eq]
      exact ⟨getL_of s.hI, getL_of s.hK⟩
    · rintro ρ h8 ⟨⟨z13, z14, z15, rfl⟩, s8, _⟩
      show (evSs prg ⟨call prg (4 + 5), none⟩ _ [some (.ref 0), some (.ref w0), some (.bl k), some (.bl late), some (.ref IX), some (.ref KX), some (befU k b), v7, v8, v9, v10, v11, v12, z13, z14, z15] h8).W _
      rw [ss_cons]
      try simp only [e_xisi, e_comp0, e_compIf0, s_for0, e_new0, e_meth0, e_bi0, e_call0, e_lc, e_cu, e_gl, e_bin, e_neg, e_nt, e_an, e_or, e_cmp, e_chain, e_ife, ws_nil, ws_cons, e_isi, e_fld, e_sub, e_tup, e_lst, e_slc, s_asg, s_one, s_fld, s_sub, s_ex, s_ret, s_brk, s_cnt, s_pass, s_ite, ss_nil, W_ok, W_opt, b_add, b_sub, b_mul, b_div, b_mod, b_pow, sub_tup, sub_ref, at_0, at_1, at_2, ix_1_0, ix_2_0, ix_2_1, ix_3_0, ix_3_1, ix_3_2, ix_4_0, ix_4_1, ix_4_2, ix_4_3, ix_5_0, ix_5_1, ix_5_2, ix_5_3, ix_5_4, ix_6_0, ix_6_1, ix_6_2, ix_6_3, ix_6_4, ix_6_5, i_max, i_min, i_abs, i_int, i_intb, i_len_tup, bindT, setAll, cmp_eq_int, cmp_ne_int, cmp_lt_int, cmp_gt_int, cmp_le_int, cmp_ge_int, cmp_eq_bl, cmp_ne_bl, cmp_eq_str, cmp_ne_str, cmp_is, cmp_isnot, List.length_cons, List.length_nil, Int.toNat_zero, Int.toNat_one, Option.some.injEq, U.bl.injEq, U.int.injEq, U.ref.injEq, U.tup.injEq, exists_eq_left', Option.bind_some, List.getElem?_cons_zero, List.getElem?_cons_succ, List.set_cons_zero, List.set_cons_succ, decide_eq_true_eq, decide_eq_false_iff_not]
      refine ⟨rfl, W_no (entry_W s8.hW) ?_⟩
      rintro u h9 ⟨_, _, x, gx, rfl⟩
      exact ⟨rfl, fresh_W gx⟩
    · rintro y xs ρ h8 ⟨⟨z13, z14, z15, rfl⟩, s8, hy⟩
      obtain ⟨sd, rfl⟩ := hy y List.mem_cons_self
      exact tail_W s8 hlL fun z h9 s9 => ⟨⟨_, _, _, rfl⟩, s9, fun y hy' => hy y (List.mem_cons_of_mem _ hy')⟩
    · intro y hy
      rcases List.mem_cons.mp hy with z | z
      · exact ⟨false, z⟩
      · rcases List.mem_cons.mp z with z | z
        · exact ⟨true, z⟩
        · cases z
end Pl

open PySem PySem.W PySem.Calls PyProof.Rows
theorem PySem.Challenge.cw_planledger_k23_whole_an_index_by_put_and_holds : PySem.Challenge.rw_planledger_k23_whole_an_index_by_put_and.Holds := by
  w_on; o_law
  refine HandSHeadRun.head_any (r := OpenLaw.row PySem.Challenge.rw_planledger_k23_whole_an_index_by_put_and) (q := view (OpenLaw.row PySem.Challenge.rw_planledger_k23_whole_an_index_by_put_and).prog [21]) (H := Pl.hk) (ob := Pl.ob) (M := 6000) (loose := Pl.loose) (d := HandSHeadRun.topDef (OpenLaw.row PySem.Challenge.rw_planledger_k23_whole_an_index_by_put_and).prog 21) (kwd := []) Pl.ob_eq
    (by kernel_rfl) (fun s => by kernel_rfl) Pl.run (by kernel_rfl) (by kernel_rfl) (by kernel_rfl) (by rfl) (by first | assumption | decide +kernel) (by decide +kernel) ⟨rfl, rfl, rfl, rfl, rfl, by decide +kernel⟩ ?hw ?hc
  case hw => w_witness2
  case hc =>
    refine LamX.walk_ofTsE (l := PySem.Challenge.rw_planledger_k23_whole_an_index_by_put_and) (n := 63) (k := 2 * (9 + 1)) (x := "script") (CX := fun w => L2.CX (PySem.Challenge.rw_planledger_k23_whole_an_index_by_put_and).prog w) rfl (by decide) (by kernel_rfl) ⟨rfl, by decide, by decide⟩ ?F (fun w H s e s' z => Pl.cx_none z)
    intro w mg fa h Y G hmg0
    obtain ⟨K, KX, c⟩ := Y
    have hmg : mg ("law" : PySem.Str) = some (.ref fa) := by
      have e : (HandSHeadRun.topDef (OpenLaw.row PySem.Challenge.rw_planledger_k23_whole_an_index_by_put_and).prog 21).name = ("law" : PySem.Str) := by kernel_rfl
      rw [← e]
      exact hmg0
    exact ⟨K, KX, Pl.law_gen (d := 9) KX G hmg c Pl.law_true⟩

