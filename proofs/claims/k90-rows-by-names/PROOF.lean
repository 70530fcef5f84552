import PyProof.Rows.All
import Wide.All
import OpenK.AllK
import Wide.FinOn
import HandS.ForMost
import HandS.Deep
import HandS.Exc
import HandS.ExcOwn
import HandS.TryOnly
import HandS.TupAny
import HandS.Conv
import HandS.Lambda
import HandS.Text
import HandS.Iter
import HandS.Zip
import HandS.DictComp
import HandS.ReCall
import HandS.Small
import HandS.ExcCtx
import HandS.ExcInitHot
import HandS.SuiteRaise
import HandS.Flow
import HandS.IsInst
import HandS.ExcField
import HandS.TupMul
import HandS.AnyAll
import HandS.More
import HandS.HotCalls
import HandS.Strs
import HandS.Dict
import PyProof.StrBlock2
import KE.GoesMore
import KE.GoesEnum
import KE.SortData
import KE.DataCmp
import HandS.ClsMeth
import HandS.ExcInit
import KE.KExcSuper
import KE.KSuper
import KE.KExcIs
import HandS.HeadHook1
import HandS.HeadHook2
import HandS.HeadHook3
import HandS.HeadHook4
import HandS.HeadWalk
import PyProof.StrLawsIn
import PyProof.StrLawsChain
import PyProof.StrLawsTight
import PyProof.Rows.StrSplitCount
import PyProof.Rows.StrCase
import PyProof.Rows.StrJoinRep
import KE.KStateDown
import HandS.Head0
import HandS.Head1
import HandS.Head2
import PySem.Challenge.RW_staysoonest_k90_rows_by_names
section PT_Sem
set_option Elab.async false
set_option linter.all false
set_option maxRecDepth 100000
/-! The plain semantics: data, cells, the IR and what it does. -/
namespace SS
open PySem
abbrev D := PyData
/-- not by computing: simp must not leave it to the kernel -/
theorem nr {α : Sort _} {a b : α} (h : a = b) : a = b := h
/-- a cell of the memory, a def, as data -/
def loc (i : Nat) : D := .dict [(.int i, .none)]
def fnv (f : Nat) : D := .dict [(.int f, .bool true)]
def locOf : D → Option Nat
  | .dict [(.int (.ofNat i), .none)] => some i
  | _ => none
def fnOf : D → Option Nat
  | .dict [(.int (.ofNat i), .bool true)] => some i
  | _ => none
@[simp] theorem locOf_loc (i : Nat) : locOf (loc i) = some i := rfl
@[simp] theorem fnOf_fnv (i : Nat) : fnOf (fnv i) = some i := rfl
abbrev KeyD := Sum Int Str
def keyOf : D → Option KeyD
  | .int i => some (.inl i)
  | .str x => some (.inr x)
  | _ => none
def keysOf : List D → Option (List KeyD)
  | [] => some []
  | d :: ds => match keyOf d, keysOf ds with
    | some k, some ks => some (k :: ks)
    | _, _ => none
def getK {κ : Type} [DecidableEq κ] (kvs : List (κ × D)) (k : κ) : Option D := (kvs.find? fun p => decide (p.1 = k)).map (·.2)
def setK {κ : Type} [DecidableEq κ] (kvs : List (κ × D)) (k : κ) (d : D) : List (κ × D) :=
  if (kvs.any fun p => decide (p.1 = k)) = true then kvs.map (fun p => if p.1 = k then (p.1, d) else p) else kvs ++ [(k, d)]
def ofKey : KeyD → D
  | .inl i => .int i
  | .inr x => .str x
/-! ### the IR -/
inductive K1 where
  | non | bl (b : Bool) | int (i : Int) | str (x : Str)
def K1.d : K1 → D
  | .non => .none
  | .bl b => .bool b
  | .int i => .int i
  | .str x => .str x
inductive Bop where
  | add | sub | mul | fdiv | mod | pow | shl | shr | band | bor
inductive Cop where
  | eq | ne | lt | le | gt | ge | isin | notin | is | isnot
inductive Ty where
  | int | bool | str | tuple | list
/-- built-ins called -/
inductive BI where
  | len | int | str | list | tuple | max | min | sum | any | all
/-- methods of built-in things -/
inductive ME where
  | append | extend | pop0 | pop | join | split | upper | index | indexT
mutual
inductive Tg where
  | nm (i : Nat)
  | tup (ts : Tgs)
inductive Tgs where
  | nil
  | cons (t : Tg) (ts : Tgs)
end
mutual
inductive E where
  | c (k : K1)
  | v (i : Nat)
  | g (i : Nat) (d : D)
  | fn (i : Nat) (f : Nat)
  | tup (es : Es)
  | lst (fz : Bool) (es : Es)
  | bin (fz : Bool) (o : Bop) (a b : E)
  | neg (a : E)
  | nt (a : E)
  | an (a b : E)
  | orr (a b : E)
  | ite (c a b : E)
  | cmp (o : Cop) (a b : E)
  | chain (o o' : Cop) (a b c : E)
  | ix (a b : E)
  | sl (fz : Bool) (a : E) (lo hi : Oe)
  | call (i f : Nat) (es : Es)
  | callv (i : Nat) (es : Es)
  | bi (i : Nat) (fz : Bool) (b : BI) (es : Es)
  | me (fz : Bool) (m : ME) (a : E) (es : Es)
  | isi (i j : Nat) (a : E) (t : Ty)
  | comp (fz : Bool) (elt : E) (tg : Tg) (it : It) (ifs : Oe) (own : List Nat)
  | dcomp (k v : E) (tg : Tg) (it : It) (own : List Nat)
  | heard (i : Nat) (a : E)
  | tells (i : Nat) (a b : E)
  | refuses (i : Nat) (a b c : E)
inductive Oe where
  | none
  | some (e : E)
inductive Es where
  | nil
  | cons (e : E) (es : Es)
inductive It where
  | e (a : E)
  | range (i : Nat) (es : Es)
  | enum (i : Nat) (a : E)
  | zip (i : Nat) (a b : E)
end
inductive Flow where
  | nx | brk | cont | ret (d : D)
mutual
inductive S where
  | skip
  | doc
  | ex (e : E)
  | set (i : Nat) (e : E)
  | setT (tg : Tg) (e : E)
  | par (i j : Nat) (a b : E)
  | setIx (a b e : E)
  | aug (i : Nat) (o : Bop) (e : E)
  | ifs (c : E) (a b : Ss)
  | whl (c : E) (b : Ss)
  | for_ (tg : Tg) (it : It) (b : Ss)
  | ret (e : E)
  | retN
  | brk
  | cont
  | rais (i : Nat) (c : Str) (e : E)
inductive Ss where
  | nil
  | cons (s : S) (r : Ss)
end
inductive O where
  | lst (xs : List D)
  | dK (kvs : List (KeyD × D))
  | dT (kvs : List (List KeyD × D))
abbrev Mem := List O
abbrev Env := List (Option D)
inductive R (α : Type) where
  | ok (a : α) (m : Mem)
  | ex (c : Str) (x : D) (m : Mem)
  | no
def R.bind {α β : Type} (r : R α) (f : α → Mem → R β) : R β := match r with
  | .ok a m => f a m
  | .ex c x m => .ex c x m
  | .no => .no
@[simp] theorem bind_ok {α β : Type} (a : α) (m : Mem) (f : α → Mem → R β) : (R.ok a m).bind f = f a m := nr rfl
@[simp] theorem bind_ex {α β : Type} (c : Str) (x : D) (m : Mem) (f : α → Mem → R β) : (R.ex c x m : R α).bind f = .ex c x m := nr rfl
@[simp] theorem bind_no {α β : Type} (f : α → Mem → R β) : (R.no : R α).bind f = .no := nr rfl
theorem bind_assoc {α β γ : Type} (r : R α) (f : α → Mem → R β) (g : β → Mem → R γ) : (r.bind f).bind g = r.bind fun a m => (f a m).bind g := by
  cases r <;> rfl
/-- an answer that may lack -/
def opt {α : Type} (o : Option α) (m : Mem) : R α := match o with
  | some a => .ok a m
  | none => .no
@[simp] theorem opt_some {α : Type} (a : α) (m : Mem) : opt (some a) m = .ok a m := nr rfl
@[simp] theorem opt_none {α : Type} (m : Mem) : opt (none : Option α) m = .no := nr rfl
def guard (p : Prop) [Decidable p] {α : Type} (r : R α) : R α := if p then r else .no
@[simp] theorem guard_pos {p : Prop} [Decidable p] {α : Type} (r : R α) (h : p) : guard p r = r := if_pos h
abbrev line : Nat := 16777216
/-- what a list of the memory holds, in the place of its cell -/
def rd (m : Mem) (d : D) : D := match locOf d with
  | some i => (match m[i]? with
    | some (.lst xs) => .list xs
    | _ => d)
  | none => d
@[simp] theorem rd_none (m : Mem) : rd m .none = .none := nr rfl
@[simp] theorem rd_bool (m : Mem) (b : Bool) : rd m (.bool b) = .bool b := nr rfl
@[simp] theorem rd_int (m : Mem) (i : Int) : rd m (.int i) = .int i := nr rfl
@[simp] theorem rd_str (m : Mem) (x : Str) : rd m (.str x) = .str x := nr rfl
@[simp] theorem rd_tuple (m : Mem) (xs : List D) : rd m (.tuple xs) = .tuple xs := nr rfl
@[simp] theorem rd_list (m : Mem) (xs : List D) : rd m (.list xs) = .list xs := nr rfl
/-- a new list: data, or a cell -/
def newL (fz : Bool) (xs : List D) (m : Mem) : R D := guard (xs.length ≤ line) (if fz then .ok (.list xs) m else .ok (loc m.length) (m ++ [.lst xs]))
/-! ### operations on data -/
def ixN (n : Nat) (i : Int) : Option Nat := L2.ixN n i
def atI {α : Type} (xs : List α) (i : Int) : Option α := L2.atI xs i
def cut {α : Type} (xs : List α) (lo hi : Option Int) : List α := (xs.drop (HT.sIx xs.length 0 lo)).take (HT.sIx xs.length xs.length hi - HT.sIx xs.length 0 lo)
instance (i j : Int) : Decidable (L2.CMul i j) := inferInstanceAs (Decidable (_ ∨ _))
instance (i j : Int) : Decidable (L2.CDiv i j) := inferInstanceAs (Decidable (_ ∧ _))
instance (i j : Int) : Decidable (L2.CPow i j) := inferInstanceAs (Decidable (_ ∧ _))
def bopR (fz : Bool) (o : Bop) (a b : D) (m : Mem) : R D := match o, a, b with
  | .add, .int i, .int j => .ok (.int (i + j)) m
  | .add, .str x, .str y => guard (x.length + y.length ≤ line) (.ok (.str (x ++ y)) m)
  | .add, .tuple x, .tuple y => guard (x.length + y.length ≤ line) (.ok (.tuple (x ++ y)) m)
  | .add, .list x, .list y => guard (x.length + y.length ≤ line) (newL fz (x ++ y) m)
  | .sub, .int i, .int j => .ok (.int (i - j)) m
  | .mul, .int i, .int j => guard (L2.CMul i j) (.ok (.int (i * j)) m)
  | .mul, .list x, .int k => guard (-(2 ^ 63) ≤ k ∧ k < 2 ^ 63 ∧ x.length * k.toNat ≤ line) (newL fz (List.replicate k.toNat x).flatten m)
  | .mul, .tuple x, .int k => guard (x ≠ [] ∧ 2 ≤ k ∧ k ≤ 1000 ∧ x.length ≤ 1000) (.ok (.tuple (List.replicate k.toNat x).flatten) m)
  | .mul, .str x, .int k => guard (0 ≤ k ∧ k < 2 ^ 31 ∧ x.length * k.toNat ≤ line) (.ok (.str (Txt.mul x k)) m)
  | .fdiv, .int i, .int j => guard (L2.CDiv i j) (.ok (.int (i / j)) m)
  | .mod, .int i, .int j => guard (0 < j) (.ok (.int (i % j)) m)
  | .pow, .int i, .int j => guard (L2.CPow i j) (.ok (.int (i ^ j.toNat)) m)
  | .shl, .int i, .int j => guard (L2.CPow i j) (.ok (.int (i * 2 ^ j.toNat)) m)
  | .shr, .int i, .int j => guard (0 ≤ j) (.ok (.int (i / 2 ^ j.toNat)) m)
  | .band, .int i, .int j => .ok (.int (Builtin.bitAnd i j)) m
  | .bor, .int i, .int j => .ok (.int (Builtin.bitOr i j)) m
  | _, _, _ => .no
def bop (fz : Bool) (o : Bop) (a b : D) (m : Mem) : R D := bopR fz o (rd m a) (rd m b) m
def augOk : Bop → Bool
  | .pow => false
  | _ => true
def sh (d : D) : Bool := SeqAt.shaped d
def strIn (x y : Str) : Bool := !(Builtin.Str.occurrences y x 0 y.length 1).isEmpty
def ordOk (x y : D) : Bool := PySem.W.alike x y && sh x && sh y && (match x with | .none => false | _ => true)
def seqOf (m : Mem) (d : D) : Option (List D) := match rd m d with
  | .tuple xs => some xs
  | .list xs => some xs
  | _ => none
def dictOf (m : Mem) (d : D) : Option (List (KeyD × D)) := match locOf d with
  | some i => (match m[i]? with
    | some (.dK kvs) => some kvs
    | _ => none)
  | none => none
def inR (a b : D) (kvs : Option (List (KeyD × D))) (m : Mem) : R Bool := match b with
  | .str y => (match a with
    | .str x => .ok (strIn x y) m
    | _ => .no)
  | .list ds => guard (sh a = true ∧ sh (.list ds) = true) (.ok (ds.any fun z => PyData.eqv z a) m)
  | .tuple ds => guard (sh a = true ∧ sh (.tuple ds) = true) (.ok (ds.any fun z => PyData.eqv z a) m)
  | .dict _ => (match kvs, keyOf a with
    | some kvs, some k => .ok (getK kvs k).isSome m
    | _, _ => .no)
  | _ => .no
def isR (a b : D) (m : Mem) : R Bool := match b with
  | .none => .ok (match a with | .none => true | _ => false) m
  | .bool c => .ok (match a with | .bool d => c == d | _ => false) m
  | _ => .no
def copR (o : Cop) (a b : D) (kvs : Option (List (KeyD × D))) (m : Mem) : R Bool := match o with
  | .eq => guard (sh a = true ∧ sh b = true) (.ok (PyData.eqv a b) m)
  | .ne => guard (sh a = true ∧ sh b = true) (.ok (!PyData.eqv a b) m)
  | .lt => guard (ordOk a b = true) (.ok (PySem.W.dataLt a b) m)
  | .gt => guard (ordOk a b = true) (.ok (PySem.W.dataLt b a) m)
  | .le => guard (ordOk a b = true) (.ok (!PySem.W.dataLt b a) m)
  | .ge => guard (ordOk a b = true) (.ok (!PySem.W.dataLt a b) m)
  | .isin => inR a b kvs m
  | .notin => (inR a b kvs m).bind fun r m => .ok (!r) m
  | .is => isR a b m
  | .isnot => (isR a b m).bind fun r m => .ok (!r) m
def cop (o : Cop) (a b : D) (m : Mem) : R Bool := copR o (rd m a) (rd m b) (dictOf m b) m
/-- a value's truth -/
def truthR (d : D) (m : Mem) : R Bool := match d with
  | .none => .ok false m
  | .bool b => .ok b m
  | .int i => .ok (i != 0) m
  | .str x => guard (x.length ≤ line) (.ok ((x.length : Int) != 0) m)
  | .list xs => .ok (!xs.isEmpty) m
  | .tuple xs => .ok (!xs.isEmpty) m
  | .dict _ => .no
def truth (d : D) (m : Mem) : R Bool := truthR (rd m d) m
def isTyR (m : Mem) (t : Ty) (d : D) : R Bool := match t, d with
  | _, .dict _ => .no
  | .int, .int _ => .ok true m
  | .int, .bool _ => .ok true m
  | .int, _ => .ok false m
  | .bool, .bool _ => .ok true m
  | .bool, _ => .ok false m
  | .str, .str _ => .ok true m
  | .str, _ => .ok false m
  | .tuple, .tuple _ => .ok true m
  | .tuple, _ => .ok false m
  | .list, .list _ => .ok true m
  | .list, _ => .ok false m
def isTy (m : Mem) (t : Ty) (d : D) : R Bool := isTyR m t (rd m d)
def dgR (kvs : Option (List (KeyD × D))) (b : D) (m : Mem) : R D := match kvs, keyOf b with
  | some kvs, some k => opt (getK kvs k) m
  | _, _ => .no
def ixR (a b : D) (kvs : Option (List (KeyD × D))) (m : Mem) : R D := match a, b with
  | .tuple xs, .int i => opt (atI xs i) m
  | .list xs, .int i => opt (atI xs i) m
  | .str x, .int i => guard (x.length ≤ line) (opt ((atI x.cps.toList i).map fun c => .str ⟨#[c]⟩) m)
  | .dict _, b => dgR kvs b m
  | _, _ => .no
def ixD (a b : D) (m : Mem) : R D := ixR (rd m a) b (dictOf m a) m
def slR (fz : Bool) (a : D) (lo hi : Option Int) (m : Mem) : R D := match a with
  | .tuple xs => .ok (.tuple (cut xs lo hi)) m
  | .list xs => newL fz (cut xs lo hi) m
  | .str x => guard (x.length ≤ line) (.ok (.str (L2.cutS x lo hi)) m)
  | _ => .no
def slD (fz : Bool) (a : D) (lo hi : Option Int) (m : Mem) : R D := slR fz (rd m a) lo hi m
/-! ### built-ins -/
def strsOf : List D → Option (List Str)
  | [] => some []
  | .str x :: ds => (strsOf ds).map (x :: ·)
  | _ :: _ => none
def intsOf : List D → Option (List Int)
  | [] => some []
  | .int x :: ds => (intsOf ds).map (x :: ·)
  | _ :: _ => none
def boolsOf : List D → Option (List Bool)
  | [] => some []
  | .bool x :: ds => (boolsOf ds).map (x :: ·)
  | _ :: _ => none
@[simp] theorem strsOf_map (xs : List Str) : strsOf (xs.map .str) = some xs := by
  induction xs with
  | nil => rfl
  | cons x r ih => simp [strsOf, ih]
@[simp] theorem intsOf_map (xs : List Int) : intsOf (xs.map .int) = some xs := by
  induction xs with
  | nil => rfl
  | cons x r ih => simp [intsOf, ih]
@[simp] theorem boolsOf_map (xs : List Bool) : boolsOf (xs.map .bool) = some xs := by
  induction xs with
  | nil => rfl
  | cons x r ih => simp [boolsOf, ih]
/-- sorted: each two can be compared -/
def allAlike (ds : List D) : Bool := ds.all fun x => ds.all fun y => ordOk x y
def biR (fz : Bool) (b : BI) (rs : List D) (m : Mem) : R D := match b, rs with
  | .len, [.str x] => guard (x.length ≤ line) (.ok (.int x.length) m)
  | .len, [.list xs] => .ok (.int xs.length) m
  | .len, [.tuple xs] => .ok (.int xs.length) m
  | .int, [.int i] => .ok (.int i) m
  | .int, [.bool k] => .ok (.int (if k then 1 else 0)) m
  | .str, [.int i] => guard (i.natAbs.log2 < 1920) (.ok (.str (toString i)) m)
  | .list, [.list xs] => newL fz xs m
  | .list, [.tuple xs] => newL fz xs m
  | .tuple, [.list xs] => .ok (.tuple xs) m
  | .tuple, [.tuple xs] => .ok (.tuple xs) m
  | .max, [.int i, .int j] => .ok (.int (if j > i then j else i)) m
  | .min, [.int i, .int j] => .ok (.int (if j < i then j else i)) m
  | .sum, [.list xs] => opt ((intsOf xs).map fun ns => .int ns.sum) m
  | .any, [.list xs] => opt ((boolsOf xs).map fun bs => .bool (bs.any id)) m
  | .all, [.list xs] => opt ((boolsOf xs).map fun bs => .bool (bs.all id)) m
  | _, _ => .no
def biD (fz : Bool) (b : BI) (ds : List D) (m : Mem) : R D := biR fz b (ds.map (rd m)) m
def firstAt (d : D) : List D → Nat → Option Nat
  | [], _ => none
  | z :: zs, n => if PyData.eqv z d then some n else firstAt d zs (n + 1)
def cellOf (m : Mem) (a : D) : Option (Nat × List D) := match locOf a with
  | some i => (match m[i]? with
    | some (.lst xs) => some (i, xs)
    | _ => none)
  | none => none
/-- a method that writes a list: the list, the arguments, the arguments as they are read; the list behind it, the answer -/
def meW (b : ME) (xs : List D) (ds rs : List D) : Option (List D × D) := match b, ds, rs with
  | .append, [d], _ => if xs.length < line then some (xs ++ [d], .none) else none
  | .extend, _, [.list ys] => if xs.length + ys.length ≤ line then some (xs ++ ys, .none) else none
  | .pop0, [], _ => (xs[xs.length - 1]?).map fun d => (xs.dropLast, d)
  | .pop, [.int k], _ => if -(2 ^ 63) ≤ k ∧ k < 2 ^ 63 then (seqIndex? k xs.length).bind fun j => (xs[j]?).map fun d => (xs.eraseIdx j, d) else none
  | _, _, _ => none
def meR (fz : Bool) (b : ME) (A : D) (rs : List D) (m : Mem) : R D := match b, A, rs with
  | .join, .str x, [.list ys] => (match strsOf ys with
    | some zs => guard ((zs.map (·.length)).sum + zs.length * x.length ≤ line) (.ok (.str (Txt.join x zs)) m)
    | none => .no)
  | .join, .str x, [.tuple ys] => (match strsOf ys with
    | some zs => guard ((zs.map (·.length)).sum + zs.length * x.length ≤ line) (.ok (.str (Txt.join x zs)) m)
    | none => .no)
  | .split, .str x, [.str y] => guard ((y.length == 0) = false ∧ x.length + 2 ≤ line) (newL fz ((Txt.split x y).map .str) m)
  | .upper, .str x, [] => guard (x.length ≤ 5592405) (.ok (.str (Txt.upper x)) m)
  | .index, .list xs, [d] => guard (sh d = true ∧ sh (.list xs) = true) (opt ((firstAt d xs 0).map fun (n : Nat) => (PyData.int (Int.ofNat n))) m)
  | .indexT, .tuple xs, [d] => guard (sh d = true ∧ sh (.tuple xs) = true) (opt ((firstAt d xs 0).map fun (n : Nat) => (PyData.int (Int.ofNat n))) m)
  | _, _, _ => .no
def meTy : ME → D → Bool
  | .append, .list _ => true
  | .extend, .list _ => true
  | .pop0, .list _ => true
  | .pop, .list _ => true
  | .join, .str _ => true
  | .split, .str _ => true
  | .upper, .str _ => true
  | .index, .list _ => true
  | .indexT, .tuple _ => true
  | _, _ => false
def meWr : ME → Bool
  | .append => true
  | .extend => true
  | .pop0 => true
  | .pop => true
  | _ => false
def meD (fz : Bool) (b : ME) (a : D) (ds : List D) (m : Mem) : R D := if meWr b = true then (match cellOf m a with
    | some (i, xs) => (match meW b xs ds (ds.map (rd m)) with
      | some (ys, d) => .ok d (m.set i (.lst ys))
      | none => .no)
    | none => .no) else meR fz b (rd m a) (ds.map (rd m)) m
def zipD : List D → List D → List D
  | a :: as, b :: bs => .tuple [a, b] :: zipD as bs
  | _, _ => []
def enumD : Nat → List D → List D
  | _, [] => []
  | n, a :: as => .tuple [.int n, a] :: enumD (n + 1) as
def rangeD (lo hi : Int) : List D := (List.range (hi - lo).toNat).map fun (i : Nat) => .int (lo + i)
/-! ### targets, slots -/
mutual
def asg : Tg → D → Env → Option Env
  | .nm i, d, sd => if i < sd.length then some (sd.set i (some d)) else none
  | .tup ts, .tuple ds, sd => asgs ts ds sd
  | .tup _, _, _ => none
def asgs : Tgs → List D → Env → Option Env
  | .nil, [], sd => some sd
  | .cons t ts, d :: ds, sd => (asg t d sd).bind fun sd' => asgs ts ds sd'
  | _, _, _ => none
end
def wipeE (sd : Env) : List Nat → Env
  | [] => sd
  | v :: vs => (wipeE sd vs).set v none
/-! ### loops -/
/-- what a loop walks: the items; a cell whose list must stay -/
structure Walk where
  items : List D
  cell : Option (Nat × List D)
def Walk.stays (w : Walk) (m : Mem) : Prop := match w.cell with
  | none => True
  | some (i, xs) => m[i]? = some (.lst xs)
open Classical in
noncomputable def forM (st : Mem → Prop) (body : D → Env → Mem → R (Flow × Env)) : List D → Env → Mem → R (Flow × Env)
  | [], sd, m => if st m then .ok (.nx, sd) m else .no
  | d :: ds, sd, m => if st m then (body d sd m).bind fun r m' => match r.1 with
      | .nx => forM st body ds r.2 m'
      | .cont => forM st body ds r.2 m'
      | .brk => .ok (.nx, r.2) m'
      | .ret v => .ok (.ret v, r.2) m' else .no
/-- no exception leaves a comprehension -/
def noX {α : Type} (r : R α) : R α := match r with
  | .ok a m => .ok a m
  | _ => .no
@[simp] theorem noX_ok {α : Type} (a : α) (m : Mem) : noX (.ok a m) = .ok a m := nr rfl
open Classical in
noncomputable def compM {α : Type} (st : Mem → Prop) (f : D → Mem → R (Option α)) : List D → Mem → R (List α)
  | [], m => if st m then .ok [] m else .no
  | d :: ds, m => if st m then (noX (f d m)).bind fun o m' => (compM st f ds m').bind fun r m'' => .ok (match o with
      | some x => x :: r
      | none => r) m'' else .no
def whileN (c : Env → Mem → R Bool) (b : Env → Mem → R (Flow × Env)) : Nat → Env → Mem → Option (R (Flow × Env))
  | 0, _, _ => none
  | n + 1, sd, m => match c sd m with
    | .ok false m' => some (.ok (.nx, sd) m')
    | .ok true m' => (match b sd m' with
      | .ok (.nx, sd') m'' => whileN c b n sd' m''
      | .ok (.cont, sd') m'' => whileN c b n sd' m''
      | .ok (.brk, sd') m'' => some (.ok (.nx, sd') m'')
      | .ok (.ret v, sd') m'' => some (.ok (.ret v, sd') m'')
      | .ex k x m'' => some (.ex k x m'')
      | .no => some .no)
    | .ex k x m' => some (.ex k x m')
    | .no => some .no
open Classical in
noncomputable def whileM (c : Env → Mem → R Bool) (b : Env → Mem → R (Flow × Env)) (sd : Env) (m : Mem) : R (Flow × Env) :=
  if h : ∃ n r, whileN c b n sd m = some r then h.choose_spec.choose else .no
theorem whileN_mono {c : Env → Mem → R Bool} {b : Env → Mem → R (Flow × Env)} : ∀ {n : Nat} {sd : Env} {m : Mem} {r : R (Flow × Env)}, whileN c b n sd m = some r → ∀ k, whileN c b (n + k) sd m = some r
  | 0, _, _, _, h, _ => by simp [whileN] at h
  | n + 1, sd, m, r, h, k => by
    rw [show n + 1 + k = (n + k) + 1 by omega]
    unfold whileN at h ⊢
    split at h
    · exact h
    · split at h
      · exact whileN_mono h k
      · exact whileN_mono h k
      · exact h
      · exact h
      · exact h
      · exact h
    · exact h
    · exact h
theorem whileM_of {c : Env → Mem → R Bool} {b : Env → Mem → R (Flow × Env)} {n : Nat} {sd : Env} {m : Mem} {r : R (Flow × Env)} (h : whileN c b n sd m = some r) : whileM c b sd m = r := by
  have hx : ∃ n r, whileN c b n sd m = some r := ⟨n, r, h⟩
  unfold whileM
  rw [dif_pos hx]
  have q := hx.choose_spec.choose_spec
  have h1 := whileN_mono q n
  have h2 := whileN_mono h hx.choose
  rw [Nat.add_comm] at h2
  rw [h1] at h2
  exact Option.some.inj h2
/-! ### what a call leaves behind -/
mutual
def nl : D → Bool
  | .none => true
  | .bool _ => true
  | .int _ => true
  | .str _ => true
  | .list xs => nlAll xs
  | .tuple xs => nlAll xs
  | .dict _ => false
def nlAll : List D → Bool
  | [] => true
  | d :: ds => nl d && nlAll ds
end
def nlO : O → Bool
  | .lst xs => nlAll xs
  | .dK kvs => kvs.all fun p => nl p.2
  | .dT kvs => kvs.all fun p => nl p.2
/-- behind a call: new cells are gone, if nothing leads to them -/
def trim (n : Nat) (r : R D) : R D := match r with
  | .ok d m => if (m.take n).all nlO && decide (n ≤ m.length) then (if nl d then .ok d (m.take n) else match locOf d with
      | some k => if k < n then .ok d (m.take n) else (match m[k]? with
        | some o => if nlO o then .ok (loc n) (m.take n ++ [o]) else .ok d m
        | none => .ok d m)
      | none => .ok d m) else .ok d m
  | .ex c x m => if (m.take n).all nlO && decide (n ≤ m.length) && nl x then .ex c x (m.take n) else .ex c x m
  | .no => .no
def said (r : R D) : R D := match r with
  | .ok d m => .ok (.tuple [.str "told", d]) m
  | .ex c x m => .ok (.tuple [.str c, x]) m
  | .no => .no
def intO : Option D → Option (Option Int)
  | none => some none
  | some (.int i) => some (some i)
  | some _ => none
def optI (o : Option D) (m : Mem) : R (Option Int) := match intO o with
  | some v => .ok v m
  | none => .no
def walkOf (d : D) (m : Mem) : R Walk := match rd m d with
  | .list xs => .ok ⟨xs, (locOf d).map fun i => (i, xs)⟩ m
  | .tuple xs => .ok ⟨xs, none⟩ m
  | .str x => .ok ⟨x.cps.toList.map fun c => .str ⟨#[c]⟩, none⟩ m
  | _ => .no
def walkLT (d : D) (m : Mem) : R Walk := match rd m d with
  | .list xs => .ok ⟨xs, (locOf d).map fun i => (i, xs)⟩ m
  | .tuple xs => .ok ⟨xs, none⟩ m
  | _ => .no
def rangeOf (ds : List D) (m : Mem) : R Walk := match ds with
  | [.int j] => guard (-(2 ^ 62) ≤ j ∧ j < 2 ^ 62) (.ok ⟨rangeD 0 j, none⟩ m)
  | [.int i, .int j] => guard (-(2 ^ 62) ≤ i ∧ i < 2 ^ 62 ∧ -(2 ^ 62) ≤ j ∧ j < 2 ^ 62) (.ok ⟨rangeD i j, none⟩ m)
  | _ => .no
def ifT (o : Option D) (m : Mem) : R Bool := match o with
  | none => .ok true m
  | some c => truth c m
/-- what the defs do: the def's number, its arguments -/
abbrev Fns := Nat → List D → Mem → R D
variable (F : Fns) (same : Nat)
mutual
noncomputable def evE : E → Env → Mem → R D
  | .c k, _, m => .ok k.d m
  | .v i, sd, m => (match sd[i]? with
    | some (some d) => .ok d m
    | _ => .no)
  | .g _ d, _, m => .ok d m
  | .fn _ f, _, m => .ok (fnv f) m
  | .tup es, sd, m => (evEs es sd m).bind fun ds m => guard (ds.length ≤ line) (.ok (.tuple ds) m)
  | .lst fz es, sd, m => (evEs es sd m).bind fun ds m => newL fz ds m
  | .bin fz o a b, sd, m => (evE a sd m).bind fun x m => (evE b sd m).bind fun y m => bop fz o x y m
  | .neg a, sd, m => (evE a sd m).bind fun x m => (match x with
    | .int i => .ok (.int (-i)) m
    | _ => .no)
  | .nt a, sd, m => (evE a sd m).bind fun x m => (truth x m).bind fun c m => .ok (.bool (!c)) m
  | .an a b, sd, m => (evE a sd m).bind fun x m => (truth x m).bind fun c m => if c = true then evE b sd m else .ok x m
  | .orr a b, sd, m => (evE a sd m).bind fun x m => (truth x m).bind fun c m => if c = true then .ok x m else evE b sd m
  | .ite c a b, sd, m => (evE c sd m).bind fun x m => (truth x m).bind fun c m => if c = true then evE a sd m else evE b sd m
  | .cmp o a b, sd, m => (evE a sd m).bind fun x m => (evE b sd m).bind fun y m => (cop o x y m).bind fun c m => .ok (.bool c) m
  | .chain o o' a b c, sd, m => (evE a sd m).bind fun x m => (evE b sd m).bind fun y m => (cop o x y m).bind fun k m => if k = true then (evE c sd m).bind fun z m => (cop o' y z m).bind fun k m => .ok (.bool k) m else .ok (.bool false) m
  | .ix a b, sd, m => (evE a sd m).bind fun x m => (evE b sd m).bind fun y m => ixD x y m
  | .sl fz a lo hi, sd, m => (evE a sd m).bind fun x m => (evO lo sd m).bind fun l m => (optI l m).bind fun l m => (evO hi sd m).bind fun h m => (optI h m).bind fun h m => slD fz x l h m
  | .call _ f es, sd, m => (evEs es sd m).bind fun ds m => F f ds m
  | .callv i es, sd, m => (match sd[i]? with
    | some (some d) => (match fnOf d with
      | some f => (evEs es sd m).bind fun ds m => F f ds m
      | none => .no)
    | _ => .no)
  | .bi _ fz b es, sd, m => (evEs es sd m).bind fun ds m => biD fz b ds m
  | .me fz b a es, sd, m => (evE a sd m).bind fun x m => guard (meTy b (rd m x) = true) ((evEs es sd m).bind fun ds m => meD fz b x ds m)
  | .isi _ _ a t, sd, m => (evE a sd m).bind fun x m => (isTy m t x).bind fun c m => .ok (.bool c) m
  | .comp fz elt tg it ifs own, sd, m => (evI it sd m).bind fun w m => (compM w.stays (fun d m => (opt (asg tg d (wipeE sd own)) m).bind fun sd' m => ((evO ifs sd' m).bind ifT).bind fun c m => if c = true then (evE elt sd' m).bind fun x m => .ok (some x) m else .ok none m) w.items m).bind fun ds m => newL fz ds m
  | .dcomp k v tg it own, sd, m => (evI it sd m).bind fun w m => (compM w.stays (fun d m => (opt (asg tg d (wipeE sd own)) m).bind fun sd' m => (evE k sd' m).bind fun x m => (evE v sd' m).bind fun y m => (opt (keyOf x) m).bind fun kk m => .ok (some (kk, y)) m) w.items m).bind fun kvs m => guard (kvs.length ≤ line) (.ok (loc m.length) (m ++ [.dK (kvs.foldl (fun acc p => setK acc p.1 p.2) [])]))
  | .heard _ a, sd, m => said (evE a sd m)
  | .tells _ a b, sd, m => (evE b sd m).bind fun y m => (said (evE a sd m)).bind fun x m => F same [x, .tuple [.str "told", y]] m
  | .refuses _ a b c, sd, m => (evE b sd m).bind fun y m => (evE c sd m).bind fun z m => (said (evE a sd m)).bind fun x m => F same [x, .tuple [y, z]] m
noncomputable def evO : Oe → Env → Mem → R (Option D)
  | .none, _, m => .ok none m
  | .some e, sd, m => (evE e sd m).bind fun x m => .ok (some x) m
noncomputable def evEs : Es → Env → Mem → R (List D)
  | .nil, _, m => .ok [] m
  | .cons e es, sd, m => (evE e sd m).bind fun x m => (evEs es sd m).bind fun xs m => .ok (x :: xs) m
noncomputable def evI : It → Env → Mem → R Walk
  | .e a, sd, m => (evE a sd m).bind fun x m => walkOf x m
  | .range _ es, sd, m => (evEs es sd m).bind fun ds m => rangeOf ds m
  | .enum _ a, sd, m => (evE a sd m).bind fun x m => (walkLT x m).bind fun w m => .ok ⟨enumD 0 w.items, w.cell⟩ m
  | .zip _ a b, sd, m => (evE a sd m).bind fun x m => (evE b sd m).bind fun y m => (match rd m x, rd m y with
    | .list xs, .list ys => guard ((locOf x).isNone = true ∧ (locOf y).isNone = true) (.ok ⟨zipD xs ys, none⟩ m)
    | .tuple xs, .tuple ys => .ok ⟨zipD xs ys, none⟩ m
    | _, _ => .no)
end
/-- a test -/
noncomputable def evT (e : E) (sd : Env) (m : Mem) : R Bool := (evE F same e sd m).bind fun x m => truth x m
def setD (a b d : D) (m : Mem) : R Unit := match locOf a with
  | some i => (match m[i]? with
    | some (.lst xs) => (match b with
      | .int k => (match ixN xs.length k with
        | some j => .ok () (m.set i (.lst (xs.set j d)))
        | none => .no)
      | _ => .no)
    | some (.dK kvs) => (match keyOf b with
      | some k => guard (kvs.length < line) (.ok () (m.set i (.dK (setK kvs k d))))
      | none => .no)
    | _ => .no)
  | none => .no
mutual
noncomputable def evS : S → Env → Mem → R (Flow × Env)
  | .skip, sd, m => .ok (.nx, sd) m
  | .doc, sd, m => .ok (.nx, sd) m
  | .ex e, sd, m => (evE F same e sd m).bind fun _ m => .ok (.nx, sd) m
  | .set i e, sd, m => (evE F same e sd m).bind fun x m => .ok (.nx, sd.set i (some x)) m
  | .setT tg e, sd, m => (evE F same e sd m).bind fun x m => (opt (asg tg x sd) m).bind fun sd' m => .ok (.nx, sd') m
  | .par i j a b, sd, m => (evE F same a sd m).bind fun x m => (evE F same b sd m).bind fun y m => .ok (.nx, (sd.set i (some x)).set j (some y)) m
  | .setIx a b e, sd, m => (evE F same e sd m).bind fun x m => (evE F same a sd m).bind fun y m => (evE F same b sd m).bind fun z m => (setD y z x m).bind fun _ m => .ok (.nx, sd) m
  | .aug i o e, sd, m => (match (if augOk o = true then sd[i]? else none) with
    | some (some (.int k)) => (evE F same e sd m).bind fun y m => (match y with
      | .int _ => (bop true o (.int k) y m).bind fun z m => .ok (.nx, sd.set i (some z)) m
      | _ => .no)
    | _ => .no)
  | .ifs c a b, sd, m => (evT F same c sd m).bind fun k m => if k = true then evSs a sd m else evSs b sd m
  | .whl c b, sd, m => whileM (evT F same c) (fun sd m => evSs b sd m) sd m
  | .for_ tg it b, sd, m => (evI F same it sd m).bind fun w m => forM w.stays (fun d sd m => (opt (asg tg d sd) m).bind fun sd' m => evSs b sd' m) w.items sd m
  | .ret e, sd, m => (evE F same e sd m).bind fun x m => .ok (.ret x, sd) m
  | .retN, sd, m => .ok (.ret .none, sd) m
  | .brk, sd, m => .ok (.brk, sd) m
  | .cont, sd, m => .ok (.cont, sd) m
  | .rais _ c e, sd, m => (evE F same e sd m).bind fun x m => .ex c x m
noncomputable def evSs : Ss → Env → Mem → R (Flow × Env)
  | .nil, sd, m => .ok (.nx, sd) m
  | .cons s r, sd, m => (evS s sd m).bind fun p m => (match p.1 with
    | .nx => evSs r p.2 m
    | f => .ok (f, p.2) m)
end
/-- a def: how many names, how many parameters, its body -/
structure Fn where
  nn : Nat
  np : Nat
  body : Ss
noncomputable def runF (g : Fn) (ds : List D) (m : Mem) : R D := if ds.length = g.np then trim m.length ((evSs F same g.body (ds.map some ++ List.replicate (g.nn - g.np) none) m).bind fun p m => (match p.1 with
  | .ret d => .ok d m
  | .nx => .ok .none m
  | _ => .no)) else .no
/-- n calls deep -/
noncomputable def fnsN (tab : Nat → Option Fn) (same : Nat) : Nat → Fns
  | 0 => fun _ _ _ => .no
  | n + 1 => fun f ds m => (match tab f with
    | some g => runF (fnsN tab same n) same g ds m
    | none => .no)
end SS
end PT_Sem
section PT_SA
set_option Elab.async false
set_option linter.all false
set_option maxRecDepth 100000
set_option maxHeartbeats 2000000
/-! What the plain semantics has to do with the machine. -/
namespace SS
open PySem PySem.Spec PyProof.Rows L2
/-- the def's addresses, the classes', the tables of code -/
structure Pm where
  K : PySem.W.Frag
  fa : Nat → Option Addr
  ca : Str → Option Addr
  T : List (Addr × Str)
/-- G: data that stays; R: what a walker holds; β: the cells' places -/
structure Wd where
  G : Hp
  R : Hp
  β : List Addr
/-- a tuple that is read: its one object is known, or it is the module's -/
def TupG (K : PySem.W.Frag) (G : Hp) (a : Addr) (xs : List V) : Prop :=
  (∃ o : Obj, o.dict = none ∧ G a = some (.frz o (.tup xs))) ∨
    ∃ (o : Obj) (its : Array Value) (n : Nat), K.lookup a = some o ∧ o.cls = .type "tuple" ∧ o.dict = none ∧ o.data = .seq its n ∧ its.size ≤ sizeLine ∧ Vals xs its.toList
mutual
inductive VD (P : Pm) (W : Wd) : D → V → Prop
  | non : VD P W .none .non
  | bl (b : Bool) : VD P W (.bool b) (.bl b)
  | int (i : Int) : VD P W (.int i) (.int i)
  | str (x : Str) : VD P W (.str x) (.str x)
  | lst {a : Addr} {xs : List V} {ds : List D} : Rd W.G a (.lst xs) → VDs P W ds xs → VD P W (.list ds) (.ref a)
  | tup {a : Addr} {xs : List V} {ds : List D} : TupG P.K W.G a xs → VDs P W ds xs → VD P W (.tuple ds) (.ref a)
  | loc {i : Nat} {a : Addr} : W.β[i]? = some a → VD P W (.dict [(.int (Int.ofNat i), .none)]) (.ref a)
  | fnv {i : Nat} {a : Addr} : P.fa i = some a → VD P W (.dict [(.int (Int.ofNat i), .bool true)]) (.ref a)
inductive VDs (P : Pm) (W : Wd) : List D → List V → Prop
  | nil : VDs P W [] []
  | cons {d : D} {ds : List D} {v : V} {vs : List V} : VD P W d v → VDs P W ds vs → VDs P W (d :: ds) (v :: vs)
end
structure Le (W W' : Wd) : Prop where
  g : ∀ a o, W.G a = some o → W'.G a = some o
  r : W'.R = W.R
  b : W.β <+: W'.β
theorem Le.refl (W : Wd) : Le W W := ⟨fun _ _ h => h, rfl, List.prefix_refl _⟩
theorem Le.trans {A B C : Wd} (x : Le A B) (y : Le B C) : Le A C := ⟨fun a o h => y.g a o (x.g a o h), y.r.trans x.r, x.b.trans y.b⟩
theorem Le.at {W W' : Wd} (l : Le W W') {i : Nat} {a : Addr} (h : W.β[i]? = some a) : W'.β[i]? = some a := by
  obtain ⟨t, e⟩ := l.b
  rw [← e, List.getElem?_append_left (List.getElem?_eq_some_iff.mp h).1]
  exact h
theorem rd_up {G G' : Hp} (g : ∀ a o, G a = some o → G' a = some o) {a : Addr} {u : HO} (h : Rd G a u) : Rd G' a u := by
  rcases h with h | ⟨o, h⟩
  · exact .inl (g _ _ h)
  · exact .inr ⟨o, g _ _ h⟩
theorem sqT_up {K : PySem.W.Frag} {G G' : Hp} (g : ∀ a o, G a = some o → G' a = some o) {a : Addr} {xs : List V} (h : SqT K G a xs) : SqT K G' a xs := by
  rcases h with h | h
  · exact .inl (rd_up g h)
  · exact .inr h
theorem TupG.up {K : PySem.W.Frag} {G G' : Hp} (g : ∀ a o, G a = some o → G' a = some o) {a : Addr} {xs : List V} (h : TupG K G a xs) : TupG K G' a xs := by
  rcases h with ⟨o, d, h⟩ | h
  · exact .inl ⟨o, d, g _ _ h⟩
  · exact .inr h
theorem TupG.sq {K : PySem.W.Frag} {G : Hp} {a : Addr} {xs : List V} (h : TupG K G a xs) : SqT K G a xs := by
  rcases h with ⟨o, d, h⟩ | ⟨o, its, n, a, b, c, d, e, f⟩
  · exact .inl (.inr ⟨o, h⟩)
  · exact .inr ⟨o, its, n, a, b, d, e, f⟩
mutual
theorem VD.upG {P : Pm} {W W' : Wd} (g : ∀ a o, W.G a = some o → W'.G a = some o) (b : ∀ (i : Nat) (a : Addr), W.β[i]? = some a → W'.β[i]? = some a) : ∀ {d : D} {v : V}, VD P W d v → VD P W' d v
  | _, _, .non => .non
  | _, _, .bl b => .bl b
  | _, _, .int b => .int b
  | _, _, .str b => .str b
  | _, _, .lst h t => .lst (rd_up g h) (VDs.upG g b t)
  | _, _, .tup h t => .tup (h.up g) (VDs.upG g b t)
  | _, _, .loc h => .loc (b _ _ h)
  | _, _, .fnv h => .fnv h
theorem VDs.upG {P : Pm} {W W' : Wd} (g : ∀ a o, W.G a = some o → W'.G a = some o) (b : ∀ (i : Nat) (a : Addr), W.β[i]? = some a → W'.β[i]? = some a) : ∀ {d : List D} {v : List V}, VDs P W d v → VDs P W' d v
  | _, _, .nil => .nil
  | _, _, .cons h t => .cons (VD.upG g b h) (VDs.upG g b t)
end
theorem VD.up {P : Pm} {W W' : Wd} (l : Le W W') {d : D} {v : V} (h : VD P W d v) : VD P W' d v := h.upG l.g fun _ _ e => l.at e
theorem VDs.up {P : Pm} {W W' : Wd} (l : Le W W') {d : List D} {v : List V} (h : VDs P W d v) : VDs P W' d v := h.upG l.g fun _ _ e => l.at e
/-- what is held aside -/
abbrev Wd.free (W' : Wd) (R : Hp) : Wd := ⟨W'.G, R, W'.β⟩
abbrev Lq (W W' : Wd) : Prop := Le W (W'.free W.R)
theorem Le.q {W W' : Wd} (l : Le W W') : Lq W W' := ⟨l.g, rfl, l.b⟩
theorem VD.upq {P : Pm} {W W' : Wd} (l : Lq W W') {d : D} {v : V} (h : VD P W d v) : VD P W' d v := VD.upG (W := W) (W' := W') l.g (fun _ _ e => l.at e) h
theorem VDs.upq {P : Pm} {W W' : Wd} (l : Lq W W') {d : List D} {v : List V} (h : VDs P W d v) : VDs P W' d v := VDs.upG (W := W) (W' := W') l.g (fun _ _ e => l.at e) h
section
variable {P : Pm} {W : Wd}
theorem VDs.length : ∀ {ds : List D} {xs : List V}, VDs P W ds xs → xs.length = ds.length
  | _, _, .nil => rfl
  | _, _, .cons _ t => by simp [VDs.length t]
theorem VDs.get : ∀ {ds : List D} {xs : List V} {i : Nat} {d : D}, VDs P W ds xs → ds[i]? = some d → ∃ v, xs[i]? = some v ∧ VD P W d v
  | _, _, _, _, .nil, e => by simp at e
  | _, _, 0, _, .cons r _, e => by simp at e; subst e; exact ⟨_, rfl, r⟩
  | _, _, i + 1, d, .cons _ t, e => by
    obtain ⟨u, h1, h2⟩ := VDs.get (i := i) (d := d) t (by simpa using e)
    exact ⟨u, by simpa using h1, h2⟩
theorem VDs.app : ∀ {ds es : List D} {xs ys : List V}, VDs P W ds xs → VDs P W es ys → VDs P W (ds ++ es) (xs ++ ys)
  | _, _, _, _, .nil, s => s
  | _, _, _, _, .cons r t, s => .cons r (VDs.app t s)
theorem VDs.take : ∀ {ds : List D} {xs : List V} (n : Nat), VDs P W ds xs → VDs P W (ds.take n) (xs.take n)
  | _, _, 0, _ => .nil
  | _, _, _ + 1, .nil => .nil
  | _, _, n + 1, .cons r t => .cons r (VDs.take n t)
theorem VDs.drop : ∀ {ds : List D} {xs : List V} (n : Nat), VDs P W ds xs → VDs P W (ds.drop n) (xs.drop n)
  | _, _, 0, r => r
  | _, _, _ + 1, .nil => .nil
  | _, _, n + 1, .cons _ t => VDs.drop n t
theorem VDs.set {d : D} {v : V} (r : VD P W d v) : ∀ {ds : List D} {xs : List V} (i : Nat), VDs P W ds xs → VDs P W (ds.set i d) (xs.set i v)
  | _, _, _, .nil => .nil
  | _, _, 0, .cons _ t => .cons r t
  | _, _, i + 1, .cons q t => .cons q (VDs.set r i t)
theorem VDs.erase : ∀ {ds : List D} {xs : List V} (i : Nat), VDs P W ds xs → VDs P W (ds.eraseIdx i) (xs.eraseIdx i)
  | _, _, _, .nil => .nil
  | _, _, 0, .cons _ t => t
  | _, _, i + 1, .cons q t => .cons q (VDs.erase i t)
theorem VDs.rep {ds : List D} {xs : List V} (h : VDs P W ds xs) : ∀ k : Nat, VDs P W (List.replicate k ds).flatten (List.replicate k xs).flatten
  | 0 => .nil
  | k + 1 => by
    rw [List.replicate_succ, List.replicate_succ, List.flatten_cons, List.flatten_cons]
    exact h.app (VDs.rep h k)
theorem VDs.nil_iff {ds : List D} {xs : List V} (h : VDs P W ds xs) : xs = [] ↔ ds = [] := by
  cases h <;> simp
theorem VDs.empty {ds : List D} {xs : List V} (h : VDs P W ds xs) : xs.isEmpty = ds.isEmpty := by
  cases h <;> rfl
end
/-! ### cells -/
def KVD {κ : Type} (P : Pm) (W : Wd) : List (κ × D) → List (κ × V) → Prop := Paired fun (p : κ × D) (q : κ × V) => p.1 = q.1 ∧ VD P W p.2 q.2
def CellOk (P : Pm) (W : Wd) : O → HO → Prop
  | .lst ds, .lst xs => VDs P W ds xs
  | .dK kvs, .dK ws => KVD P W kvs ws
  | .dT kvs, .dT ws => KVD P W kvs ws
  | _, _ => False
theorem KVD.upG {κ : Type} {P : Pm} {W W' : Wd} (g : ∀ a o, W.G a = some o → W'.G a = some o) (b : ∀ (i : Nat) (a : Addr), W.β[i]? = some a → W'.β[i]? = some a) {kvs : List (κ × D)} {ws : List (κ × V)} (h : KVD P W kvs ws) : KVD P W' kvs ws := L2.Paired.mapP h fun _ _ q => ⟨q.1, q.2.upG g b⟩
theorem CellOk.upG {P : Pm} {W W' : Wd} (g : ∀ a o, W.G a = some o → W'.G a = some o) (b : ∀ (i : Nat) (a : Addr), W.β[i]? = some a → W'.β[i]? = some a) : ∀ {o : O} {u : HO}, CellOk P W o u → CellOk P W' o u := by
  intro o u h
  cases o <;> cases u <;> first | exact h.elim | exact VDs.upG g b h | exact KVD.upG g b h
theorem KVD.up {κ : Type} {P : Pm} {W W' : Wd} (l : Le W W') {kvs : List (κ × D)} {ws : List (κ × V)} (h : KVD P W kvs ws) : KVD P W' kvs ws := h.upG l.g fun _ _ e => l.at e
theorem CellOk.up {P : Pm} {W W' : Wd} (l : Le W W') {o : O} {u : HO} (h : CellOk P W o u) : CellOk P W' o u := h.upG l.g fun _ _ e => l.at e
/-- the machine's memory is the plain one -/
structure Sim (P : Pm) (W : Wd) (M : Mem) (H : Hp) : Prop where
  sub : ∀ a o, W.G a = some o → H a = some o
  held : ∀ a o, W.R a = some o → H a = some o ∧ W.G a = none ∧ a ∉ W.β
  len : W.β.length = M.length
  nd : W.β.Nodup
  cell : ∀ (i : Nat) (a : Addr) (o : O), W.β[i]? = some a → M[i]? = some o → W.G a = none ∧ ∃ u, H a = some u ∧ CellOk P W o u
  tabs : LamX.Tabs P.T H
  nt : ∀ a ps, W.G a ≠ some (.tbl ps) ∧ W.R a ≠ some (.tbl ps)
  nc : ∀ a c q, W.R a ≠ some (LamX.CodeO c q)
section
variable {P : Pm} {W : Wd} {M : Mem} {H : Hp}
theorem cellOk_mut {o : O} {u : HO} (h : CellOk P W o u) : Mut (some u) := by
  cases o <;> cases u <;> first | exact h.elim | exact True.intro
/-- something new, not told of -/
theorem Sim.skip (S : Sim P W M H) {p : Addr} {o : HO} (hp : H p = none) : Sim P W M (upd H p o) := by
  have k : ∀ b u, H b = some u → upd H p o b = some u := fun b u e => by rw [upd_ne (ne_of_none e hp)]; exact e
  exact ⟨fun a u e => k _ _ (S.sub a u e), fun a u e => ⟨k _ _ (S.held a u e).1, (S.held a u e).2⟩, S.len, S.nd, fun i a u e1 e2 => by
    obtain ⟨h1, v, h2, h3⟩ := S.cell i a u e1 e2
    exact ⟨h1, v, k _ _ h2, h3⟩, S.tabs.ext k, S.nt, S.nc⟩
theorem Sim.noG (S : Sim P W M H) {p : Addr} (hp : H p = none) : W.G p = none := by
  cases e : W.G p with
  | none => rfl
  | some u => rw [S.sub p u e] at hp; cases hp
theorem Sim.noR (S : Sim P W M H) {p : Addr} (hp : H p = none) : W.R p = none := by
  cases e : W.R p with
  | none => rfl
  | some u => rw [(S.held p u e).1] at hp; cases hp
theorem Sim.cellAt (S : Sim P W M H) {a : Addr} (h : a ∈ W.β) : ∃ (i : Nat) (o : O) (u : HO), W.β[i]? = some a ∧ M[i]? = some o ∧ W.G a = none ∧ H a = some u ∧ CellOk P W o u := by
  obtain ⟨i, hi, e⟩ := List.mem_iff_getElem.mp h
  have e1 : W.β[i]? = some a := by rw [List.getElem?_eq_getElem hi, e]
  have hm : i < M.length := by rw [← S.len]; exact hi
  obtain ⟨g, u, h1, h2⟩ := S.cell i a M[i] e1 (List.getElem?_eq_getElem hm)
  exact ⟨i, _, u, e1, List.getElem?_eq_getElem hm, g, h1, h2⟩
theorem Sim.noB (S : Sim P W M H) {p : Addr} (hp : H p = none) : p ∉ W.β := fun h => by
  obtain ⟨_, _, u, _, _, _, h1, _⟩ := S.cellAt h
  rw [hp] at h1
  cases h1
/-- a new datum -/
abbrev Wd.dat (W : Wd) (p : Addr) (o : HO) : Wd := ⟨upd W.G p o, W.R, W.β⟩
theorem Sim.leDat (S : Sim P W M H) {p : Addr} {o : HO} (hp : H p = none) : Le W (W.dat p o) :=
  ⟨fun a u e => by
    show upd W.G p o a = some u
    rw [upd_ne (ne_of_none (S.sub a u e) hp)]
    exact e, rfl, List.prefix_refl _⟩
theorem Sim.dat (S : Sim P W M H) {p : Addr} {o : HO} (hp : H p = none) (ho : ∀ ps, o ≠ .tbl ps := by intro _ z; cases z) : Sim P (W.dat p o) M (upd H p o) := by
  have S' := S.skip (o := o) hp
  refine ⟨fun a u e => ?_, fun a u e => ?_, S.len, S.nd, fun i a u e1 e2 => ?_, S'.tabs, fun a ps => ⟨fun e => ?_, (S.nt a ps).2⟩, S.nc⟩
  · have e : upd W.G p o a = some u := e
    by_cases h : a = p
    · subst h; rw [upd_same] at e ⊢; exact e
    · rw [upd_ne h] at e ⊢; exact S.sub a u e
  · obtain ⟨h1, h2, h3⟩ := S'.held a u e
    refine ⟨h1, ?_, h3⟩
    show upd W.G p o a = none
    rw [upd_ne (ne_of_none (S.held a u e).1 hp)]; exact h2
  · obtain ⟨g, v, h1, h2⟩ := S.cell i a u e1 e2
    have ne := ne_of_none h1 hp
    refine ⟨?_, v, by rw [upd_ne ne]; exact h1, h2.up (S.leDat hp)⟩
    show upd W.G p o a = none
    rw [upd_ne ne]; exact g
  · have e : upd W.G p o a = some (.tbl ps) := e
    by_cases h : a = p
    · subst h; rw [upd_same] at e; exact ho ps (Option.some.inj e)
    · rw [upd_ne h] at e; exact (S.nt a ps).1 e
/-- a new cell -/
abbrev Wd.add (W : Wd) (p : Addr) : Wd := ⟨W.G, W.R, W.β ++ [p]⟩
theorem leAdd {p : Addr} : Le W (W.add p) := ⟨fun _ _ e => e, rfl, List.prefix_append _ _⟩
theorem Sim.add (S : Sim P W M H) {p : Addr} {o : O} {u : HO} (hp : H p = none) (ok : CellOk P W o u) : Sim P (W.add p) (M ++ [o]) (upd H p u) := by
  have S' := S.skip (o := u) hp
  have nb := S.noB hp
  refine ⟨S'.sub, fun a v e => ?_, by simp [S.len], ?_, fun i a v e1 e2 => ?_, S'.tabs, S.nt, S.nc⟩
  · obtain ⟨h1, h2, h3⟩ := S'.held a v e
    refine ⟨h1, h2, fun hm => ?_⟩
    rcases List.mem_append.mp hm with z | z
    · exact h3 z
    · rw [List.mem_singleton] at z
      exact ne_of_none (S.held a v e).1 hp z
  · refine List.nodup_append.mpr ⟨S.nd, by simp, fun a ha b hb => ?_⟩
    rw [List.mem_singleton] at hb
    subst hb
    rintro rfl
    exact nb ha
  · have e1 : (W.β ++ [p])[i]? = some a := e1
    by_cases hi : i < W.β.length
    · rw [List.getElem?_append_left hi] at e1
      rw [List.getElem?_append_left (by rw [← S.len]; exact hi)] at e2
      obtain ⟨g, x, h1, h2⟩ := S.cell i a v e1 e2
      exact ⟨g, x, by rw [upd_ne (ne_of_none h1 hp)]; exact h1, h2.up leAdd⟩
    · have hi' : i = W.β.length := by
        have := (List.getElem?_eq_some_iff.mp e1).1
        simp at this
        omega
      subst hi'
      rw [List.getElem?_append_right (Nat.le_refl _)] at e1
      rw [S.len, List.getElem?_append_right (Nat.le_refl _)] at e2
      simp at e1 e2
      subst e1 e2
      exact ⟨S.noG hp, u, upd_same, ok.up leAdd⟩
/-- a cell is written -/
theorem tabs_upd {T : List (Addr × Str)} {a : Addr} {u v : HO} (t : LamX.Tabs T H) (h : H a = some u) (n1 : ∀ ps, u ≠ .tbl ps) (n2 : ∀ c q, u ≠ LamX.CodeO c q) : LamX.Tabs T (upd H a v) := fun p hp => by
  obtain ⟨ps, h1, h2, h3⟩ := t p hp
  refine ⟨ps, ?_, h2, fun pos cv hc => ?_⟩
  · rw [upd_ne]
    · exact h1
    · rintro e
      rw [e, h] at h1
      exact n1 ps (Option.some.inj h1)
  · obtain ⟨c, e1, e2⟩ := h3 pos cv hc
    refine ⟨c, e1, ?_⟩
    rw [upd_ne]
    · exact e2
    · rintro e
      rw [e, h] at e2
      exact n2 _ _ (Option.some.inj e2)
theorem cellOk_no {o : O} {u : HO} (h : CellOk P W o u) : (∀ ps, u ≠ .tbl ps) ∧ ∀ c q, u ≠ LamX.CodeO c q := by
  cases o <;> cases u <;> first | exact h.elim | exact ⟨fun _ e => (by cases e), fun _ _ e => (by unfold LamX.CodeO at e; cases e)⟩
theorem Sim.write (S : Sim P W M H) {i : Nat} {a : Addr} {o o' : O} {u' : HO} (e1 : W.β[i]? = some a) (e2 : M[i]? = some o) (ok : CellOk P W o' u') : Sim P W (M.set i o') (upd H a u') := by
  obtain ⟨g, u, h1, h2⟩ := S.cell i a o e1 e2
  have ha : a ∈ W.β := List.mem_of_getElem? e1
  refine ⟨fun b v e => ?_, fun b v e => ?_, by simp [S.len], S.nd, fun j b v f1 f2 => ?_, tabs_upd S.tabs h1 (cellOk_no h2).1 (cellOk_no h2).2, S.nt, S.nc⟩
  · rw [upd_ne]
    · exact S.sub b v e
    · rintro rfl; rw [g] at e; cases e
  · obtain ⟨k1, k2, k3⟩ := S.held b v e
    refine ⟨?_, k2, k3⟩
    rw [upd_ne]
    · exact k1
    · rintro rfl; exact k3 ha
  · by_cases hj : i = j
    · subst hj
      rw [e1] at f1
      cases f1
      rw [List.getElem?_set_self (List.getElem?_eq_some_iff.mp e2).1] at f2
      cases f2
      exact ⟨g, u', upd_same, ok⟩
    · rw [List.getElem?_set_ne hj] at f2
      obtain ⟨k1, w, k2, k3⟩ := S.cell j b v f1 f2
      refine ⟨k1, w, ?_, k3⟩
      rw [upd_ne]
      · exact k2
      · rintro rfl
        exact hj ((List.getElem?_inj (List.getElem?_eq_some_iff.mp e1).1 S.nd).mp (e1.trans f1.symm))
/-- the tables may grow -/
theorem Sim.ext {H1 : Hp} (S : Sim P W M H) (e : LamX.ExtN H H1) (T : LamX.Tabs P.T H1) : Sim P W M H1 :=
  ⟨fun a o h => e a o (S.sub a o h) fun ps z => (S.nt a ps).1 (z ▸ h), fun a o h => ⟨e a o (S.held a o h).1 fun ps z => (S.nt a ps).2 (z ▸ h), (S.held a o h).2⟩, S.len, S.nd, fun i a o e1 e2 => by
    obtain ⟨g, u, h1, h2⟩ := S.cell i a o e1 e2
    exact ⟨g, u, e a u h1 (cellOk_no h2).1, h2⟩, T, S.nt, S.nc⟩
/-- a code object is a datum -/
theorem Sim.code {c : Addr} {q : Str} (S : Sim P W M H) (h : H c = some (LamX.CodeO c q)) : Sim P (W.dat c (LamX.CodeO c q)) M H ∧ Le W (W.dat c (LamX.CodeO c q)) := by
  have l : Le W (W.dat c (LamX.CodeO c q)) := ⟨fun a u e => by
    show upd W.G c _ a = some u
    by_cases z : a = c
    · subst z; rw [upd_same, ← h]; exact S.sub _ u e
    · rw [upd_ne z]; exact e, rfl, List.prefix_refl _⟩
  refine ⟨⟨fun a u e => ?_, fun a u e => ?_, S.len, S.nd, fun i a u e1 e2 => ?_, S.tabs, fun a ps => ⟨fun e => ?_, (S.nt a ps).2⟩, S.nc⟩, l⟩
  · have e : upd W.G c _ a = some u := e
    by_cases z : a = c
    · subst z; rw [upd_same] at e; rw [h]; exact e
    · rw [upd_ne z] at e; exact S.sub a u e
  · obtain ⟨h1, h2, h3⟩ := S.held a u e
    refine ⟨h1, ?_, h3⟩
    show upd W.G c _ a = none
    rw [upd_ne (fun z => by
      subst z
      rw [h] at h1
      cases h1
      exact S.nc _ _ _ e)]
    exact h2
  · obtain ⟨g, v, k2, k3⟩ := S.cell i a u e1 e2
    refine ⟨?_, v, k2, k3.up l⟩
    show upd W.G c _ a = none
    rw [upd_ne (fun z => by
      subst z
      rw [h] at k2
      cases k2
      exact (cellOk_no k3).2 _ _ rfl)]
    exact g
  · have e : upd W.G c (LamX.CodeO c q) a = some (.tbl ps) := e
    by_cases z : a = c
    · subst z
      rw [upd_same] at e
      exact LamX.codeO_ne ps (Option.some.inj e)
    · rw [upd_ne z] at e; exact (S.nt a ps).1 e
end
end SS
end PT_SA
section PT_SB
set_option Elab.async false
set_option linter.all false
set_option maxRecDepth 100000
set_option maxHeartbeats 2000000
/-! The operations. -/
namespace SS
open PySem PySem.Spec PyProof.Rows L2
/-- an exception's value: its class, its own dict, what it bears -/
def ExR (P : Pm) (W : Wd) (H : Hp) (c : Str) (x : D) (cls : Value) (d : Option Addr) : Prop :=
  ∃ (C dx : Addr) (fs : List (Str × V)) (v : V), P.ca c = some C ∧ cls = .ref C ∧ d = some dx ∧ W.G dx = some (.xd fs) ∧ fs.lookup ("what" : Str) = some v ∧ VD P W x v
abbrev WY := Value → Option Addr → Hp → Prop
def Out {α β : Type} (P : Pm) (rel : Wd → α → β → Prop) (W : Wd) (wx : WY) (r : R α) (Q : β → Hp → Prop) : Prop := match r with
  | .ok a m => ∀ (W' : Wd) (b : β) (H' : Hp), Le W W' → Sim P W' m H' → rel W' a b → Q b H'
  | .ex c x m => ∀ (W' : Wd) (H' : Hp) (cls : Value) (d : Option Addr), Le W W' → Sim P W' m H' → ExR P W' H' c x cls d → wx cls d H'
  | .no => False
section
variable {P : Pm} {α β γ δ : Type} {rel : Wd → α → β → Prop} {W W' : Wd} {wx : WY} {Q : β → Hp → Prop} {m : Mem} {H : Hp}
theorem Out.up (l : Le W W') : ∀ {r : R α}, Out P rel W wx r Q → Out P rel W' wx r Q
  | .ok _ _, h => fun V b H' l' => h V b H' (l.trans l')
  | .ex _ _ _, h => fun V H' c d l' => h V H' c d (l.trans l')
  | .no, h => h
theorem Out.imp {Q' : β → Hp → Prop} (k : ∀ b H, Q b H → Q' b H) : ∀ {r : R α}, Out P rel W wx r Q → Out P rel W wx r Q'
  | .ok _ _, h => fun V b H' l s r => k _ _ (h V b H' l s r)
  | .ex _ _ _, h => h
  | .no, h => h
theorem Out.bind (rel1 : Wd → γ → δ → Prop) {f : γ → Mem → R α} : ∀ {r : R γ}, Out P rel W wx (r.bind f) Q →
    Out P rel1 W wx r (fun b H' => ∃ W' a m, Le W W' ∧ Sim P W' m H' ∧ rel1 W' a b ∧ Out P rel W' wx (f a m) Q)
  | .ok a m, h => fun V b H' l s r => ⟨V, a, m, l, s, r, Out.up l h⟩
  | .ex _ _ _, h => h
  | .no, h => h
theorem Out.guard {p : Prop} [Decidable p] {r : R α} (h : Out P rel W wx (SS.guard p r) Q) : p ∧ Out P rel W wx r Q := by
  unfold SS.guard at h
  split at h
  · exact ⟨‹_›, h⟩
  · exact h.elim
theorem Out.opt {o : Option α} (h : Out P rel W wx (SS.opt o m) Q) : ∃ a, o = some a ∧ Out P rel W wx (.ok a m) Q := by
  cases o with
  | none => exact h.elim
  | some a => exact ⟨a, rfl, h⟩
end
section
variable {P : Pm} {W : Wd} {wx : WY} {Q : VK} {m : Mem} {H : Hp}
theorem Out.val {α β : Type} {rel : Wd → α → β → Prop} {Q : β → Hp → Prop} {a : α} {b : β} (h : Out P rel W wx (.ok a m) Q) (S : Sim P W m H) (r : rel W a b) : Q b H := h W b H (Le.refl W) S r
theorem Out.tup {ds : List D} {xs : List V} (h : Out P (VD P) W wx (.ok (.tuple ds) m) Q) (S : Sim P W m H) (r : VDs P W ds xs) : ∀ (p : Addr) (o : Obj), H p = none → o.dict = none → Q (.ref p) (upd H p (.frz o (.tup xs))) := fun p o hp ho =>
  h (W.dat p (.frz o (.tup xs))) _ _ (S.leDat hp) (S.dat hp) (.tup (.inl ⟨o, ho, upd_same⟩) (r.up (S.leDat hp)))
theorem Out.new {fz : Bool} {ds : List D} {xs : List V} (h : Out P (VD P) W wx (newL fz ds m) Q) (S : Sim P W m H) (r : VDs P W ds xs) : ds.length ≤ line ∧ ∀ p, H p = none → Q (.ref p) (upd H p (.lst xs)) := by
  unfold newL at h
  obtain ⟨hl, h⟩ := h.guard
  refine ⟨hl, fun p hp => ?_⟩
  cases fz with
  | true => exact h (W.dat p (.lst xs)) _ _ (S.leDat hp) (S.dat hp) (.lst (.inl upd_same) (r.up (S.leDat hp)))
  | false =>
    refine h (W.add p) _ _ leAdd (S.add (o := .lst ds) hp r) (.loc ?_)
    show (W.β ++ [p])[m.length]? = some p
    rw [← S.len, List.getElem?_append_right (Nat.le_refl _)]
    simp
theorem Out.cell {α β : Type} {rel : Wd → α → β → Prop} {Q : β → Hp → Prop} {i : Nat} {a : Addr} {o o' : O} {u' : HO} {x : α} {b : β} (h : Out P rel W wx (.ok x (m.set i o')) Q) (S : Sim P W m H) (e1 : W.β[i]? = some a) (e2 : m[i]? = some o) (ok : CellOk P W o' u') (r : rel W x b) :
    Q b (upd H a u') := h W b _ (Le.refl W) (S.write e1 e2 ok) r
end
/-! ### what is read -/
def VR (P : Pm) (W : Wd) (H : Hp) : D → V → Prop
  | .none, x => x = .non
  | .bool b, x => x = .bl b
  | .int i, x => x = .int i
  | .str s, x => x = .str s
  | .list ds, x => ∃ p xs, x = .ref p ∧ Rd H p (.lst xs) ∧ VDs P W ds xs
  | .tuple ds, x => ∃ p xs, x = .ref p ∧ TupG P.K W.G p xs ∧ VDs P W ds xs
  | .dict _, x => ∃ p, x = .ref p
section
variable {P : Pm} {W : Wd} {M : Mem} {H : Hp}
theorem VD.vr (g : ∀ a o, W.G a = some o → H a = some o) {d : D} {v : V} (h : VD P W d v) : VR P W H d v := by
  cases h with
  | non => rfl
  | bl => rfl
  | int => rfl
  | str => rfl
  | lst a b => exact ⟨_, _, rfl, rd_up g a, b⟩
  | tup a b => exact ⟨_, _, rfl, a, b⟩
  | loc => exact ⟨_, rfl⟩
  | fnv => exact ⟨_, rfl⟩
theorem rd_loc (i : Nat) : rd M (loc i) = (match M[i]? with
    | some (.lst xs) => .list xs
    | _ => loc i) := rfl
theorem Sim.rd (S : Sim P W M H) {d : D} {v : V} (h : VD P W d v) : VR P W H (SS.rd M d) v := by
  cases h with
  | non => rfl
  | bl => rfl
  | int => rfl
  | str => rfl
  | lst a b => exact ⟨_, _, rfl, rd_up S.sub a, b⟩
  | tup a b => exact ⟨_, _, rfl, a, b⟩
  | fnv => exact ⟨_, rfl⟩
  | @loc i a e =>
    show VR P W H (SS.rd M (loc i)) _
    rw [rd_loc]
    split
    · rename_i xs hx
      obtain ⟨_, u, h1, h2⟩ := S.cell i a _ e hx
      cases u <;> first | exact h2.elim | exact ⟨_, _, rfl, .inl h1, h2⟩
    · exact ⟨_, rfl⟩
/-- a cell by its name -/
theorem Sim.atLoc (S : Sim P W M H) {d : D} {v : V} {i : Nat} {o : O} (h : VD P W d v) (e : locOf d = some i) (f : M[i]? = some o) : ∃ a u, v = .ref a ∧ W.β[i]? = some a ∧ H a = some u ∧ CellOk P W o u := by
  cases h with
  | @loc j a e' =>
    have : locOf (loc j) = some i := e
    rw [locOf_loc] at this
    cases this
    obtain ⟨_, u, h1, h2⟩ := S.cell i a o e' f
    exact ⟨a, u, rfl, e', h1, h2⟩
  | fnv => cases e
  | _ => cases e
mutual
theorem VD.dp (g : ∀ a o, W.G a = some o → H a = some o) : ∀ {d : D} {v : V}, VD P W d v → d.canLay0 = true → Dp P.K H v d
  | _, _, .non, _ => .non
  | _, _, .bl b, _ => .bl b
  | _, _, .int b, _ => .int b
  | _, _, .str b, _ => .str b
  | _, _, .lst h t, c => .lst (.inl (rd_up g h)) (VDs.dp g t (by simpa [PyData.canLay0] using c))
  | _, _, .tup h t, c => .tup (h.up g).sq (VDs.dp g t (by simpa [PyData.canLay0] using c))
  | _, _, .loc h, c => by simp [PyData.canLay0] at c
  | _, _, .fnv h, c => by simp [PyData.canLay0] at c
theorem VDs.dp (g : ∀ a o, W.G a = some o → H a = some o) : ∀ {d : List D} {v : List V}, VDs P W d v → PyData.canLayAll0 d = true → DpAll P.K H v d
  | _, _, .nil, _ => .nil
  | _, _, .cons h t, c => by
    simp only [PyData.canLayAll0, Bool.and_eq_true] at c
    exact .cons (VD.dp g h c.1) (VDs.dp g t c.2)
end
theorem VR.dp (g : ∀ a o, W.G a = some o → H a = some o) : ∀ {d : D} {v : V}, VR P W H d v → d.canLay0 = true → Dp P.K H v d := by
  intro d v h c
  cases d with
  | none => cases h; exact .non
  | bool => cases h; exact .bl _
  | int => cases h; exact .int _
  | str => cases h; exact .str _
  | list ds => obtain ⟨p, xs, rfl, h1, h2⟩ := h; exact .lst (.inl h1) (h2.dp g (by simpa [PyData.canLay0] using c))
  | tuple ds => obtain ⟨p, xs, rfl, h1, h2⟩ := h; exact .tup (h1.up g).sq (h2.dp g (by simpa [PyData.canLay0] using c))
  | dict => simp [PyData.canLay0] at c
theorem sh_lay {d : D} (h : sh d = true) : d.canLay0 = true := SeqAt.canLay_of_shaped h
end
/-- the facts about the place where code runs -/
structure Fx (P : Pm) (n : Nat) (X : Cx) : Prop where
  K : X.K = P.K
  nd : X.N.Nodup
  calm : n ≠ 0 → X.calm = true
  room : n ≠ 0 → Room n X.A
  roomH : L2H.RoomH n X.A
theorem Fx.un {P : Pm} {n : Nat} {X : Cx} (f : Fx P n X) : X.A.units + 130 < cLine := by have := f.roomH.un; omega
/-! ### own rules of operations -/
section
variable {X : Cx}
theorem op_isB : OpR X (compareOp .Is) (fun x y H Q => ∃ b, y = .bl b ∧ Q (.bl (decide (x = .bl b))) H) := by
  intro pins s σ H x y v u Q I rx ry h
  obtain ⟨b, rfl, q⟩ := h
  cases ry
  by_cases e : x = .bl b
  · subst e
    cases rx
    exact wpAny_is_self rfl ⟨.bl true, H, I, rfl, by simpa using q⟩
  · have hv : v ≠ .bool b := fun z => e (rx.inj (show RelV (.bl b) v from z))
    refine wpAny_is_other ?_ hv ⟨.bl false, H, I, rfl, by simpa [e] using q⟩
    cases x <;> first | (cases rx; rfl) | (obtain ⟨t, rfl⟩ := rx; rfl)
theorem op_notB : OpR X (compareOp .IsNot) (fun x y H Q => ∃ b, y = .bl b ∧ Q (.bl (!decide (x = .bl b))) H) := by
  intro pins s σ H x y v u Q I rx ry h
  obtain ⟨b, rfl, q⟩ := h
  cases ry
  by_cases e : x = .bl b
  · subst e
    cases rx
    exact wpAny_isNot_self rfl ⟨.bl false, H, I, rfl, by simpa using q⟩
  · have hv : v ≠ .bool b := fun z => e (rx.inj (show RelV (.bl b) v from z))
    refine wpAny_isNot_other ?_ hv ⟨.bl true, H, I, rfl, by simpa [e] using q⟩
    cases x <;> first | (cases rx; rfl) | (obtain ⟨t, rfl⟩ := rx; rfl)
theorem op_inT (hu : X.A.units + 65 < cLine) : OpR X (compareOp .In) (fun x y H Q => ∃ d ds, Dp X.K H x d ∧ Dp X.K H y (.tuple ds) ∧ SeqAt.shaped d = true ∧ SeqAt.shaped (.tuple ds) = true ∧ Q (.bl (ds.any fun z => PyData.eqv z d)) H) := by
  intro pins s σ H x y v u Q I rx ry h
  obtain ⟨d, ds, k1, k2, k3, k4, q⟩ := h
  have ⟨as, r1⟩ := Dp.reads I d x v k1 rx
  have ⟨bs, r2⟩ := Dp.reads I (.tuple ds) y u k2 ry
  exact SeqAt.in_tuple_reads r2 r1 (by have := SeqAt.canLay_of_shaped k4; simpa [PyData.canLay0] using this) (SeqAt.canLay_of_shaped k3) (room_in_shaped k3 hu) ⟨.bl _, H, I, rfl, q⟩
theorem op_notInT (hu : X.A.units + 65 < cLine) : OpR X (compareOp .NotIn) (fun x y H Q => ∃ d ds, Dp X.K H x d ∧ Dp X.K H y (.tuple ds) ∧ SeqAt.shaped d = true ∧ SeqAt.shaped (.tuple ds) = true ∧ Q (.bl (!ds.any fun z => PyData.eqv z d)) H) := by
  intro pins s σ H x y v u Q I rx ry h
  obtain ⟨d, ds, k1, k2, k3, k4, q⟩ := h
  have ⟨as, r1⟩ := Dp.reads I d x v k1 rx
  have ⟨bs, r2⟩ := Dp.reads I (.tuple ds) y u k2 ry
  exact SeqAt.notIn_tuple_reads r2 r1 (by have := SeqAt.canLay_of_shaped k4; simpa [PyData.canLay0] using this) (SeqAt.canLay_of_shaped k3) (room_in_shaped k3 hu) ⟨.bl _, H, I, rfl, q⟩
/-- data in order -/
def rOrd (K : PySem.W.Frag) (f : D → D → Bool) : R2 := fun x y H Q => ∃ d e, Dp K H x d ∧ Dp K H y e ∧ PySem.W.alike d e = true ∧ d ≠ .none ∧ SeqAt.shaped d = true ∧ Q (.bl (f d e)) H
theorem op_ltO (hu : X.A.units + 64 < cLine) : OpR X (compareOp .Lt) (rOrd X.K PySem.W.dataLt) := by
  intro pins s σ H x y v u Q I rx ry h
  obtain ⟨d, e, k1, k2, k3, k4, k5, q⟩ := h
  have ⟨as, r1⟩ := Dp.reads I d x v k1 rx
  have ⟨bs, r2⟩ := Dp.reads I e y u k2 ry
  exact PySem.W.lt_data r1 r2 k3 k4 (SeqAt.room_of_shaped k5 hu) ⟨.bl _, H, I, rfl, q⟩
theorem op_gtO (hu : X.A.units + 64 < cLine) : OpR X (compareOp .Gt) (rOrd X.K fun d e => PySem.W.dataLt e d) := by
  intro pins s σ H x y v u Q I rx ry h
  obtain ⟨d, e, k1, k2, k3, k4, k5, q⟩ := h
  have ⟨as, r1⟩ := Dp.reads I d x v k1 rx
  have ⟨bs, r2⟩ := Dp.reads I e y u k2 ry
  exact PySem.W.gt_data r1 r2 k3 k4 (SeqAt.room_of_shaped k5 hu) ⟨.bl _, H, I, rfl, q⟩
theorem op_leO (hu : X.A.units + 64 < cLine) : OpR X (compareOp .LtE) (rOrd X.K fun d e => !PySem.W.dataLt e d) := by
  intro pins s σ H x y v u Q I rx ry h
  obtain ⟨d, e, k1, k2, k3, k4, k5, q⟩ := h
  have ⟨as, r1⟩ := Dp.reads I d x v k1 rx
  have ⟨bs, r2⟩ := Dp.reads I e y u k2 ry
  exact PySem.W.le_data r1 r2 k3 k4 (SeqAt.room_of_shaped k5 hu) ⟨.bl _, H, I, rfl, q⟩
theorem op_geO (hu : X.A.units + 64 < cLine) : OpR X (compareOp .GtE) (rOrd X.K fun d e => !PySem.W.dataLt d e) := by
  intro pins s σ H x y v u Q I rx ry h
  obtain ⟨d, e, k1, k2, k3, k4, k5, q⟩ := h
  have ⟨as, r1⟩ := Dp.reads I d x v k1 rx
  have ⟨bs, r2⟩ := Dp.reads I e y u k2 ry
  exact PySem.W.ge_data r1 r2 k3 k4 (SeqAt.room_of_shaped k5 hu) ⟨.bl _, H, I, rfl, q⟩
theorem rdL {pins : List (Addr × Obj)} {s : Shared} {σ : L2.St} {H : Hp} {l : Addr} {xs : List V} (I : Inv X pins σ H s) (h : Rd H l (.lst xs)) :
    xs.length ≤ sizeLine ∧ ∃ (its : List Value) (n : Nat), Vals xs its ∧ xs.length = its.length ∧ s.heap.get? l = some { cls := .type "list", data := .seq its.toArray n } := by
  obtain ⟨z, its, n, r, e⟩ := h.ok I.hok
  exact ⟨z, its, n, r, r.length, e⟩
/-- l + k of lists that are read -/
theorem op_catR : OpR X (binaryOp .Add) (fun x y H Q => ∃ l b xs zs, x = .ref l ∧ y = .ref b ∧ Rd H l (.lst xs) ∧ Rd H b (.lst zs) ∧ xs.length + zs.length ≤ sizeLine ∧ ∀ p, H p = none → Q (.ref p) (upd H p (.lst (xs ++ zs)))) := by
  intro pins s σ H x y v u Q I rx ry ⟨l, b, xs, zs, ex, ey, k1, k2, hz, q⟩
  subst ex
  subst ey
  cases rx
  cases ry
  obtain ⟨_, its, n, r, hl, e⟩ := rdL I k1
  obtain ⟨_, its2, n2, r2, hl2, e2⟩ := rdL I k2
  refine PySem.P.add_list e e2 ?_ (by simp only [List.size_toArray]; omega)
  have ea : its.toArray ++ its2.toArray = (its ++ its2).toArray := by simp
  rw [ea]
  exact ⟨.ref _, _, I.lnew (t' := s.toks) (r.append r2) (by simp only [List.length_append]; omega), rfl, q _ I.fresh⟩
theorem op_repR : OpR X (binaryOp .Mult) (fun x y H Q => ∃ l k xs, x = .ref l ∧ y = .int k ∧ Rd H l (.lst xs) ∧ -(2 ^ 63) ≤ k ∧ k < 2 ^ 63 ∧ xs.length * k.toNat ≤ sizeLine ∧ ∀ p, H p = none → Q (.ref p) (upd H p (.lst (List.replicate k.toNat xs).flatten))) := by
  intro pins s σ H x y v u Q I rx ry ⟨l, k, xs, ex, ey, k0, h1, h2, hz, q⟩
  subst ex
  subst ey
  cases rx
  obtain ⟨t, rfl⟩ := ry
  obtain ⟨_, its, n, r, hl, e⟩ := rdL I k0
  have a1 : its.toArray.size * k.toNat ≤ sizeLine := by simp only [List.size_toArray, ← hl]; exact hz
  have a2 : ¬ its.toArray.size * k.toNat > (2 ^ 63 - 1) / 8 := by
    have q2 : (sizeLine : Nat) ≤ (2 ^ 63 - 1) / 8 := by decide
    omega
  have a3 : ¬ (!Builtin.List.listFitsIndex k) = true := by rw [fitsIndex_both h1 h2]; decide
  have a4 : ¬ Builtin.List.listTooLong (its.toArray.size * k.toNat) = true := by rw [notLongL a1]; decide
  have a5 : List.foldl (fun x1 x2 => x1 ++ x2) #[] (List.replicate (if its.toArray.isEmpty = true then 0 else k.toNat) its.toArray) = (List.replicate k.toNat its).flatten.toArray := by
    have f0 : ∀ j : Nat, List.foldl (fun x1 x2 => x1 ++ x2) #[] (List.replicate j its.toArray) = (List.replicate j its).flatten.toArray := fun j => by simpa using foldl_rep its j []
    rw [f0]
    cases its <;> simp
  refine wpAny_binaryOp_repeat_ref (T := "list") (U := "int") (by decide) ⟨_, e, rfl⟩ (fun s' => typeIs_int s' k t) noFill_list_mul F.fills_int_mul F.slot_int_rmul repeat_list F.slot_int_index.lookup ?_
  refine call_meets F.slot_int_rmul (typeIs_int s k t) F.entry_int_rmul (F.args_int_rmul_2 _ _) (int___rmul___int_list k t l its.toArray n) ⟨e, rfl, ⟨_, e, rfl⟩, ?_⟩
  refine call_meets F.slot_list_mul ⟨_, e, rfl⟩ F.entry_list_mul (F.args_list_mul_2 _ _) (AutoListH.list___mul___list_int_3 l its.toArray n k t a3 a2 a4) ⟨e, ?_⟩
  rw [a5]
  exact ⟨.ref _, _, I.lnew (t' := s.toks) (r.rep k.toNat) (by rw [PyProof.Rows.lm_len_rep_flat, Nat.mul_comm]; exact hz), rfl, q _ I.fresh⟩
/-! ### tuples, their objects known -/
theorem frz_ok {P : Program} {w : World} {H : Hp} {h : Heap} {p : Addr} {xs : List V} {its : List Value} (hz : xs.length ≤ sizeLine) (r : Vals xs its) (e : h.get? p = some { cls := .type "tuple", data := .seq its.toArray }) :
    ObjOk P w H h p (.frz { cls := .type "tuple", data := .seq its.toArray } (.tup xs)) := ⟨e, hz, its, r, ⟨_, e, rfl, _, rfl⟩⟩
def tTupF (t : TA) : TE := fun σ H Q => t σ H fun xs H1 => xs.length ≤ sizeLine ∧ ∀ (p : Addr) (o : Obj), H1 p = none → o.dict = none → Q (.ref p) (upd H1 p (.frz o (.tup xs)))
theorem pe_tupF {es : List Expr} {t : TA} {k : Nat} {pos : Pos} (h : PA X es t) : PE X (.Tuple es k pos) (tTupF t) := by
  refine ⟨fun pins s σ H Q I hq => ?_⟩
  refine wpAny_Tuple_spliced (thn (h.run pos pins s σ H _ I hq) fun us s1 ⟨xs, H1, I1, r, z, q⟩ => ⟨by rw [← r.length]; exact z, ?_⟩)
  refine ⟨.ref s1.heap.objs.size, _, I1.laid (t' := s1.toks) (fun b u e => Heap.get?_push_of_some _ e) (Nat.le_refl _) (frz_ok z r (Heap.get?_push_size _ rfl)), rfl, q _ _ (I1.hok.fresh (Nat.le_refl _)) rfl⟩
theorem op_catF : OpR X (binaryOp .Add) (fun x y H Q => ∃ a b xs ys, x = .ref a ∧ y = .ref b ∧ SqT X.K H a xs ∧ SqT X.K H b ys ∧ xs.length + ys.length ≤ sizeLine ∧
    (xs = [] → Q (.ref b) H) ∧ (xs ≠ [] → ys = [] → Q (.ref a) H) ∧ (xs ≠ [] → ys ≠ [] → ∀ (p : Addr) (o : Obj), H p = none → o.dict = none → Q (.ref p) (upd H p (.frz o (.tup (xs ++ ys)))))) := by
  intro pins s σ H x y v u Q I rx ry ⟨a, b, xs, ys, ex, ey, ha, hb, hz, q0, q1, q2⟩
  subst ex
  subst ey
  cases rx
  cases ry
  obtain ⟨its, r1, p1, _⟩ := I.tuple ha
  obtain ⟨its2, r2, p2, _⟩ := I.tuple hb
  by_cases hx : xs = []
  · subst hx
    cases r1
    exact cat_tup0 p1 p2 ⟨.ref b, H, I, rfl, q0 rfl⟩
  · refine HT.cat_tup p1 p2 (fun z => hx (r1.nil_iff.mp z)) (fun z => ⟨.ref a, H, I, rfl, q1 hx (r2.nil_iff.mp z)⟩) (fun z => ?_) (by rw [← r1.length, ← r2.length]; exact hz)
    exact ⟨.ref s.heap.objs.size, _, I.laid (t' := s.toks) (fun b ob q => Heap.get?_push_of_some _ q) (Nat.le_refl _) (frz_ok (by rw [List.length_append]; exact hz) (r1.append r2) (Heap.get?_push_size _ rfl)), rfl,
      q2 hx (fun w => z (r2.nil_iff.mpr w)) _ _ (I.hok.fresh (Nat.le_refl _)) rfl⟩
theorem sl_tupF : L2.SlR X (fun x lo hi H Q => ∃ a xs, x = .ref a ∧ SqT X.K H a xs ∧
    (HT.sIx xs.length 0 lo = 0 ∧ HT.sIx xs.length xs.length hi = xs.length → Q (.ref a) H) ∧ (¬ (HT.sIx xs.length 0 lo = 0 ∧ HT.sIx xs.length xs.length hi = xs.length) → ∀ (p : Addr) (o : Obj), H p = none → o.dict = none → Q (.ref p) (upd H p (.frz o (.tup (cutV xs lo hi)))))) := by
  intro pins s σ H x v vl vu lo hi sl Q I rx hs pl pu ⟨a, xs, ex, hx, q1, q2⟩
  subst ex
  cases rx
  obtain ⟨its, r, ht, hz⟩ := I.tuple hx
  have hlen : its.toArray.size = xs.length := by rw [List.size_toArray]; exact r.length.symm
  refine ⟨"tuple", _, PyProof.Rows.slot_tuple_getitem.lookup, ht.typeIs, ?_⟩
  by_cases hw : HT.sIx xs.length 0 lo = 0 ∧ HT.sIx xs.length xs.length hi = xs.length
  · exact getItem_tuple_whole ht hs pl pu (by rw [hlen]; exact hw) ⟨.ref a, H, I, rfl, q1 hw⟩
  · refine HT.getItem_tuple_cut ht hs pl pu (by rw [hlen]; exact hw) ?_ (by rw [hlen]; exact hz)
    rw [hlen]
    exact ⟨.ref s.heap.objs.size, _, I.laid (t' := s.toks) (fun b ob q => Heap.get?_push_of_some _ q) (Nat.le_refl _)
      (frz_ok (xs := cutV xs lo hi) (Nat.le_trans (cutV_length xs lo hi) hz) ((r.drop (HT.sIx xs.length 0 lo)).take (HT.sIx xs.length xs.length hi - HT.sIx xs.length 0 lo)) (Heap.get?_push_size _ rfl)), rfl, q2 hw _ _ (I.hok.fresh (Nat.le_refl _)) rfl⟩
theorem call_tupF : CallR X (.type "tuple") (fun xs H Q => ∃ p ys, xs = [.ref p] ∧ ((SqL X.K H p ys ∧ ∀ (l : Addr) (o : Obj), H l = none → o.dict = none → Q (.ref l) (upd H l (.frz o (.tup ys)))) ∨ (SqT X.K H p ys ∧ Q (.ref p) H))) := by
  intro pins s σ H xs us Q I r ⟨p, ys, ex, h⟩
  subst ex
  obtain ⟨u, rfl, rx⟩ := vals1 r
  cases rx
  rcases h with ⟨hq, q⟩ | ⟨hq, q⟩
  · obtain ⟨its, r', pl, hz⟩ := I.list hq
    have hlen := r'.length
    refine call_tuple_list pl.isList (fun h' kp => ?_) (by simp only [List.size_toArray] <;> omega)
    have I1 : Inv X pins σ H { s with heap := h' } := I.kept (t' := s.toks) kp
    exact ⟨.ref h'.objs.size, _, I1.laid (t' := s.toks) (fun b o e => Heap.get?_push_of_some _ e) (Nat.le_refl _) (frz_ok hz r' (Heap.get?_push_size _ rfl)), rfl, q _ _ (I1.hok.fresh (Nat.le_refl _)) rfl⟩
  · obtain ⟨its, r', pl, hz⟩ := I.tuple hq
    exact call_tuple_same pl ⟨.ref p, H, I, rfl, q⟩
theorem op_repF : OpR X (binaryOp .Mult) (fun x y H Q => ∃ l k xs, x = .ref l ∧ y = .int k ∧ SqT X.K H l xs ∧ xs ≠ [] ∧ 2 ≤ k ∧ k ≤ 1000 ∧ xs.length ≤ 1000 ∧ ∀ (p : Addr) (o : Obj), H p = none → o.dict = none → Q (.ref p) (upd H p (.frz o (.tup (List.replicate k.toNat xs).flatten)))) := by
  intro pins s σ H x y v u Q I rx ry ⟨l, k, xs, ex, ey, hT, hne, h1, h2, hz, q⟩
  subst ex
  subst ey
  cases rx
  obtain ⟨t, rfl⟩ := ry
  obtain ⟨its, r, ⟨⟨cls, dd, data, sl⟩, ho, hc, n, hd⟩, hs⟩ := I.tuple hT
  simp only at hc hd
  subst hc hd
  have e0 : its.length = xs.length := r.length.symm
  have e1 : its.toArray.size = xs.length := by simp [e0]
  have e2 : its.toArray.isEmpty = false := by
    cases its with
    | nil => exact absurd (List.eq_nil_of_length_eq_zero e0.symm) hne
    | cons a b => rfl
  have e3 : k.toNat * xs.length ≤ 1000 * 1000 := Nat.mul_le_mul (by omega) hz
  have e4 : ((its.toArray.size : Nat) : Int) * k ≤ 1000000 := by
    rw [e1]
    have : ((xs.length : Nat) : Int) * k ≤ 1000 * k := Int.mul_le_mul_of_nonneg_right (by omega) (by omega)
    omega
  have e5 : (List.replicate k.toNat its).flatten.length ≤ sizeLine := by rw [PyProof.Rows.lm_len_rep_flat, e0, sizeLine_eq]; omega
  have e6 : (List.replicate k.toNat xs).flatten.length ≤ sizeLine := by rw [PyProof.Rows.lm_len_rep_flat, sizeLine_eq]; omega
  have c0 : (decide (k < -(2 ^ 63)) || decide (k ≥ 2 ^ 63)) = false := Bool.or_eq_false_iff.mpr ⟨decide_eq_false (by omega), decide_eq_false (by omega)⟩
  have c1 : (its.toArray.isEmpty || k == 1) = false := Bool.or_eq_false_iff.mpr ⟨e2, beq_eq_false_iff_ne.mpr (by omega)⟩
  have c2 : (decide (k ≤ 0) || its.toArray.isEmpty) = false := Bool.or_eq_false_iff.mpr ⟨decide_eq_false (by omega), e2⟩
  have c4 : Builtin.Tuple.tupleTooMany (((its.toArray.size : Nat) : Int) * k) = false := by
    unfold Builtin.Tuple.tupleTooMany
    rw [sizeLine_eq]
    exact decide_eq_false (by omega)
  refine wpAny_binaryOp_repeat_ref (T := "tuple") (U := "int") (by decide) ⟨_, ho, rfl⟩ (fun s' => typeIs_int s' k t) noFill_tuple_mul F.fills_int_mul F.slot_int_rmul repeat_tuple F.slot_int_index.lookup ?_
  refine call_meets F.slot_int_rmul (typeIs_int s k t) F.entry_int_rmul (F.args_int_rmul_2 _ _) (int_rmul_tuple k t l its.toArray n dd sl) ⟨ho, rfl, ⟨_, ho, rfl⟩, ?_⟩
  refine call_meets F.slot_tuple_mul ⟨_, ho, rfl⟩ F.entry_tuple_mul (F.args_tuple_mul_2 _ _) (tuple_mulW l its.toArray n dd sl k t c0 c1 c2 (by omega) c4 (by rw [size_rep, List.size_toArray]; exact e5)) ⟨ho, ?_⟩
  rw [size_rep]
  exact ⟨.ref s.heap.objs.size, _, I.laid (t' := s.toks) (fun b ob q => Heap.get?_push_of_some _ q) (Nat.le_refl _) (frz_ok e6 (r.rep k.toNat) (Heap.get?_push_size _ rfl)), rfl, q _ _ (I.hok.fresh (Nat.le_refl _)) rfl⟩
theorem op_mulS : OpR X (binaryOp .Mult) (fun x y H Q => ∃ z k, x = .str z ∧ y = .int k ∧ (0 ≤ k ∧ k < 2 ^ 31 ∧ z.length * k.toNat ≤ line) ∧ Q (.str (Txt.mul z k)) H) := by
  intro pins s σ H x y v u Q I rx ry ⟨z, k, ex, ey, ⟨h1, h2, hz⟩, q⟩
  subst ex
  subst ey
  obtain ⟨t, rfl⟩ := rx
  obtain ⟨t', rfl⟩ := ry
  refine SB.mul ⟨?_, fun a b => ?_, fun a b => ?_⟩ fun t2 k2 => ⟨.str _, H, I.tok k2, ⟨_, rfl⟩, q⟩
  · rw [Bool.or_eq_false_iff]; exact ⟨decide_eq_false (by omega), decide_eq_false (by omega)⟩
  · have q1 : (2 ^ 63 - 1 : Int) / 2 ^ 31 ≤ (2 ^ 63 - 1) / k := by
      refine Int.le_ediv_of_mul_le (by omega) ?_
      have : (2 ^ 63 - 1 : Int) / 2 ^ 31 * k ≤ (2 ^ 63 - 1 : Int) / 2 ^ 31 * 2 ^ 31 := Int.mul_le_mul_of_nonneg_left (by omega) (by decide)
      have q3 : (2 ^ 63 - 1 : Int) / 2 ^ 31 * 2 ^ 31 ≤ 2 ^ 63 - 1 := by decide
      omega
    have q2 : z.length * 1 ≤ z.length * k.toNat := Nat.mul_le_mul_left _ (by omega)
    have q4 : (16777216 : Int) ≤ (2 ^ 63 - 1 : Int) / 2 ^ 31 := by decide
    have q5 : z.length ≤ 16777216 := by have := hz; unfold line at this; omega
    omega
  · refine decide_eq_false ?_
    have : z.length * k.toNat ≤ 16777216 := hz
    rw [sizeLine_eq]
    omega
end
/-! ### the plain operations met -/
section
variable {P : Pm} {X : Cx} {n : Nat} {W : Wd} {wx : WY} {Q : VK} {m : Mem} {H : Hp} {fz : Bool} {x y : V} {A B : D}
abbrev GoesTo (X : Cx) (f : Value → Value → Sem Value) (x y : V) (H : Hp) (Q : VK) : Prop := ∃ r, OpR X f r ∧ r x y H Q
def bopOf : Bop → Operator
  | .add => .Add | .sub => .Sub | .mul => .Mult | .fdiv => .FloorDiv | .mod => .Mod | .pow => .Pow | .shl => .LShift | .shr => .RShift | .band => .BitAnd | .bor => .BitOr
theorem go_catT (fx : Fx P n X) (S : Sim P W m H) {ds es : List D} (ha : VR P W H (.tuple ds) x) (hb : VR P W H (.tuple es) y) (hl : ds.length + es.length ≤ line) (h : Out P (VD P) W wx (.ok (.tuple (ds ++ es)) m) Q) : GoesTo X (binaryOp .Add) x y H Q := by
  obtain ⟨p, xs, rfl, a1, a2⟩ := ha
  obtain ⟨q, ys, rfl, b1, b2⟩ := hb
  refine ⟨_, op_catF, p, q, xs, ys, rfl, rfl, by rw [fx.K]; exact (a1.up S.sub).sq, by rw [fx.K]; exact (b1.up S.sub).sq, by rw [a2.length, b2.length]; exact hl, fun e => ?_, fun e e' => ?_, fun e e' => h.tup S (a2.app b2)⟩
  · have z := a2.nil_iff.mp e
    subst z
    exact h.val S (.tup b1 b2)
  · have z := b2.nil_iff.mp e'
    subst z
    rw [List.append_nil] at h
    exact h.val S (.tup a1 a2)
theorem go_bin (fx : Fx P n X) (S : Sim P W m H) (o : Bop) (ha : VR P W H A x) (hb : VR P W H B y) (h : Out P (VD P) W wx (bopR fz o A B m) Q) : GoesTo X (binaryOp (bopOf o)) x y H Q := by
  cases o with
  | add =>
    cases A <;> cases B <;> first | exact h.elim | skip
    case int.int i j => cases ha; cases hb; exact ⟨_, op_add, i, j, rfl, rfl, h.val S (.int _)⟩
    case str.str a b => cases ha; cases hb; have h := h.guard; exact ⟨_, op_add_str, a, b, rfl, rfl, h.1, h.2.val S (.str _)⟩
    case list.list a b =>
      obtain ⟨p, xs, rfl, a1, a2⟩ := ha
      obtain ⟨q, ys, rfl, b1, b2⟩ := hb
      have h := h.guard
      exact ⟨_, op_catR, p, q, xs, ys, rfl, rfl, a1, b1, by rw [a2.length, b2.length]; exact h.1, (h.2.new S (a2.app b2)).2⟩
    case tuple.tuple a b => have h := h.guard; exact go_catT fx S ha hb h.1 h.2
  | sub =>
    cases A <;> cases B <;> first | exact h.elim | skip
    case int.int i j => cases ha; cases hb; exact ⟨_, op_sub, i, j, rfl, rfl, h.val S (.int _)⟩
  | mul =>
    cases A <;> cases B <;> first | exact h.elim | skip
    case int.int i j => cases ha; cases hb; have h := h.guard; exact ⟨_, op_mul, i, j, rfl, rfl, h.1, h.2.val S (.int _)⟩
    case list.int a k =>
      obtain ⟨p, xs, rfl, a1, a2⟩ := ha
      cases hb
      have h := h.guard
      exact ⟨_, op_repR, p, k, xs, rfl, rfl, a1, h.1.1, h.1.2.1, by rw [a2.length]; exact h.1.2.2, (h.2.new S (a2.rep _)).2⟩
    case tuple.int a k =>
      obtain ⟨p, xs, rfl, a1, a2⟩ := ha
      cases hb
      have h := h.guard
      exact ⟨_, op_repF, p, k, xs, rfl, rfl, by rw [fx.K]; exact (a1.up S.sub).sq, fun e => h.1.1 (a2.nil_iff.mp e), h.1.2.1, h.1.2.2.1, by rw [a2.length]; exact h.1.2.2.2, h.2.tup S (a2.rep _)⟩
    case str.int a k => cases ha; cases hb; have h := h.guard; exact ⟨_, op_mulS, a, k, rfl, rfl, h.1, h.2.val S (.str _)⟩
  | fdiv =>
    cases A <;> cases B <;> first | exact h.elim | skip
    case int.int i j => cases ha; cases hb; have h := h.guard; exact ⟨_, op_fdiv, i, j, rfl, rfl, h.1, h.2.val S (.int _)⟩
  | mod =>
    cases A <;> cases B <;> first | exact h.elim | skip
    case int.int i j => cases ha; cases hb; have h := h.guard; exact ⟨_, op_mod, i, j, rfl, rfl, h.1, h.2.val S (.int _)⟩
  | pow =>
    cases A <;> cases B <;> first | exact h.elim | skip
    case int.int i j => cases ha; cases hb; have h := h.guard; exact ⟨_, op_pow, i, j, rfl, rfl, h.1, h.2.val S (.int _)⟩
  | shl =>
    cases A <;> cases B <;> first | exact h.elim | skip
    case int.int i j => cases ha; cases hb; have h := h.guard; exact ⟨_, op_shl, i, j, rfl, rfl, h.1, h.2.val S (.int _)⟩
  | shr =>
    cases A <;> cases B <;> first | exact h.elim | skip
    case int.int i j => cases ha; cases hb; have h := h.guard; exact ⟨_, op_shr, i, j, rfl, rfl, h.1, h.2.val S (.int _)⟩
  | band =>
    cases A <;> cases B <;> first | exact h.elim | skip
    case int.int i j => cases ha; cases hb; exact ⟨_, op_and, i, j, rfl, rfl, h.val S (.int _)⟩
  | bor =>
    cases A <;> cases B <;> first | exact h.elim | skip
    case int.int i j => cases ha; cases hb; exact ⟨_, op_or, i, j, rfl, rfl, h.val S (.int _)⟩
/-- in place, ints alone -/
theorem go_aug (fx : Fx P n X) (S : Sim P W m H) (o : Bop) (ho : augOk o = true) {i j : Int} (h : Out P (VD P) W wx (bopR true o (.int i) (.int j) m) Q) : GoesTo X (inplaceOp (bopOf o)) (.int i) (.int j) H Q := by
  cases o with
  | add => exact ⟨_, iop_add, i, j, rfl, rfl, h.val S (.int _)⟩
  | sub => exact ⟨_, iop_sub, i, j, rfl, rfl, h.val S (.int _)⟩
  | mul => have h := h.guard; exact ⟨_, iop_mul, i, j, rfl, rfl, h.1, h.2.val S (.int _)⟩
  | fdiv => have h := h.guard; exact ⟨_, iop_fdiv, i, j, rfl, rfl, h.1, h.2.val S (.int _)⟩
  | mod => have h := h.guard; exact ⟨_, iop_mod, i, j, rfl, rfl, h.1, h.2.val S (.int _)⟩
  | pow => cases ho
  | shl => have h := h.guard; exact ⟨_, iop_shl, i, j, rfl, rfl, h.1, h.2.val S (.int _)⟩
  | shr => have h := h.guard; exact ⟨_, iop_shr, i, j, rfl, rfl, h.1, h.2.val S (.int _)⟩
  | band => exact ⟨_, iop_and, i, j, rfl, rfl, h.val S (.int _)⟩
  | bor => exact ⟨_, iop_or, i, j, rfl, rfl, h.val S (.int _)⟩
def copOf : Cop → CmpOp
  | .eq => .Eq | .ne => .NotEq | .lt => .Lt | .le => .LtE | .gt => .Gt | .ge => .GtE | .isin => .In | .notin => .NotIn | .is => .Is | .isnot => .IsNot
abbrev RB : Wd → Bool → Bool → Prop := fun _ a b => a = b
theorem ordOk_iff {x y : D} (h : ordOk x y = true) : PySem.W.alike x y = true ∧ sh x = true ∧ sh y = true ∧ x ≠ .none := by
  unfold ordOk at h
  simp only [Bool.and_eq_true] at h
  refine ⟨h.1.1.1, h.1.1.2, h.1.2, ?_⟩
  rintro rfl
  exact absurd h.2 (by decide)
theorem alike_sym {x y : D} (h : ordOk x y = true) : True := True.intro
/-- what a dict holds -/
def DR (P : Pm) (W : Wd) (H : Hp) (kvs : Option (List (KeyD × D))) (y : V) : Prop := ∀ k, kvs = some k → ∃ a ws, y = .ref a ∧ H a = some (.dK ws) ∧ KVD P W k ws
theorem Sim.dr (S : Sim P W m H) {d : D} (h : VD P W d y) : DR P W H (dictOf m d) y := fun k e => by
  unfold dictOf at e
  split at e
  · rename_i i hi
    split at e
    · rename_i kvs hk
      cases e
      obtain ⟨a, u, rfl, _, h1, h2⟩ := S.atLoc h hi hk
      cases u <;> first | exact h2.elim | exact ⟨_, _, rfl, h1, h2⟩
    · cases e
  · cases e
theorem keyOf_v {d : D} {k : KeyD} (e : keyOf d = some k) (h : VR P W H d x) : x = kV k := by
  cases d <;> first | (cases e; done) | (cases e; exact h)
theorem KVD.get {κ : Type} [DecidableEq κ] {k : κ} : ∀ {kvs : List (κ × D)} {ws : List (κ × V)}, KVD P W kvs ws → (getK kvs k = none ∧ valV ws k = none) ∨ ∃ d v, getK kvs k = some d ∧ valV ws k = some v ∧ VD P W d v
  | _, _, .nil => .inl ⟨rfl, rfl⟩
  | (k1, d) :: r, (k2, v) :: r2, .cons h t => by
    obtain ⟨e, h⟩ := h
    simp only at e h
    subst e
    by_cases q : k1 = k
    · exact .inr ⟨d, v, by simp [getK, q], by simp [valV, q], h⟩
    · have := KVD.get (k := k) t
      simpa [getK, valV, List.find?_cons, q] using this
theorem KVD.any {κ : Type} [DecidableEq κ] {k : κ} : ∀ {kvs : List (κ × D)} {ws : List (κ × V)}, KVD P W kvs ws → (kvs.any fun p => decide (p.1 = k)) = (ws.any fun p => decide (p.1 = k))
  | _, _, .nil => rfl
  | (k1, d) :: r, (k2, v) :: r2, .cons h t => by
    obtain ⟨e, h⟩ := h
    simp only at e
    subst e
    simp only [List.any_cons, KVD.any t]
theorem KVD.app {κ : Type} {a b : List (κ × D)} {c d : List (κ × V)} (h : KVD P W a c) (g : KVD P W b d) : KVD P W (a ++ b) (c ++ d) := by
  induction h with
  | nil => exact g
  | cons x _ ih => exact .cons x ih
theorem KVD.map {κ : Type} [DecidableEq κ] {k : κ} {d : D} {v : V} (r : VD P W d v) {kvs : List (κ × D)} {ws : List (κ × V)} (h : KVD P W kvs ws) : KVD P W (kvs.map (fun p => if p.1 = k then (p.1, d) else p)) (ws.map (fun p => if p.1 = k then (p.1, v) else p)) := by
  induction h with
  | nil => exact .nil
  | @cons a b _ _ x _ ih =>
    refine .cons ?_ ih
    obtain ⟨e, x⟩ := x
    simp only
    rw [e]
    split
    · exact ⟨rfl, r⟩
    · exact ⟨e, x⟩
theorem KVD.put {κ : Type} [DecidableEq κ] {k : κ} {d : D} {v : V} (r : VD P W d v) {kvs : List (κ × D)} {ws : List (κ × V)} (h : KVD P W kvs ws) : KVD P W (setK kvs k d) (L2.putK ws k v) := by
  unfold setK L2.putK
  rw [h.any (k := k)]
  split
  · exact h.map r
  · exact h.app (.cons ⟨rfl, r⟩ .nil)
theorem KVD.len {κ : Type} {kvs : List (κ × D)} {ws : List (κ × V)} (h : KVD P W kvs ws) : ws.length = kvs.length := by
  induction h with
  | nil => rfl
  | cons _ _ ih => simp [ih]
theorem DR.get {kvs : List (KeyD × D)} {k : KeyD} (h : DR P W H (some kvs) y) : ∃ a o, y = .ref a ∧ DGet H a (kV k) o ∧ ((getK kvs k = none ∧ o = none) ∨ ∃ d v, getK kvs k = some d ∧ o = some v ∧ VD P W d v) := by
  obtain ⟨a, ws, rfl, h1, h2⟩ := h kvs rfl
  refine ⟨a, _, rfl, DGet.k (k := k) h1, ?_⟩
  rcases h2.get (k := k) with ⟨e1, e2⟩ | ⟨d, v, e1, e2, r⟩
  · exact .inl ⟨e1, e2⟩
  · exact .inr ⟨d, v, e1, e2, r⟩
theorem op_inDict (hu : X.A.units + 1 < cLine) : OpR X (compareOp .In) (fun y x H Q => ∃ a o, x = .ref a ∧ DGet H a y o ∧ Q (.bl o.isSome) H) := by
  intro pins s σ H y x u v Q I ry rx ⟨a, o, e, g, q⟩
  subst e
  cases rx
  exact d_in hu I g ry fun s' I' => ⟨.bl o.isSome, H, I', rfl, q⟩
theorem op_ninDict (hu : X.A.units + 1 < cLine) : OpR X (compareOp .NotIn) (fun y x H Q => ∃ a o, x = .ref a ∧ DGet H a y o ∧ Q (.bl (!o.isSome)) H) := by
  intro pins s σ H y x u v Q I ry rx ⟨a, o, e, g, q⟩
  subst e
  cases rx
  exact d_notIn hu I g ry fun s' I' => ⟨.bl (!o.isSome), H, I', rfl, q⟩
/-- what a comparison's answer is wanted for -/
abbrev BQ (H : Hp) (Q : Bool → Hp → Prop) : VK := fun z H' => ∃ b, z = .bl b ∧ Q b H'
theorem go_in (fx : Fx P n X) (S : Sim P W m H) {kvs : Option (List (KeyD × D))} {Q : Bool → Hp → Prop} (ha : VR P W H A x) (hb : VR P W H B y) (hd : DR P W H kvs y) (h : Out P RB W wx (inR A B kvs m) Q) :
    GoesTo X (compareOp .In) x y H (fun z H' => ∃ b, z = .bl b ∧ Q b H') := by
  have un := fx.un
  have dpA : ∀ {d : D} {v : V}, VR P W H d v → sh d = true → Dp X.K H v d := fun h1 h2 => by rw [fx.K]; exact h1.dp S.sub (sh_lay h2)
  have pad : ∀ k, Out P RB W wx (.ok k m) Q → (fun z H' => ∃ b, z = V.bl b ∧ Q b H') (.bl k) H := fun k h => ⟨k, rfl, h.val S rfl⟩
  unfold inR at h
  cases B <;> first | exact h.elim | skip
  case list ds => have h := h.guard; exact ⟨_, op_inD (by omega), A, ds, dpA ha h.1.1, dpA hb h.1.2, h.1.1, h.1.2, pad _ h.2⟩
  case tuple ds => have h := h.guard; exact ⟨_, op_inT (by omega), A, ds, dpA ha h.1.1, dpA hb h.1.2, h.1.1, h.1.2, pad _ h.2⟩
  case str z =>
    cases A <;> first | exact h.elim | skip
    cases ha; cases hb
    exact ⟨_, op_in_str, _, _, rfl, rfl, pad _ h⟩
  case dict =>
    simp only at h
    cases kvs with
    | none => exact h.elim
    | some kvs =>
      cases ek : keyOf A with
      | none => rw [ek] at h; exact h.elim
      | some k =>
        rw [ek] at h
        obtain ⟨a, o, rfl, g, z⟩ := hd.get (k := k)
        refine ⟨_, op_inDict (by omega), a, o, rfl, by rw [keyOf_v ek ha]; exact g, ?_⟩
        rcases z with ⟨e1, rfl⟩ | ⟨d, v, e1, rfl, _⟩
        · simp only [e1] at h; exact pad _ h
        · simp only [e1] at h; exact pad _ h
theorem go_nin (fx : Fx P n X) (S : Sim P W m H) {kvs : Option (List (KeyD × D))} {Q : Bool → Hp → Prop} (ha : VR P W H A x) (hb : VR P W H B y) (hd : DR P W H kvs y) (h : Out P RB W wx ((inR A B kvs m).bind fun r m => .ok (!r) m) Q) :
    GoesTo X (compareOp .NotIn) x y H (fun z H' => ∃ b, z = .bl b ∧ Q b H') := by
  have un := fx.un
  have dpA : ∀ {d : D} {v : V}, VR P W H d v → sh d = true → Dp X.K H v d := fun h1 h2 => by rw [fx.K]; exact h1.dp S.sub (sh_lay h2)
  have pad : ∀ k, Out P RB W wx (.ok k m) Q → (fun z H' => ∃ b, z = V.bl b ∧ Q b H') (.bl k) H := fun k h => ⟨k, rfl, h.val S rfl⟩
  have gd : ∀ {p : Prop} [Decidable p] {b : Bool}, Out P RB W wx ((guard p (.ok b m : R Bool)).bind fun r m => .ok (!r) m) Q → p ∧ Out P RB W wx (.ok (!b) m) Q := fun {p _ b} h => by
    unfold guard at h
    split at h
    · exact ⟨‹_›, h⟩
    · exact h.elim
  unfold inR at h
  cases B <;> first | exact h.elim | skip
  case list ds => have h := gd h; exact ⟨_, op_notInD (by omega), A, ds, dpA ha h.1.1, dpA hb h.1.2, h.1.1, h.1.2, pad _ h.2⟩
  case tuple ds => have h := gd h; exact ⟨_, op_notInT (by omega), A, ds, dpA ha h.1.1, dpA hb h.1.2, h.1.1, h.1.2, pad _ h.2⟩
  case str z =>
    cases A <;> first | exact h.elim | skip
    cases ha; cases hb
    exact ⟨_, op_notin_str, _, _, rfl, rfl, pad _ h⟩
  case dict =>
    simp only at h
    cases kvs with
    | none => exact h.elim
    | some kvs =>
      cases ek : keyOf A with
      | none => rw [ek] at h; exact h.elim
      | some k =>
        rw [ek] at h
        obtain ⟨a, o, rfl, g, z⟩ := hd.get (k := k)
        refine ⟨_, op_ninDict (by omega), a, o, rfl, by rw [keyOf_v ek ha]; exact g, ?_⟩
        rcases z with ⟨e1, rfl⟩ | ⟨d, v, e1, rfl, _⟩
        · simp only [e1] at h; exact pad _ h
        · simp only [e1] at h; exact pad _ h
theorem go_cmp (fx : Fx P n X) (S : Sim P W m H) (o : Cop) {kvs : Option (List (KeyD × D))} {Q : Bool → Hp → Prop} (ha : VR P W H A x) (hb : VR P W H B y) (hd : DR P W H kvs y) (h : Out P RB W wx (copR o A B kvs m) Q) :
    GoesTo X (compareOp (copOf o)) x y H (fun z H' => ∃ b, z = .bl b ∧ Q b H') := by
  have un := fx.un
  have dpA : ∀ {d : D} {v : V}, VR P W H d v → sh d = true → Dp X.K H v d := fun h1 h2 => by rw [fx.K]; exact h1.dp S.sub (sh_lay h2)
  have pad : ∀ k, Out P RB W wx (.ok k m) Q → (fun z H' => ∃ b, z = V.bl b ∧ Q b H') (.bl k) H := fun k h => ⟨k, rfl, h.val S rfl⟩
  have ord : ∀ {d e : D} {r : R Bool}, Out P RB W wx (guard (ordOk d e = true) r) Q → PySem.W.alike d e = true ∧ sh d = true ∧ sh e = true ∧ d ≠ .none ∧ Out P RB W wx r Q := fun h => by
    have h := h.guard
    obtain ⟨a, b, c, d⟩ := ordOk_iff h.1
    exact ⟨a, b, c, d, h.2⟩
  cases o with
  | eq => have h := h.guard; exact ⟨_, op_eqD (by omega), A, B, dpA ha h.1.1, dpA hb h.1.2, h.1.1, h.1.2, pad _ h.2⟩
  | ne => have h := h.guard; exact ⟨_, op_neD (by omega), A, B, dpA ha h.1.1, dpA hb h.1.2, h.1.1, h.1.2, pad _ h.2⟩
  | lt => obtain ⟨k1, k2, k3, k4, h⟩ := ord h; exact ⟨_, op_ltO (by omega), A, B, dpA ha k2, dpA hb k3, k1, k4, k2, pad _ h⟩
  | gt => obtain ⟨k1, k2, k3, k4, h⟩ := ord h; exact ⟨_, op_gtO (by omega), A, B, dpA ha k2, dpA hb k3, k1, k4, k2, pad _ h⟩
  | le => obtain ⟨k1, k2, k3, k4, h⟩ := ord h; exact ⟨_, op_leO (by omega), A, B, dpA ha k2, dpA hb k3, k1, k4, k2, pad _ h⟩
  | ge => obtain ⟨k1, k2, k3, k4, h⟩ := ord h; exact ⟨_, op_geO (by omega), A, B, dpA ha k2, dpA hb k3, k1, k4, k2, pad _ h⟩
  | isin => exact go_in fx S ha hb hd h
  | notin => exact go_nin fx S ha hb hd h
  | is =>
    cases B <;> first | exact h.elim | skip
    case none =>
      cases hb
      refine ⟨_, op_isN, rfl, ?_⟩
      cases A with
      | none => cases ha; exact pad _ h
      | bool => cases ha; exact pad _ h
      | int => cases ha; exact pad _ h
      | str => cases ha; exact pad _ h
      | list => obtain ⟨p, xs, rfl, _⟩ := ha; exact pad _ h
      | tuple => obtain ⟨p, xs, rfl, _⟩ := ha; exact pad _ h
      | dict => obtain ⟨p, rfl⟩ := ha; exact pad _ h
    case bool c =>
      cases hb
      refine ⟨_, op_isB, c, rfl, ?_⟩
      cases A with
      | none => cases ha; exact pad _ h
      | bool d =>
        cases ha
        have e : (c == d) = decide (V.bl d = V.bl c) := by cases c <;> cases d <;> decide
        rw [← e]
        exact pad _ h
      | int => cases ha; exact pad _ h
      | str => cases ha; exact pad _ h
      | list => obtain ⟨p, xs, rfl, _⟩ := ha; exact pad _ h
      | tuple => obtain ⟨p, xs, rfl, _⟩ := ha; exact pad _ h
      | dict => obtain ⟨p, rfl⟩ := ha; exact pad _ h
  | isnot =>
    cases B <;> first | exact h.elim | skip
    case none =>
      cases hb
      refine ⟨_, op_notN, rfl, ?_⟩
      cases A with
      | none => cases ha; exact pad _ h
      | bool => cases ha; exact pad _ h
      | int => cases ha; exact pad _ h
      | str => cases ha; exact pad _ h
      | list => obtain ⟨p, xs, rfl, _⟩ := ha; exact pad _ h
      | tuple => obtain ⟨p, xs, rfl, _⟩ := ha; exact pad _ h
      | dict => obtain ⟨p, rfl⟩ := ha; exact pad _ h
    case bool c =>
      cases hb
      refine ⟨_, op_notB, c, rfl, ?_⟩
      cases A with
      | none => cases ha; exact pad _ h
      | bool d =>
        cases ha
        have e : (c == d) = decide (V.bl d = V.bl c) := by cases c <;> cases d <;> decide
        rw [← e]
        exact pad _ h
      | int => cases ha; exact pad _ h
      | str => cases ha; exact pad _ h
      | list => obtain ⟨p, xs, rfl, _⟩ := ha; exact pad _ h
      | tuple => obtain ⟨p, xs, rfl, _⟩ := ha; exact pad _ h
      | dict => obtain ⟨p, rfl⟩ := ha; exact pad _ h
/-! ### truth, kinds, items, parts -/
theorem go_truth (fx : Fx P n X) (S : Sim P W m H) {Q : Bool → Hp → Prop} (ha : VR P W H A x) (h : Out P RB W wx (truthR A m) Q) : ∃ k, TruV X.K x H k ∧ Q k H ∧ truthR A m = .ok k m := by
  cases A <;> first | exact h.elim | skip
  case none => cases ha; exact ⟨false, rfl, h.val S rfl, rfl⟩
  case bool b => cases ha; exact ⟨b, rfl, h.val S rfl, rfl⟩
  case int i => cases ha; exact ⟨i != 0, rfl, h.val S rfl, rfl⟩
  case str z => cases ha; have h := h.guard; exact ⟨_, ⟨h.1, rfl⟩, h.2.val S rfl, guard_pos _ h.1⟩
  case list ds => obtain ⟨p, xs, rfl, a1, a2⟩ := ha; exact ⟨!ds.isEmpty, .inl ⟨xs, .inl a1, by rw [a2.empty]⟩, h.val S rfl, rfl⟩
  case tuple ds => obtain ⟨p, xs, rfl, a1, a2⟩ := ha; exact ⟨!ds.isEmpty, .inr (.inl ⟨xs, by rw [fx.K]; exact (a1.up S.sub).sq, by rw [a2.empty]⟩), h.val S rfl, rfl⟩
theorem atI_vd {ds : List D} {xs : List V} {i : Int} {d : D} (r : VDs P W ds xs) (e : atI ds i = some d) : ∃ v, L2.atI xs i = some v ∧ VD P W d v := by
  unfold atI L2.atI at e
  unfold L2.atI
  rw [r.length]
  cases q : L2.ixN ds.length i with
  | none => rw [q] at e; cases e
  | some j => rw [q] at e; exact r.get e
theorem ix_dict (hu : X.A.units + 1 < cLine) : IxR X (fun x y H Q => ∃ a v, x = .ref a ∧ DGet H a y (some v) ∧ Q v H) := by
  intro value slice pins s σ H x y v u Q I rx ry ⟨a, w, e, g, q⟩ hs
  subst e
  cases rx
  exact tail_any (dict_typeIs I g) PySem.F.slot_dict_getitem.lookup (d_getItem hu I g ry fun w' s3 I3 rw' => ⟨w, H, I3, rw', q⟩) hs
theorem go_ix (fx : Fx P n X) (S : Sim P W m H) {kvs : Option (List (KeyD × D))} (ha : VR P W H A x) (hb : VR P W H B y) (hd : DR P W H kvs x) (h : Out P (VD P) W wx (ixR A B kvs m) Q) : ∃ r, IxR X r ∧ r x y H Q := by
  have un := fx.un
  cases A <;> first | exact h.elim | skip
  case str z =>
    cases B <;> first | exact h.elim | skip
    case int i =>
      cases ha; cases hb
      have h := h.guard
      obtain ⟨d, e, h2⟩ := h.2.opt
      cases q : atI z.cps.toList i with
      | none => rw [q] at e; cases e
      | some c => rw [q] at e; cases e; exact ⟨_, ix_str, z, i, c, rfl, rfl, h.1, q, h2.val S (.str _)⟩
  case list ds =>
    cases B <;> first | exact h.elim | skip
    case int i =>
      obtain ⟨p, xs, rfl, a1, a2⟩ := ha; cases hb
      obtain ⟨d, e, h2⟩ := h.opt
      obtain ⟨v, e2, r⟩ := atI_vd a2 e
      exact ⟨_, ix_list, p, xs, i, v, rfl, rfl, .inl a1, e2, h2.val S r⟩
  case tuple ds =>
    cases B <;> first | exact h.elim | skip
    case int i =>
      obtain ⟨p, xs, rfl, a1, a2⟩ := ha; cases hb
      obtain ⟨d, e, h2⟩ := h.opt
      obtain ⟨v, e2, r⟩ := atI_vd a2 e
      exact ⟨_, ix_tup, p, xs, i, v, rfl, rfl, by rw [fx.K]; exact (a1.up S.sub).sq, e2, h2.val S r⟩
  case dict q0 =>
    have h : Out P (VD P) W wx (dgR kvs B m) Q := by cases B <;> exact h
    unfold dgR at h
    cases kvs with
    | none => exact h.elim
    | some kvs =>
      cases ek : keyOf B with
      | none => rw [ek] at h; exact h.elim
      | some k =>
        rw [ek] at h
        obtain ⟨d, e, h2⟩ := h.opt
        obtain ⟨a, o, rfl, g, z⟩ := hd.get (k := k)
        rcases z with ⟨e1, rfl⟩ | ⟨d', v, e1, rfl, r⟩
        · rw [e1] at e; cases e
        · rw [e1] at e; cases e
          exact ⟨_, ix_dict (by omega), a, v, rfl, by rw [keyOf_v ek hb]; exact g, h2.val S r⟩
theorem cut_vd {ds : List D} {xs : List V} (r : VDs P W ds xs) (lo hi : Option Int) : VDs P W (cut ds lo hi) (cutV xs lo hi) := by
  unfold cut cutV
  rw [r.length]
  exact (r.drop _).take _
theorem cut_all {ds : List D} {lo hi : Option Int} (h : HT.sIx ds.length 0 lo = 0 ∧ HT.sIx ds.length ds.length hi = ds.length) : cut ds lo hi = ds := by
  unfold cut
  rw [h.1, h.2]
  simp
theorem go_sl (fx : Fx P n X) (S : Sim P W m H) {lo hi : Option Int} (ha : VR P W H A x) (h : Out P (VD P) W wx (slR fz A lo hi m) Q) : ∃ r, L2.SlR X r ∧ r x lo hi H Q := by
  cases A <;> first | exact h.elim | skip
  case str z => cases ha; have h := h.guard; exact ⟨_, sl_str, z, rfl, h.1, h.2.val S (.str _)⟩
  case list ds => obtain ⟨p, xs, rfl, a1, a2⟩ := ha; exact ⟨_, sl_list, p, xs, rfl, .inl a1, (h.new S (cut_vd a2 lo hi)).2⟩
  case tuple ds =>
    obtain ⟨p, xs, rfl, a1, a2⟩ := ha
    refine ⟨_, sl_tupF, p, xs, rfl, by rw [fx.K]; exact (a1.up S.sub).sq, fun hw => ?_, fun _ => h.tup S (cut_vd a2 lo hi)⟩
    have h : Out P (VD P) W wx (.ok (.tuple (cut ds lo hi)) m) Q := h
    rw [a2.length] at hw
    rw [cut_all hw] at h
    exact h.val S (.tup a1 a2)
end
end SS
end PT_SB
section PT_SC
set_option Elab.async false
set_option linter.all false
set_option maxRecDepth 100000
set_option maxHeartbeats 2000000
/-! Expressions. -/
namespace SS
open PySem PySem.Spec PyProof.Rows L2
structure Rels (P : Pm) (W : Wd) (sd : Env) (σ : L2.St) : Prop where
  len : sd.length = σ.length
  at_ : ∀ (i : Nat) (d : D), sd[i]? = some (some d) → ∃ v, σ[i]? = some (some v) ∧ VD P W d v
theorem Rels.up {P : Pm} {W W' : Wd} (l : Le W W') {sd : Env} {σ : L2.St} (r : Rels P W sd σ) : Rels P W' sd σ := ⟨r.len, fun i d e => let ⟨v, a, b⟩ := r.at_ i d e; ⟨v, a, b.up l⟩⟩
/-- readings -/
def tE (P : Pm) (F : Fns) (same : Nat) (wx : WX) (e : E) : TE := fun σ H Q => ∃ W M sd, Sim P W M H ∧ Rels P W sd σ ∧ Out P (VD P) W (fun c d H' => wx c d σ H') (evE F same e sd M) Q
def tT (P : Pm) (F : Fns) (same : Nat) (wx : WX) (e : E) : TT := fun σ H Q => ∃ W M sd, Sim P W M H ∧ Rels P W sd σ ∧ Out P RB W (fun c d H' => wx c d σ H') (evT F same e sd M) Q
def tEs (P : Pm) (F : Fns) (same : Nat) (wx : WX) (e : Es) : TA := fun σ H Q => ∃ W M sd, Sim P W M H ∧ Rels P W sd σ ∧ Out P (VDs P) W (fun c d H' => wx c d σ H') (evEs F same e sd M) Q
def ROI : Wd → Option Int → Option Int → Prop := fun _ a b => a = b
def tO (P : Pm) (F : Fns) (same : Nat) (wx : WX) (e : Oe) : TO := fun σ H Q => ∃ W M sd, Sim P W M H ∧ Rels P W sd σ ∧ Out P ROI W (fun c d H' => wx c d σ H') ((evO F same e sd M).bind optI) Q
theorem PE_imp {X : Cx} {e : Expr} {t t' : TE} (h : PE X e t) (k : ∀ σ H Q, t' σ H Q → t σ H Q) : PE X e t' := ⟨fun pins s σ H Q I q => h.run pins s σ H Q I (k _ _ _ q)⟩
theorem PT_imp {X : Cx} {e : Expr} {t t' : TT} (h : PT X e t) (k : ∀ σ H Q, t' σ H Q → t σ H Q) : PT X e t' := ⟨fun pins s σ H Q I q => h.run pins s σ H Q I (k _ _ _ q)⟩
theorem PW_imp {X : Cx} {e : Expr} {t t' : TT} (h : PW X e t) (k : ∀ σ H Q, t' σ H Q → t σ H Q) : PW X e t' := ⟨fun wh pins s σ H Q I q => h.run wh pins s σ H Q I (k _ _ _ q)⟩
theorem PA_imp {X : Cx} {e : List Expr} {t t' : TA} (h : PA X e t) (k : ∀ σ H Q, t' σ H Q → t σ H Q) : PA X e t' := ⟨fun pos pins s σ H Q I q => h.run pos pins s σ H Q I (k _ _ _ q)⟩
theorem PO_imp {X : Cx} {e : Option Expr} {t t' : TO} (h : PO X e t) (k : ∀ σ H Q, t' σ H Q → t σ H Q) : PO X e t' := ⟨fun pins s σ H Q I q => h.run pins s σ H Q I (k _ _ _ q)⟩
section
variable {P : Pm} {F : Fns} {same : Nat} {wx : WX} {X : Cx} {n : Nat} {W : Wd} {M : Mem} {sd : Env} {σ : L2.St} {H : Hp}
/-- first a, then what is behind it -/
theorem at_E {α β : Type} {rel : Wd → α → β → Prop} {Q : β → Hp → Prop} {Q' : VK} {a : E} {f : D → Mem → R α} (S : Sim P W M H) (Rl : Rels P W sd σ) (h : Out P rel W (fun c d H' => wx c d σ H') ((evE F same a sd M).bind f) Q)
    (k : ∀ W' d m' v H', Sim P W' m' H' → Rels P W' sd σ → Le W W' → VD P W' d v → Out P rel W' (fun c d H' => wx c d σ H') (f d m') Q → Q' v H') : tE P F same wx a σ H Q' :=
  ⟨W, M, sd, S, Rl, (h.bind (VD P)).imp fun v H' ⟨W', d, m', l, S', r, h'⟩ => k W' d m' v H' S' (Rl.up l) l r h'⟩
theorem at_Es {α β : Type} {rel : Wd → α → β → Prop} {Q : β → Hp → Prop} {Q' : List V → Hp → Prop} {a : Es} {f : List D → Mem → R α} (S : Sim P W M H) (Rl : Rels P W sd σ) (h : Out P rel W (fun c d H' => wx c d σ H') ((evEs F same a sd M).bind f) Q)
    (k : ∀ W' d m' v H', Sim P W' m' H' → Rels P W' sd σ → Le W W' → VDs P W' d v → Out P rel W' (fun c d H' => wx c d σ H') (f d m') Q → Q' v H') : tEs P F same wx a σ H Q' :=
  ⟨W, M, sd, S, Rl, (h.bind (VDs P)).imp fun v H' ⟨W', d, m', l, S', r, h'⟩ => k W' d m' v H' S' (Rl.up l) l r h'⟩
theorem at_T {α β : Type} {rel : Wd → α → β → Prop} {Q : β → Hp → Prop} {Q' : Bool → Hp → Prop} {a : E} {f : Bool → Mem → R α} (S : Sim P W M H) (Rl : Rels P W sd σ) (h : Out P rel W (fun c d H' => wx c d σ H') ((evT F same a sd M).bind f) Q)
    (k : ∀ W' d m' H', Sim P W' m' H' → Rels P W' sd σ → Le W W' → Out P rel W' (fun c d H' => wx c d σ H') (f d m') Q → Q' d H') : tT P F same wx a σ H Q' :=
  ⟨W, M, sd, S, Rl, (h.bind RB).imp fun v H' ⟨W', d, m', l, S', r, h'⟩ => by
    have r : d = v := r
    subst r
    exact k W' d m' H' S' (Rl.up l) l h'⟩
variable {a b c : E} {ea eb ec : Expr} {pos : Pos}
/-! ### names, constants -/
def constOf : K1 → Const → Bool
  | .non, .none => true
  | .bl b, .bool c => b == c
  | .int i, .int j => i == j
  | .str x, .str y => x == y
  | _, _ => false
theorem s_var {i : Nat} {x : Str} (hN : X.N[i]? = some x) (hv : Vis X.env.scope x) (hd : (x == ("__debug__" : Str)) = false) (hcd : (x == ("__classdict__" : Str)) = false) : PE X (.Name x pos) (tE P F same wx (.v i)) :=
  PE_imp (pe_var hN hv hd hcd) fun σ H Q ⟨W, M, sd, S, Rl, h⟩ => by
    simp only [evE] at h
    split at h
    · rename_i d e
      obtain ⟨v, e1, r⟩ := Rl.at_ i d e
      exact ⟨v, e1, h.val S r⟩
    · exact h.elim
theorem s_int {i : Int} {j : Nat} : PE X (.Constant (.int i) j pos) (tE P F same wx (.c (.int i))) := PE_imp pe_int fun σ H Q ⟨W, M, sd, S, Rl, h⟩ => h.val S (.int i)
theorem s_bl {i : Bool} {j : Nat} : PE X (.Constant (.bool i) j pos) (tE P F same wx (.c (.bl i))) := PE_imp pe_bl fun σ H Q ⟨W, M, sd, S, Rl, h⟩ => h.val S (.bl i)
theorem s_non {j : Nat} : PE X (.Constant .none j pos) (tE P F same wx (.c .non)) := PE_imp pe_non fun σ H Q ⟨W, M, sd, S, Rl, h⟩ => h.val S .non
theorem s_str {x : Str} {j : Nat} : PE X (.Constant (.str x) j pos) (tE P F same wx (.c (.str x))) := PE_imp pe_str fun σ H Q ⟨W, M, sd, S, Rl, h⟩ => h.val S (.str _)
theorem s_g {i : Nat} {x : Str} {d : D} {v : V} {u : Value} (hg : Gl X x) (hm : X.mg x = some u) (r : RelV v u) (hd : (x == ("__debug__" : Str)) = false) (rv : ∀ W, VD P W d v) : PE X (.Name x pos) (tE P F same wx (.g i d)) :=
  PE_imp (C8.pe_gc (v := v) hg ⟨u, hm, r⟩ hd) fun σ H Q ⟨W, M, sd, S, Rl, h⟩ => h.val S (rv W)
/-! ### lists of expressions -/
theorem s_nil : PA X [] (tEs P F same wx .nil) := PA_imp pa_nil fun σ H Q ⟨W, M, sd, S, Rl, h⟩ => h.val S .nil
theorem s_cons {es : List Expr} {as : Es} (ha : PE X ea (tE P F same wx a)) (hr : PA X es (tEs P F same wx as)) (hs : starEach (ea :: es) X.env = (false, eval ea X.env) :: starEach es X.env) : PA X (ea :: es) (tEs P F same wx (.cons a as)) :=
  PA_imp (pa_cons ha hr hs) fun σ H Q ⟨W, M, sd, S, Rl, h⟩ => by
    simp only [evEs] at h
    exact at_E S Rl h fun W1 d m1 v H1 S1 R1 _ r1 h1 => at_Es S1 R1 h1 fun W2 ds m2 vs H2 S2 R2 l r2 h2 => h2.val S2 (.cons (r1.up l) r2)
theorem s_tup {es : List Expr} {as : Es} {k : Nat} (h : PA X es (tEs P F same wx as)) : PE X (.Tuple es k pos) (tE P F same wx (.tup as)) :=
  PE_imp (pe_tupF h) fun σ H Q ⟨W, M, sd, S, Rl, h⟩ => by
    simp only [evE] at h
    exact at_Es S Rl h fun W1 d m1 v H1 S1 R1 _ r1 h1 => by
      have h1 := h1.guard
      exact ⟨by rw [r1.length]; exact h1.1, h1.2.tup S1 r1⟩
theorem s_lst {es : List Expr} {as : Es} {fz : Bool} (h : PA X es (tEs P F same wx as)) : PE X (.List es pos) (tE P F same wx (.lst fz as)) :=
  PE_imp (pe_lst h) fun σ H Q ⟨W, M, sd, S, Rl, h⟩ => by
    simp only [evE] at h
    exact at_Es S Rl h fun W1 d m1 v H1 S1 R1 _ r1 h1 => by
      have h1 := h1.new S1 r1
      exact ⟨by rw [r1.length]; exact h1.1, h1.2⟩
/-! ### operators -/
theorem op_goes {f : Value → Value → Sem Value} : OpR X f (fun x y H Q => GoesTo X f x y H Q) := fun pins s σ H x y v u Q I rx ry ⟨r, h, q⟩ => h pins s σ H x y v u Q I rx ry q
theorem s_bin {fz : Bool} (fx : Fx P n X) (o : Bop) (ha : PE X ea (tE P F same wx a)) (hb : PE X eb (tE P F same wx b)) : PE X (.BinOp ea (bopOf o) eb pos) (tE P F same wx (.bin fz o a b)) :=
  PE_imp (pe_op op_goes ha hb) fun σ H Q ⟨W, M, sd, S, Rl, h⟩ => by
    simp only [evE] at h
    exact at_E S Rl h fun W1 d m1 v H1 S1 R1 _ r1 h1 => at_E S1 R1 h1 fun W2 e m2 w H2 S2 R2 l r2 h2 => go_bin fx S2 o (S2.rd (r1.up l)) (S2.rd r2) h2
theorem s_neg (ha : PE X ea (tE P F same wx a)) : PE X (.UnaryOp .USub ea pos) (tE P F same wx (.neg a)) :=
  PE_imp (pe_un un_neg ha) fun σ H Q ⟨W, M, sd, S, Rl, h⟩ => by
    simp only [evE] at h
    exact at_E S Rl h fun W1 d m1 v H1 S1 R1 _ r1 h1 => by
      cases r1 <;> first | exact h1.elim | exact ⟨_, rfl, h1.val S1 (.int _)⟩
theorem s_nt (fx : Fx P n X) (ha : PE X ea (tE P F same wx a)) : PE X (.UnaryOp .Not ea pos) (tE P F same wx (.nt a)) :=
  PE_imp (pe_notT ha) fun σ H Q ⟨W, M, sd, S, Rl, h⟩ => by
    simp only [evE] at h
    exact at_E S Rl h fun W1 d m1 v H1 S1 R1 _ r1 h1 => by
      obtain ⟨k, t, q, _⟩ := go_truth fx S1 (S1.rd r1) (h1.bind RB)
      refine ⟨k, t, ?_⟩
      obtain ⟨W2, c, m2, l, S2, e, h2⟩ := q
      have e : c = k := e
      subst e
      exact h2.val S2 (.bl _)
theorem s_and (fx : Fx P n X) {rest : List Expr} (ha : PE X ea (tE P F same wx a)) (hb : PE X (.BoolOp .And (eb :: rest) pos) (tE P F same wx b)) : PE X (.BoolOp .And (ea :: eb :: rest) pos) (tE P F same wx (.an a b)) :=
  PE_imp (pe_andT ha hb) fun σ H Q ⟨W, M, sd, S, Rl, h⟩ => by
    simp only [evE] at h
    exact at_E S Rl h fun W1 d m1 v H1 S1 R1 _ r1 h1 => by
      obtain ⟨k, t, q, _⟩ := go_truth fx S1 (S1.rd r1) (h1.bind RB)
      refine ⟨k, t, ?_⟩
      obtain ⟨W2, c, m2, l, S2, e, h2⟩ := q
      have e : c = k := e
      subst e
      cases c with
      | true => exact ⟨W2, m2, sd, S2, R1.up l, h2⟩
      | false => exact h2.val S2 (r1.up l)
theorem s_or (fx : Fx P n X) {rest : List Expr} (ha : PE X ea (tE P F same wx a)) (hb : PE X (.BoolOp .Or (eb :: rest) pos) (tE P F same wx b)) : PE X (.BoolOp .Or (ea :: eb :: rest) pos) (tE P F same wx (.orr a b)) :=
  PE_imp (pe_orT ha hb) fun σ H Q ⟨W, M, sd, S, Rl, h⟩ => by
    simp only [evE] at h
    exact at_E S Rl h fun W1 d m1 v H1 S1 R1 _ r1 h1 => by
      obtain ⟨k, t, q, _⟩ := go_truth fx S1 (S1.rd r1) (h1.bind RB)
      refine ⟨k, t, ?_⟩
      obtain ⟨W2, c, m2, l, S2, e, h2⟩ := q
      have e : c = k := e
      subst e
      cases c with
      | false => exact ⟨W2, m2, sd, S2, R1.up l, h2⟩
      | true => exact h2.val S2 (r1.up l)
theorem s_one {op : BoolOp} (ha : PE X ea (tE P F same wx a)) : PE X (.BoolOp op [ea] pos) (tE P F same wx a) := pe_one ha
theorem s_ite (hc : PT X ec (tT P F same wx c)) (ha : PE X ea (tE P F same wx a)) (hb : PE X eb (tE P F same wx b)) : PE X (.IfExp ec ea eb pos) (tE P F same wx (.ite c a b)) :=
  PE_imp (pe_ifExp hc ha hb) fun σ H Q ⟨W, M, sd, S, Rl, h⟩ => by
    have h : Out P (VD P) W (fun c d H' => wx c d σ H') ((evT F same c sd M).bind fun k m => if k = true then evE F same a sd m else evE F same b sd m) Q := by
      simp only [evE] at h
      unfold evT
      rw [bind_assoc]
      exact h
    exact at_T S Rl h fun W1 k m1 H1 S1 R1 _ h1 => by
      cases k with
      | true => exact ⟨W1, m1, sd, S1, R1, h1⟩
      | false => exact ⟨W1, m1, sd, S1, R1, h1⟩
theorem s_cmp (fx : Fx P n X) (o : Cop) (ha : PE X ea (tE P F same wx a)) (hb : PE X eb (tE P F same wx b)) (hm : behindInMarks (copOf o) eb = false) : PE X (.Compare ea [copOf o] [eb] pos) (tE P F same wx (.cmp o a b)) :=
  PE_imp (pe_cmpR op_goes ha hb hm) fun σ H Q ⟨W, M, sd, S, Rl, h⟩ => by
    simp only [evE] at h
    exact at_E S Rl h fun W1 d m1 v H1 S1 R1 _ r1 h1 => at_E S1 R1 h1 fun W2 e m2 w H2 S2 R2 l r2 h2 => by
      obtain ⟨r, g, q⟩ := go_cmp fx S2 o (S2.rd (r1.up l)) (S2.rd r2) (S2.dr r2) (h2.bind RB)
      refine ⟨fun x y H Q => ∃ Q0 : VK, r x y H Q0 ∧ ∀ z H, Q0 z H → Q z H, fun pins s σ H x y v u Q I rx ry ⟨Q0, h1, h2⟩ => thn (g pins s σ H x y v u Q0 I rx ry h1) fun _ _ ⟨v, H', I', r', q'⟩ => ⟨v, H', I', r', h2 _ _ q'⟩, _, q, ?_⟩
      rintro z H3 ⟨k, rfl, W3, c, m3, l3, S3, e, h3⟩
      have e : c = k := e
      subst e
      exact h3.val S3 (.bl _)
/-- a comparison as a test -/
theorem s_tcmp (fx : Fx P n X) (o : Cop) (ha : PE X ea (tE P F same wx a)) (hb : PE X eb (tE P F same wx b)) (hm : behindInMarks (copOf o) eb = false) : PT X (.Compare ea [copOf o] [eb] pos) (tT P F same wx (.cmp o a b)) :=
  PT_imp (pt_cmpR op_goes ha hb hm) fun σ H Q ⟨W, M, sd, S, Rl, h⟩ => by
    unfold evT at h
    simp only [evE, bind_assoc] at h
    exact at_E S Rl h fun W1 d m1 v H1 S1 R1 _ r1 h1 => at_E S1 R1 h1 fun W2 e m2 w H2 S2 R2 l r2 h2 => by
      obtain ⟨r, g, q⟩ := go_cmp fx S2 o (S2.rd (r1.up l)) (S2.rd r2) (S2.dr r2) (h2.bind RB)
      refine ⟨fun x y H Q => ∃ Q0 : VK, r x y H Q0 ∧ ∀ z H, Q0 z H → Q z H, fun pins s σ H x y v u Q I rx ry ⟨Q0, h1, h2⟩ => thn (g pins s σ H x y v u Q0 I rx ry h1) fun _ _ ⟨v, H', I', r', q'⟩ => ⟨v, H', I', r', h2 _ _ q'⟩, _, q, ?_⟩
      rintro z H3 ⟨k, rfl, W3, c, m3, l3, S3, e, h3⟩
      have e : c = k := e
      subst e
      exact ⟨c, rfl, h3.val S3 rfl⟩
/-! ### tests -/
theorem s_tval (fx : Fx P n X) (ha : PE X ea (tE P F same wx a)) (he : ∀ whole, isTrue ea X.env whole = (do let v ← whole; standAt ea.pos; holding [v] (truthy v))) : PT X ea (tT P F same wx a) :=
  PT_imp (pt_truth ha he) fun σ H Q ⟨W, M, sd, S, Rl, h⟩ => by
    unfold evT at h
    exact at_E S Rl h fun W1 d m1 v H1 S1 R1 _ r1 h1 => by
      obtain ⟨k, t, q, _⟩ := go_truth fx S1 (S1.rd r1) h1
      exact ⟨k, t, q⟩
theorem s_tnot (ha : PT X ea (tT P F same wx a)) : PT X (.UnaryOp .Not ea pos) (tT P F same wx (.nt a)) :=
  PT_imp (pt_not ha) fun σ H Q ⟨W, M, sd, S, Rl, h⟩ => by
    have h : Out P RB W (fun c d H' => wx c d σ H') ((evT F same a sd M).bind fun k m => .ok (!k) m) Q := by
      unfold evT at h ⊢
      simp only [evE, bind_assoc] at h ⊢
      exact h
    exact at_T S Rl h fun W1 k m1 H1 S1 R1 _ h1 => h1.val S1 rfl
theorem truth_bind {r : R D} (k : Bool) : (match r with | .ok d m => truth d m = .ok k m | _ => True) → True := fun _ => True.intro
theorem truth_same {d : D} {m m' : Mem} {k : Bool} (h : truth d m = .ok k m') : m' = m := by
  unfold truth truthR at h
  split at h <;> first | (cases h; rfl) | (cases h; done) | skip
  unfold guard at h
  split at h <;> cases h
  rfl
theorem evT_and {sd : Env} {M : Mem} : evT F same (.an a b) sd M = (evT F same a sd M).bind fun k m => if k = true then evT F same b sd m else .ok false m := by
  unfold evT
  simp only [evE, bind_assoc]
  congr 1
  funext x m
  cases h : truth x m with
  | no => rfl
  | ex c d m' => rfl
  | ok k m' =>
    have e := truth_same h
    subst e
    cases k with
    | true => rfl
    | false => show truth x m' = _; rw [h]; rfl
theorem evT_or {sd : Env} {M : Mem} : evT F same (.orr a b) sd M = (evT F same a sd M).bind fun k m => if k = true then .ok true m else evT F same b sd m := by
  unfold evT
  simp only [evE, bind_assoc]
  congr 1
  funext x m
  cases h : truth x m with
  | no => rfl
  | ex c d m' => rfl
  | ok k m' =>
    have e := truth_same h
    subst e
    cases k with
    | false => rfl
    | true => show truth x m' = _; rw [h]; rfl
theorem s_tone {op : BoolOp} (h : op = .And ∨ op = .Or) (ha : PT X ea (tT P F same wx a)) : PW X (.BoolOp op [ea] pos) (tT P F same wx a) := by
  rcases h with rfl | rfl
  · exact pw_and1 ha
  · exact pw_or1 ha
theorem s_tand {rest : List Expr} (ha : PT X ea (tT P F same wx a)) (hb : PW X (.BoolOp .And (eb :: rest) pos) (tT P F same wx b)) : PW X (.BoolOp .And (ea :: eb :: rest) pos) (tT P F same wx (.an a b)) :=
  PW_imp (pw_and ha hb) fun σ H Q ⟨W, M, sd, S, Rl, h⟩ => by
    rw [evT_and] at h
    exact at_T S Rl h fun W1 k m1 H1 S1 R1 _ h1 => by
      cases k with
      | true => exact ⟨W1, m1, sd, S1, R1, h1⟩
      | false => exact h1.val S1 rfl
theorem s_tor {rest : List Expr} (ha : PT X ea (tT P F same wx a)) (hb : PW X (.BoolOp .Or (eb :: rest) pos) (tT P F same wx b)) : PW X (.BoolOp .Or (ea :: eb :: rest) pos) (tT P F same wx (.orr a b)) :=
  PW_imp (pw_or ha hb) fun σ H Q ⟨W, M, sd, S, Rl, h⟩ => by
    rw [evT_or] at h
    exact at_T S Rl h fun W1 k m1 H1 S1 R1 _ h1 => by
      cases k with
      | false => exact ⟨W1, m1, sd, S1, R1, h1⟩
      | true => exact h1.val S1 rfl
/-! ### chains, items, parts -/
def goesB (r : R2) : R2 := fun x y H Q => ∃ Q0 : VK, r x y H Q0 ∧ ∀ z H, Q0 z H → Q z H
theorem goesB_ok {f : Value → Value → Sem Value} {r : R2} (g : OpR X f r) : OpR X f (goesB r) := fun pins s σ H x y v u Q I rx ry ⟨Q0, h1, h2⟩ => thn (g pins s σ H x y v u Q0 I rx ry h1) fun _ _ ⟨v, H', I', r', q'⟩ => ⟨v, H', I', r', h2 _ _ q'⟩
theorem go_cmp' (fx : Fx P n X) {m : Mem} {kvs : Option (List (KeyD × D))} {A B : D} {x y : V} (S : Sim P W m H) (o : Cop) {wy : WY} {Q : Bool → Hp → Prop} {Q' : VK} (ha : VR P W H A x) (hb : VR P W H B y) (hd : DR P W H kvs y) (h : Out P RB W wy (copR o A B kvs m) Q) (k : ∀ b H', Q b H' → Q' (.bl b) H') :
    GoesTo X (compareOp (copOf o)) x y H Q' := by
  obtain ⟨r, g, q⟩ := go_cmp fx S o ha hb hd h
  exact ⟨goesB r, goesB_ok g, _, q, fun z H3 ⟨c, e, q⟩ => by subst e; exact k _ _ q⟩
theorem s_chain (fx : Fx P n X) (o o' : Cop) (ha : PE X ea (tE P F same wx a)) (hb : PE X eb (tE P F same wx b)) (hc : PE X ec (tE P F same wx c)) (h1 : behindInMarks (copOf o) eb = false) (h2 : behindInMarks (copOf o') ec = false)
    (hl : ∀ t u tc r r', OpR X (compareOp (copOf o)) r → OpR X (compareOp (copOf o')) r' → PE X ea t → PE X eb u → PE X ec tc → PE X (.Compare ea [copOf o, copOf o'] [eb, ec] pos) (tChain r r' t u tc)) : PE X (.Compare ea [copOf o, copOf o'] [eb, ec] pos) (tE P F same wx (.chain o o' a b c)) :=
  PE_imp (hl _ _ _ _ _ op_goes op_goes ha hb hc) fun σ H Q ⟨W, M, sd, S, Rl, h⟩ => by
    simp only [evE] at h
    exact at_E S Rl h fun W1 d m1 v H1 S1 R1 _ r1 h1 => at_E S1 R1 h1 fun W2 e m2 w H2 S2 R2 l r2 h2 => by
      refine go_cmp' fx S2 o (S2.rd (r1.up l)) (S2.rd r2) (S2.dr r2) (h2.bind RB) fun b H' ⟨W3, c', m3, l3, S3, e3, h3⟩ => ⟨b, rfl, ?_⟩
      have e3 : c' = b := e3
      subst e3
      cases c' with
      | false => exact h3.val S3 (.bl _)
      | true =>
        refine at_E S3 (R2.up l3) h3 fun W4 z m4 q H4 S4 R4 l4 r4 h4 => ?_
        refine go_cmp' fx S4 o' (S4.rd ((r2.up l3).up l4)) (S4.rd r4) (S4.dr r4) (h4.bind RB) fun b H' ⟨W5, c5, m5, l5, S5, e5, h5⟩ => ?_
        have e5 : c5 = b := e5
        subst e5
        exact h5.val S5 (.bl _)
theorem s_ix (fx : Fx P n X) (ha : PE X ea (tE P F same wx a)) (hb : PE X eb (tE P F same wx b)) (hs : PlainIx eb) : PE X (.Subscript ea eb pos) (tE P F same wx (.ix a b)) :=
  PE_imp (pe_ix (r := fun x y H Q => ∃ r, IxR X r ∧ r x y H Q) (fun va sl pins s σ H x y v u Q I rx ry ⟨r, h, q⟩ hs => h va sl pins s σ H x y v u Q I rx ry q hs) ha hb hs) fun σ H Q ⟨W, M, sd, S, Rl, h⟩ => by
    simp only [evE] at h
    exact at_E S Rl h fun W1 d m1 v H1 S1 R1 _ r1 h1 => at_E S1 R1 h1 fun W2 e m2 w H2 S2 R2 l r2 h2 => go_ix fx S2 (S2.rd (r1.up l)) (VD.vr S2.sub r2) (S2.dr (r1.up l)) h2
theorem s_onone : PO X none (tO P F same wx .none) := PO_imp po_none fun σ H Q ⟨W, M, sd, S, Rl, h⟩ => by
  simp only [evO, bind_ok, optI, intO] at h
  exact h.val S rfl
theorem s_osome (ha : PE X ea (tE P F same wx a)) : PO X (some ea) (tO P F same wx (.some a)) := PO_imp (po_some ha) fun σ H Q ⟨W, M, sd, S, Rl, h⟩ => by
  simp only [evO, bind_assoc, bind_ok] at h
  exact at_E S Rl h fun W1 d m1 v H1 S1 R1 _ r1 h1 => by
    cases r1 <;> first | exact h1.elim | exact ⟨_, rfl, h1.val S1 rfl⟩
theorem at_O {α β : Type} {rel : Wd → α → β → Prop} {Q : β → Hp → Prop} {Q' : Option Int → Hp → Prop} {a : Oe} {f : Option Int → Mem → R α} (S : Sim P W M H) (Rl : Rels P W sd σ) (h : Out P rel W (fun c d H' => wx c d σ H') ((evO F same a sd M).bind fun o m => (optI o m).bind f) Q)
    (k : ∀ W' d m' H', Sim P W' m' H' → Rels P W' sd σ → Le W W' → Out P rel W' (fun c d H' => wx c d σ H') (f d m') Q → Q' d H') : tO P F same wx a σ H Q' := by
  rw [← bind_assoc] at h
  exact ⟨W, M, sd, S, Rl, (h.bind ROI).imp fun v H' ⟨W', d, m', l, S', r, h'⟩ => by
    have r : d = v := r
    subst r
    exact k W' d m' H' S' (Rl.up l) l h'⟩
end
end SS
end PT_SC
section PT_SD
set_option Elab.async false
set_option linter.all false
set_option maxRecDepth 100000
set_option maxHeartbeats 2000000
/-! Parts, built-ins, methods, kinds. -/
namespace SS
open PySem PySem.Spec PyProof.Rows L2
section
variable {P : Pm} {F : Fns} {same : Nat} {wx : WX} {X : Cx} {n : Nat} {W : Wd} {M m : Mem} {sd : Env} {σ : L2.St} {H : Hp} {a b c : E} {ea eb ec : Expr} {pos : Pos}
theorem s_sl {fz : Bool} {lo hi : Oe} {l h : Option Expr} {p2 : Pos} (fx : Fx P n X) (ha : PE X ea (tE P F same wx a)) (hl : PO X l (tO P F same wx lo)) (hh : PO X h (tO P F same wx hi)) : PE X (.Subscript ea (.Slice l h none p2) pos) (tE P F same wx (.sl fz a lo hi)) :=
  PE_imp (pe_slice (r := fun x lo hi H Q => ∃ r, L2.SlR X r ∧ r x lo hi H Q) (fun pins s σ H x v vl vu lo hi sl Q I rx hs pl pu ⟨r, h, q⟩ => h pins s σ H x v vl vu lo hi sl Q I rx hs pl pu q) ha hl hh) fun σ H Q ⟨W, M, sd, S, Rl, h⟩ => by
    simp only [evE] at h
    exact at_E S Rl h fun W1 d m1 v H1 S1 R1 _ r1 h1 => at_O S1 R1 h1 fun W2 lo m2 H2 S2 R2 l2 h2 => at_O S2 R2 h2 fun W3 hi m3 H3 S3 R3 l3 h3 => go_sl fx S3 (S3.rd ((r1.up l2).up l3)) h3
/-! ### built-ins -/
inductive VRs (P : Pm) (W : Wd) (H : Hp) : List D → List V → Prop
  | nil : VRs P W H [] []
  | cons {d : D} {ds : List D} {v : V} {vs : List V} : VR P W H d v → VRs P W H ds vs → VRs P W H (d :: ds) (v :: vs)
theorem Sim.rds (S : Sim P W m H) : ∀ {ds : List D} {vs : List V}, VDs P W ds vs → VRs P W H (ds.map (SS.rd m)) vs
  | _, _, .nil => .nil
  | _, _, .cons h t => .cons (S.rd h) (Sim.rds S t)
theorem VRs.one {d : D} {vs : List V} (h : VRs P W H [d] vs) : ∃ v, vs = [v] ∧ VR P W H d v := by
  cases h with
  | cons a t => cases t; exact ⟨_, rfl, a⟩
theorem VRs.two {d e : D} {vs : List V} (h : VRs P W H [d, e] vs) : ∃ v w, vs = [v, w] ∧ VR P W H d v ∧ VR P W H e w := by
  cases h with
  | cons a t =>
    cases t with
    | cons b t => cases t; exact ⟨_, _, rfl, a, b⟩
theorem ints_vd : ∀ {ds : List D} {xs : List V} {ns : List Int}, VDs P W ds xs → intsOf ds = some ns → xs = ns.map V.int
  | _, _, _, .nil, e => by cases e; rfl
  | d :: ds, _, ns, .cons h t, e => by
    cases d <;> first | (cases e; done) | skip
    case int i =>
      simp only [intsOf, Option.map_eq_some_iff] at e
      obtain ⟨ms, e1, e2⟩ := e
      subst e2
      cases h
      rw [ints_vd t e1, List.map_cons]
theorem strs_vd : ∀ {ds : List D} {xs : List V} {ns : List Str}, VDs P W ds xs → strsOf ds = some ns → xs = ns.map V.str
  | _, _, _, .nil, e => by cases e; rfl
  | d :: ds, _, ns, .cons h t, e => by
    cases d <;> first | (cases e; done) | skip
    case str i =>
      simp only [strsOf, Option.map_eq_some_iff] at e
      obtain ⟨ms, e1, e2⟩ := e
      subst e2
      cases h
      rw [strs_vd t e1, List.map_cons]
theorem bools_vd : ∀ {ds : List D} {xs : List V} {ns : List Bool}, VDs P W ds xs → boolsOf ds = some ns → xs = ns.map V.bl
  | _, _, _, .nil, e => by cases e; rfl
  | d :: ds, _, ns, .cons h t, e => by
    cases d <;> first | (cases e; done) | skip
    case bool i =>
      simp only [boolsOf, Option.map_eq_some_iff] at e
      obtain ⟨ms, e1, e2⟩ := e
      subst e2
      cases h
      rw [bools_vd t e1, List.map_cons]
theorem vds_strs : ∀ xs : List Str, VDs P W (xs.map .str) (xs.map V.str)
  | [] => .nil
  | x :: r => .cons (.str x) (vds_strs r)
def biF : BI → Value
  | .len => .builtin "len"
  | .int => .type "int"
  | .str => .type "str"
  | .list => .type "list"
  | .tuple => .type "tuple"
  | .max => .builtin "max"
  | .min => .builtin "min"
  | .sum => .builtin "sum"
  | .any => .builtin "any"
  | .all => .builtin "all"
def biN : BI → Str
  | .len => "len"
  | .int => "int"
  | .str => "str"
  | .list => "list"
  | .tuple => "tuple"
  | .max => "max"
  | .min => "min"
  | .sum => "sum"
  | .any => "any"
  | .all => "all"
theorem bi_boot (b : BI) : bootBuiltins (biN b) = some (biF b) := by
  cases b <;> decide +kernel
theorem go_bi {fz : Bool} (fx : Fx P n X) (hn : n ≠ 0) (S : Sim P W m H) (b : BI) {rs : List D} {vs : List V} {wy : WY} {Q : VK} (r : VRs P W H rs vs) (h : Out P (VD P) W wy (biR fz b rs m) Q) : ∃ r, CallR X (biF b) r ∧ r vs H Q := by
  unfold biR at h
  split at h
  · obtain ⟨v, rfl, a⟩ := r.one; cases a; have h := h.guard; exact ⟨_, call_len_str, _, rfl, h.1, h.2.val S (.int _)⟩
  · obtain ⟨v, rfl, p, ys, rfl, a1, a2⟩ := r.one; exact ⟨_, call_len_seq, p, ys, rfl, .inl (.inl a1), by rw [a2.length]; exact h.val S (.int _)⟩
  · obtain ⟨v, rfl, p, ys, rfl, a1, a2⟩ := r.one; exact ⟨_, call_len_seq, p, ys, rfl, .inr (by rw [fx.K]; exact (a1.up S.sub).sq), by rw [a2.length]; exact h.val S (.int _)⟩
  · obtain ⟨v, rfl, a⟩ := r.one; cases a; exact ⟨_, call_int1, .inl ⟨_, rfl, h.val S (.int _)⟩⟩
  · obtain ⟨v, rfl, a⟩ := r.one; cases a; exact ⟨_, call_int1, .inr ⟨_, rfl, h.val S (.int _)⟩⟩
  · obtain ⟨v, rfl, a⟩ := r.one; cases a; have h := h.guard; exact ⟨_, call_str_int, _, rfl, h.1, h.2.val S (.str _)⟩
  · obtain ⟨v, rfl, p, ys, rfl, a1, a2⟩ := r.one; exact ⟨_, call_list_of, p, ys, rfl, .inl (.inl a1), (h.new S a2).2⟩
  · obtain ⟨v, rfl, p, ys, rfl, a1, a2⟩ := r.one; exact ⟨_, call_list_of, p, ys, rfl, .inr (by rw [fx.K]; exact (a1.up S.sub).sq), (h.new S a2).2⟩
  · obtain ⟨v, rfl, p, ys, rfl, a1, a2⟩ := r.one; exact ⟨_, call_tupF, p, ys, rfl, .inl ⟨.inl a1, h.tup S a2⟩⟩
  · obtain ⟨v, rfl, p, ys, rfl, a1, a2⟩ := r.one; exact ⟨_, call_tupF, p, ys, rfl, .inr ⟨by rw [fx.K]; exact (a1.up S.sub).sq, h.val S (.tup a1 a2)⟩⟩
  · obtain ⟨v, w, rfl, a, b⟩ := r.two; cases a; cases b; exact ⟨_, call_max2 (fx.calm hn), _, _, rfl, h.val S (.int _)⟩
  · obtain ⟨v, w, rfl, a, b⟩ := r.two; cases a; cases b; exact ⟨_, call_min2 (fx.calm hn), _, _, rfl, h.val S (.int _)⟩
  · obtain ⟨v, rfl, p, ys, rfl, a1, a2⟩ := r.one
    obtain ⟨d, e, h⟩ := h.opt
    rw [Option.map_eq_some_iff] at e
    obtain ⟨ns, e1, e2⟩ := e
    subst e2
    have e3 := ints_vd a2 e1
    subst e3
    exact ⟨_, cr_sum (fx.calm hn), p, ns, rfl, .inl a1, h.val S (.int _)⟩
  · obtain ⟨v, rfl, p, ys, rfl, a1, a2⟩ := r.one
    obtain ⟨d, e, h⟩ := h.opt
    rw [Option.map_eq_some_iff] at e
    obtain ⟨ns, e1, e2⟩ := e
    subst e2
    have e3 := bools_vd a2 e1
    subst e3
    exact ⟨_, cr_any (fx.calm hn), p, ns, rfl, .inl a1, h.val S (.bl _)⟩
  · obtain ⟨v, rfl, p, ys, rfl, a1, a2⟩ := r.one
    obtain ⟨d, e, h⟩ := h.opt
    rw [Option.map_eq_some_iff] at e
    obtain ⟨ns, e1, e2⟩ := e
    subst e2
    have e3 := bools_vd a2 e1
    subst e3
    exact ⟨_, cr_all (fx.calm hn), p, ns, rfl, .inl a1, h.val S (.bl _)⟩
  · exact h.elim
theorem s_bi {fz : Bool} {i : Nat} {e : Expr} {es : List Expr} {as : Es} {p : Pos} (fx : Fx P n X) (hn : n ≠ 0) (b : BI) (hg : Gl X (biN b)) (hm : X.mg (biN b) = none) (ha : PA X (e :: es) (tEs P F same wx as))
    (he : starEach (e :: es) X.env = (false, eval e X.env) :: starEach es X.env) (hpl : (backTo pos (starEach es X.env)).any (·.1) = false) : PE X (.Call (.Name (biN b) p) (e :: es) [] pos) (tE P F same wx (.bi i fz b as)) := by
  have hr : CallR X (biF b) (fun vs H Q => ∃ r, CallR X (biF b) r ∧ r vs H Q) := fun pins s σ H xs us Q I r ⟨t, h, q⟩ => h pins s σ H xs us Q I r q
  have red : ∀ σ H Q, tE P F same wx (.bi i fz b as) σ H Q → tCB (fun vs H Q => ∃ r, CallR X (biF b) r ∧ r vs H Q) (tEs P F same wx as) σ H Q := fun σ H Q ⟨W, M, sd, S, Rl, h⟩ => by
    simp only [evE] at h
    exact at_Es S Rl h fun W1 d m1 v H1 S1 R1 _ r1 h1 => go_bi fx hn S1 b (S1.rds r1) h1
  have boot := bi_boot b
  cases b <;> first
    | exact PE_imp (pe_callB hr hg hm boot ha (by decide) (by decide) he hpl) red
    | exact PE_imp (pe_callTy hr hg hm boot ha (by decide) (by decide) he hpl) red
/-! ### methods -/
def meT : ME → String
  | .append => "list" | .extend => "list" | .pop0 => "list" | .pop => "list" | .join => "str" | .split => "str" | .upper => "str" | .index => "list" | .indexT => "tuple"
def meN : ME → Str
  | .append => "append" | .extend => "extend" | .pop0 => "pop" | .pop => "pop" | .join => "join" | .split => "split" | .upper => "upper" | .index => "index" | .indexT => "index"
def meI : ME → String
  | .append => "list.append" | .extend => "list.extend" | .pop0 => "list.pop" | .pop => "list.pop" | .join => "str.join" | .split => "str.split" | .upper => "str.upper" | .index => "list.index" | .indexT => "tuple.index"
theorem me_pa : ∀ b : ME, PlainAttrs (meT b)
  | .append => F.plainAttrs_list
  | .extend => F.plainAttrs_list
  | .pop0 => F.plainAttrs_list
  | .pop => F.plainAttrs_list
  | .join => F.plainAttrs_str
  | .split => F.plainAttrs_str
  | .upper => F.plainAttrs_str
  | .index => F.plainAttrs_list
  | .indexT => F.plainAttrs_tuple
theorem me_slot : ∀ b : ME, Slot (meT b) (meN b) (meI b)
  | .append => F.slot_list_append
  | .extend => F.slot_list_extend
  | .pop0 => F.slot_list_pop
  | .pop => F.slot_list_pop
  | .join => F.slot_str_join
  | .split => F.slot_str_split
  | .upper => F.slot_str_upper
  | .index => F.slot_list_index
  | .indexT => F.slot_tuple_index
theorem me_ty : ∀ b : ME, typeOf (.builtin (meI b)) = pure (.type "method_descriptor")
  | .append => F.type_list_append
  | .extend => F.type_list_extend
  | .pop0 => F.type_list_pop
  | .pop => F.type_list_pop
  | .join => F.type_str_join
  | .split => F.type_str_split
  | .upper => F.type_str_upper
  | .index => F.type_list_index
  | .indexT => F.type_tuple_index
def tyM (K : PySem.W.Frag) (b : ME) (x : V) (H : Hp) : Prop := match meT b with
  | "list" => ∃ a xs, x = .ref a ∧ SqL K H a xs
  | "str" => ∃ z, x = .str z
  | "tuple" => ∃ a xs, x = .ref a ∧ TupG K H a xs
  | _ => False
theorem ty_list : TyOk X "list" (fun x H => ∃ a xs, x = .ref a ∧ SqL X.K H a xs) := fun pins σ H s x v I r ⟨a, xs, e, q⟩ => by
  subst e
  cases r
  obtain ⟨its, _, pl, _⟩ := I.list q
  refine ⟨pl.isList.typeIs, fun a e => ?_⟩
  cases e
  obtain ⟨o, n, e, c, hd, _⟩ := pl
  exact ⟨o, e, hd⟩
theorem ty_str : TyOk X "str" (fun x H => ∃ z, x = .str z) := fun pins σ H s x v I r ⟨z, e⟩ => by
  subst e
  obtain ⟨t, rfl⟩ := r
  exact ⟨typeIs_str s z t, fun _ e => nomatch e⟩
theorem ty_tup : TyOk X "tuple" (fun x H => ∃ a xs, x = .ref a ∧ TupG X.K H a xs) := fun pins σ H s x v I r ⟨a, xs, e, q⟩ => by
  subst e
  cases r
  rcases q with ⟨o, hd, h⟩ | ⟨o, its, n, h1, h2, h3, _⟩
  · obtain ⟨h1, _, its', _, o', h3, h4, _⟩ := (show ObjOk X.prog X.w H s.heap a (.frz o (.tup xs)) from I.hok a _ h)
    rw [h1] at h3
    cases h3
    exact ⟨⟨o, h1, h4⟩, fun b e => by cases e; exact ⟨o, h1, hd⟩⟩
  · exact ⟨⟨o, I.kIn a o h1, h2⟩, fun b e => by cases e; exact ⟨o, I.kIn a o h1, h3⟩⟩
theorem me_tyOk (b : ME) : TyOk X (meT b) (tyM X.K b) := by
  cases b <;> first | exact ty_list | exact ty_str | exact ty_tup
theorem go_ty (fx : Fx P n X) (S : Sim P W m H) (b : ME) {A : D} {x : V} (ha : VR P W H A x) (h : meTy b A = true) : tyM X.K b x H := by
  cases b <;> cases A <;> first | (cases h; done) | skip
  all_goals first
    | (obtain ⟨p, xs, rfl, a1, a2⟩ := ha; exact ⟨p, xs, rfl, .inl a1⟩)
    | (obtain ⟨p, xs, rfl, a1, a2⟩ := ha; exact ⟨p, xs, rfl, by rw [fx.K]; exact a1.up S.sub⟩)
    | (cases ha; exact ⟨_, rfl⟩)
theorem Sim.cellOf (S : Sim P W m H) {d : D} {x : V} {i : Nat} {ds : List D} (r : VD P W d x) (e : SS.cellOf m d = some (i, ds)) : ∃ a xs, x = .ref a ∧ W.β[i]? = some a ∧ m[i]? = some (.lst ds) ∧ H a = some (.lst xs) ∧ VDs P W ds xs := by
  unfold SS.cellOf at e
  split at e
  · rename_i j hj
    split at e
    · rename_i ys hy
      cases e
      obtain ⟨a, u, rfl, h1, h2, h3⟩ := S.atLoc r hj hy
      cases u <;> first | exact h3.elim | exact ⟨a, _, rfl, h1, hy, h2, h3⟩
    · cases e
  · cases e
theorem mt_extR : MtR X "list.extend" (fun x vs H Q => ∃ l b xs zs, x = .ref l ∧ vs = [.ref b] ∧ H l = some (.lst xs) ∧ Rd H b (.lst zs) ∧ xs.length + zs.length ≤ sizeLine ∧ Q .non (upd H l (.lst (xs ++ zs)))) := by
  intro pins s σ H x vs v us Q I rx rv ⟨l, b, xs, zs, ex, ev, hH, hB, hz, q⟩
  subst ex
  subst ev
  cases rx
  obtain ⟨u, rfl, ru⟩ := rv.one
  cases ru
  obtain ⟨z, its, n, r, hl, e⟩ := I.lstM hH
  obtain ⟨z2, its2, n2, r2, hl2, e2⟩ := rdL I hB
  have k1 : its.toArray.size + its2.toArray.size ≤ sizeLine := by simp only [List.size_toArray]; omega
  have k2 : ¬ (!its.toArray.isEmpty && Builtin.List.listTooLong (its.toArray.size + its2.toArray.size)) = true := by rw [notLongL k1, Bool.and_false]; decide
  refine call_meets F.slot_list_extend ⟨_, e, rfl⟩ F.entry_list_extend (F.args_list_extend_2 _ _) (AutoSeq1.list_extend_list_list_0 l its.toArray n b its2.toArray n2 k2 (by simp only [List.size_toArray]; omega) (by omega)) ⟨e, e2, ?_⟩
  exact ⟨.non, _, I.lset (its' := its ++ its2) hH e (by simp) (r.append r2) (by rw [List.length_append]; omega), rfl, q⟩
theorem mt_indexT (hu : X.A.units + 65 < cLine) : MtR X "tuple.index" (fun x xs H Q => ∃ (a : Addr) (y : V) (d : D) (ds : List D) (j : Nat) (z : D), x = V.ref a ∧ xs = [y] ∧ Dp X.K H (V.ref a) (.tuple ds) ∧ Dp X.K H y d ∧
    SeqAt.shaped (.tuple ds) = true ∧ SeqAt.shaped d = true ∧ ds[j]? = some z ∧ PyData.eqv z d = true ∧ (∀ (m : Nat) (z' : D), m < j → ds[m]? = some z' → PyData.eqv z' d = false) ∧ Q (.int (j : Nat)) H) := by
  intro pins s σ H x xs v us Q I rx rxs ⟨a, y, d, ds, j, z, ex, exs, hl, hy, sl, sd, hz, hzj, hno, q⟩
  subst ex
  subst exs
  cases rx
  obtain ⟨uy, rfl, ry⟩ := vals1 rxs
  obtain ⟨bs, r1⟩ := Dp.reads I d y uy hy ry
  have hxs : PyData.canLayAll0 ds = true := by have := SeqAt.canLay_of_shaped sl; simpa [PyData.canLay0] using this
  have hroom : X.A.units + 1 + min (PyData.depthAll ds) d.depth < cLine := room_in_shaped sd hu
  cases hl with
  | tup hs ha =>
    obtain ⟨its, rv, ⟨⟨cls, dd, data, sls⟩, ho, hc, n, hdt⟩, hlen⟩ := I.tuple hs
    simp only at hc hdt
    subst hc hdt
    obtain ⟨as, h4⟩ := Dp.readsAll I ds _ its ha rv
    have hn : its.length = ds.length := SeqAt.ReadsAll.length ds its as h4
    have hmap : its.map (SeqAt.readOf s.heap) = ds := SeqAt.readsAll_map ds its as hxs h4
    have hj : j < its.toArray.size := by
      have := (List.getElem?_eq_some_iff.mp hz).1
      simp only [List.size_toArray]
      omega
    have at_ : ∀ (m : Nat) (hm : m < its.toArray.size) (z' : D), ds[m]? = some z' → SeqAt.readOf s.heap its.toArray[m] = z' := fun m hm z' hz' => by
      have hml : m < its.length := by simpa using hm
      rw [← hmap, List.getElem?_map, List.getElem?_eq_getElem hml] at hz'
      have e1 : SeqAt.readOf s.heap its[m] = z' := Option.some.inj hz'
      simpa using e1
    refine call_meets F.slot_tuple_index ⟨_, ho, rfl⟩ F.entry_tuple_index (F.args_tuple_index_2 _ _) (TI.tuple_indexAt a its.toArray n dd sls uy (fun u => PyData.eqv (SeqAt.readOf s.heap u) d) j hj ?_ ?_)
      ⟨ho, SeqAt.items_eqAt (vs := its.toArray) (show ReadsAll s.heap its.toArray.toList ds as from h4) r1 hxs (SeqAt.canLay_of_shaped sd) hroom, ⟨.int (j : Nat), H, I.tok _, ⟨_, rfl⟩, q⟩⟩
    · show PyData.eqv (SeqAt.readOf s.heap its.toArray[j]) d = true
      rw [at_ j hj z hz]
      exact hzj
    · intro m hm hmj
      have hmd : m < ds.length := by simp only [List.size_toArray] at hm; omega
      show PyData.eqv (SeqAt.readOf s.heap its.toArray[m]) d = false
      rw [at_ m hm _ (List.getElem?_eq_getElem hmd)]
      exact hno m _ hmj (List.getElem?_eq_getElem hmd)
theorem firstAt_some {d : D} : ∀ {ds : List D} {k j : Nat}, firstAt d ds k = some j → k ≤ j ∧ ∃ z, ds[j - k]? = some z ∧ PyData.eqv z d = true ∧ ∀ (m : Nat) (z' : D), m < j - k → ds[m]? = some z' → PyData.eqv z' d = false
  | [], _, _, h => by cases h
  | z :: zs, k, j, h => by
    unfold firstAt at h
    split at h
    · cases h
      exact ⟨Nat.le_refl _, z, by simp, ‹_›, fun m z' hm => by omega⟩
    · rename_i hz
      obtain ⟨h1, w, h2, h3, h4⟩ := firstAt_some h
      have e : j - k = (j - (k + 1)) + 1 := by omega
      refine ⟨by omega, w, by rw [e]; simpa using h2, h3, fun m z' hm hz' => ?_⟩
      cases m with
      | zero => simp at hz'; subst hz'; simpa using hz
      | succ m => exact h4 m z' (by omega) (by simpa using hz')
theorem go_meR {fz : Bool} (fx : Fx P n X) (S : Sim P W m H) (b : ME) {A : D} {rs : List D} {x : V} {vs : List V} {wy : WY} {Q : VK} (ra : VR P W H A x) (rr : VRs P W H rs vs) (h : Out P (VD P) W wy (meR fz b A rs m) Q) : ∃ r, MtR X (meI b) r ∧ r x vs H Q := by
  have un := fx.un
  unfold meR at h
  split at h
  · cases ra
    obtain ⟨v, rfl, p, ws, rfl, a1, a2⟩ := rr.one
    split at h
    · rename_i zs ez
      have h := h.guard
      have e3 := strs_vd a2 ez
      subst e3
      exact ⟨_, mt_join, _, p, zs, rfl, rfl, .inl (.inl a1), h.1, h.2.val S (.str _)⟩
    · exact h.elim
  · cases ra
    obtain ⟨v, rfl, p, ws, rfl, a1, a2⟩ := rr.one
    split at h
    · rename_i zs ez
      have h := h.guard
      have e3 := strs_vd a2 ez
      subst e3
      exact ⟨_, mt_join, _, p, zs, rfl, rfl, .inr (by rw [fx.K]; exact (a1.up S.sub).sq), h.1, h.2.val S (.str _)⟩
    · exact h.elim
  · cases ra
    obtain ⟨v, rfl, a1⟩ := rr.one
    cases a1
    have h := h.guard
    exact ⟨_, mt_split, _, _, rfl, rfl, h.1.1, h.1.2, (h.2.new S (vds_strs _)).2⟩
  · cases ra
    cases rr
    have h := h.guard
    exact ⟨_, mt_upper, _, rfl, rfl, h.1, h.2.val S (.str _)⟩
  · obtain ⟨v, rfl, a1⟩ := rr.one
    have h := h.guard
    obtain ⟨_, e, h2⟩ := h.2.opt
    rw [Option.map_eq_some_iff] at e
    obtain ⟨j, e1, e2⟩ := e
    subst e2
    obtain ⟨_, z, k1, k2, k3⟩ := firstAt_some e1
    have ha := ra.dp S.sub (sh_lay h.1.2)
    obtain ⟨p, ws, rfl, _, _⟩ := ra
    exact ⟨_, mt_indexD (by omega), p, v, _, _, j, z, rfl, rfl, by rw [fx.K]; exact ha, by rw [fx.K]; exact a1.dp S.sub (sh_lay h.1.1), h.1.2, h.1.1, k1, k2, k3, h2.val S (.int _)⟩
  · obtain ⟨v, rfl, a1⟩ := rr.one
    have h := h.guard
    obtain ⟨_, e, h2⟩ := h.2.opt
    rw [Option.map_eq_some_iff] at e
    obtain ⟨j, e1, e2⟩ := e
    subst e2
    obtain ⟨_, z, k1, k2, k3⟩ := firstAt_some e1
    have ha := ra.dp S.sub (sh_lay h.1.2)
    obtain ⟨p, ws, rfl, _, _⟩ := ra
    exact ⟨_, mt_indexT (by omega), p, v, _, _, j, z, rfl, rfl, by rw [fx.K]; exact ha, by rw [fx.K]; exact a1.dp S.sub (sh_lay h.1.1), h.1.2, h.1.1, k1, k2, k3, h2.val S (.int _)⟩
  · exact h.elim
theorem go_me {fz : Bool} (fx : Fx P n X) (S : Sim P W m H) (b : ME) {d : D} {ds : List D} {x : V} {vs : List V} {wy : WY} {Q : VK} (r : VD P W d x) (rs : VDs P W ds vs) (h : Out P (VD P) W wy (meD fz b d ds m) Q) : ∃ r, MtR X (meI b) r ∧ r x vs H Q := by
  have un := fx.un
  unfold meD at h
  split at h
  · split at h
    · rename_i i xs hc
      split at h
      · rename_i ys d' hw
        obtain ⟨a, us, rfl, h1, h2, h3, h4⟩ := S.cellOf r hc
        have hl : us.length = xs.length := h4.length
        unfold meW at hw
        split at hw
        · rename_i e
          split at hw
          · cases hw
            cases rs with
            | cons r1 t =>
              cases t
              exact ⟨_, mt_append, a, us, _, rfl, rfl, h3, by rw [hl]; assumption, h.cell S h1 h2 (show VDs P W _ _ from h4.app (.cons r1 .nil)) .non⟩
          · cases hw
        · rename_i zs er
          split at hw
          · cases hw
            have q := S.rds rs
            rw [er] at q
            obtain ⟨v, rfl, p, ws, rfl, a1, a2⟩ := q.one
            exact ⟨_, mt_extR, a, p, us, ws, rfl, rfl, h3, a1, by rw [hl, a2.length]; assumption, h.cell S h1 h2 (show VDs P W _ _ from h4.app a2) .non⟩
          · cases hw
        · rw [Option.map_eq_some_iff] at hw
          obtain ⟨z, e1, e2⟩ := hw
          cases e2
          cases rs
          obtain ⟨v, e3, r3⟩ := h4.get e1
          rw [← hl] at e3
          refine ⟨_, mt_pop, a, us, v, rfl, rfl, h3, e3, h.cell S h1 h2 (u' := .lst us.dropLast) (show VDs P W _ _ from ?_) r3⟩
          rw [List.dropLast_eq_take, List.dropLast_eq_take, hl]
          exact h4.take _
        · split at hw
          · rename_i k _ hk
            cases e0 : seqIndex? k xs.length with
            | none => rw [e0] at hw; cases hw
            | some j =>
              rw [e0] at hw
              simp only [Option.bind_some, Option.map_eq_some_iff] at hw
              obtain ⟨z, e1, e2⟩ := hw
              cases e2
              cases rs with
              | cons r1 t =>
                cases t
                cases r1
                obtain ⟨v, e3, r3⟩ := h4.get e1
                exact ⟨_, mt_popAt, a, us, k, j, v, rfl, rfl, h3, hk.1, hk.2, by rw [hl]; exact e0, e3, h.cell S h1 h2 (u' := .lst (us.eraseIdx j)) (show VDs P W _ _ from h4.erase j) r3⟩
          · cases hw
        · cases hw
      · exact h.elim
    · exact h.elim
  · exact go_meR fx S b (S.rd r) (S.rds rs) h
theorem s_me {fz : Bool} {e : Expr} {es : List Expr} {as : Es} {apos : Pos} (fx : Fx P n X) (b : ME) (ho : PE X ea (tE P F same wx a)) (ha : PA X (e :: es) (tEs P F same wx as))
    (hbase : attributeBase ea (meN b) X.env (eval ea X.env) = eval ea X.env)
    (hfew : ((backTo pos (starEach (e :: es) X.env)).all (fun x => !x.1) && (backToKw pos (keywordEach [] X.env)).all (fun x => x.1.isSome) && decide ((e :: es).length + ([] : List Keyword).length + (if ([] : List Keyword).isEmpty then 0 else 1) < 30)) = true)
    (hline : (apos.endLine == pos.line) = true) (hs : starEach (e :: es) X.env = (false, eval e X.env) :: starEach es X.env) (hpl : (backTo pos (starEach es X.env)).any (·.1) = false) : PE X (.Call (.Attribute ea (meN b) apos) (e :: es) [] pos) (tE P F same wx (.me fz b a as)) :=
  PE_imp (pe_mG (r := fun x vs H Q => ∃ r, MtR X (meI b) r ∧ r x vs H Q) (me_tyOk b) (me_pa b) (me_slot b) (me_ty b) (fun pins s σ H x xs v us Q I rx rs ⟨r, h, q⟩ => h pins s σ H x xs v us Q I rx rs q) ho ha hbase hfew hline hs hpl) fun σ H Q ⟨W, M, sd, S, Rl, h⟩ => by
    simp only [evE] at h
    exact at_E S Rl h fun W1 d m1 v H1 S1 R1 _ r1 h1 => by
      have h1 := h1.guard
      refine ⟨go_ty fx S1 b (S1.rd r1) h1.1, ?_⟩
      exact at_Es S1 R1 h1.2 fun W2 ds m2 vs H2 S2 R2 l r2 h2 => go_me fx S2 b (r1.up l) r2 h2
theorem s_me0 {fz : Bool} {apos : Pos} (fx : Fx P n X) (b : ME) (ho : PE X ea (tE P F same wx a)) (hbase : attributeBase ea (meN b) X.env (eval ea X.env) = eval ea X.env) (hline : (apos.endLine == pos.line) = true) : PE X (.Call (.Attribute ea (meN b) apos) [] [] pos) (tE P F same wx (.me fz b a .nil)) :=
  PE_imp (pe_mG0 (r := fun x vs H Q => ∃ r, MtR X (meI b) r ∧ r x vs H Q) (me_tyOk b) (me_pa b) (me_slot b) (me_ty b) (fun pins s σ H x xs v us Q I rx rs ⟨r, h, q⟩ => h pins s σ H x xs v us Q I rx rs q) ho hbase hline) fun σ H Q ⟨W, M, sd, S, Rl, h⟩ => by
    simp only [evE, evEs, bind_ok] at h
    exact at_E S Rl h fun W1 d m1 v H1 S1 R1 _ r1 h1 => by
      have h1 := h1.guard
      exact ⟨go_ty fx S1 b (S1.rd r1) h1.1, go_me fx S1 b r1 .nil h1.2⟩
/-! ### isinstance -/
def tyN : Ty → String
  | .int => "int" | .bool => "bool" | .str => "str" | .tuple => "tuple" | .list => "list"
def dN : D → String
  | .none => "NoneType" | .bool _ => "bool" | .int _ => "int" | .str _ => "str" | .list _ => "list" | .tuple _ => "tuple" | .dict _ => "dict"
theorem go_tyx (fx : Fx P n X) (S : Sim P W m H) {A : D} {x : V} (ha : VR P W H A x) (h : ∀ k, A ≠ .dict k) : TyX X.K H x (.type (dN A)) := by
  cases A with
  | none => cases ha; exact .base .non
  | bool b => cases ha; exact .base (.bl b)
  | int i => cases ha; exact .base (.int i)
  | str z => cases ha; exact .base (.str z)
  | list ds =>
    obtain ⟨p, xs, rfl, a1 | ⟨o, a1⟩, a2⟩ := ha
    · exact .base (.lst a1)
    · exact .base (.frz a1)
  | tuple ds =>
    obtain ⟨p, xs, rfl, ⟨o, _, a1⟩ | ⟨o, its, k, h1, h2, _⟩, a2⟩ := ha
    · exact .fTuple (S.sub _ _ a1)
    · exact .kTuple (by rw [fx.K]; exact h1) h2
  | dict k => exact absurd rfl (h k)
def tyAns : Ty → D → Bool
  | .int, .int _ => true
  | .int, .bool _ => true
  | .bool, .bool _ => true
  | .str, .str _ => true
  | .tuple, .tuple _ => true
  | .list, .list _ => true
  | _, _ => false
theorem isTyR_is (t : Ty) (A : D) (h : ∀ k, A ≠ .dict k) : isTyR m t A = .ok (tyAns t A) m := by
  cases t <;> cases A <;> first | rfl | exact absurd rfl (h _)
theorem kit_is (K : PySem.W.Frag) (t : Ty) (A : D) (h : ∀ k, A ≠ .dict k) : PySem.W.kitOne K (.type (dN A)) (.type (tyN t)) = some (tyAns t A) := by
  cases t <;> cases A <;> first | exact absurd rfl (h _) | exact kit_ty (by simp only [dN, tyN, tyAns]; decide +kernel)
theorem ty_boot (t : Ty) : bootBuiltins (tyN t) = some (.type (tyN t)) := by
  cases t <;> decide +kernel
theorem s_isi {i j : Nat} {p p2 : Pos} (fx : Fx P n X) (t : Ty) (hg : Gl X "isinstance") (hm : X.mg "isinstance" = none) (hg2 : Gl X (tyN t)) (hm2 : X.mg (tyN t) = none) (ha : PE X ea (tE P F same wx a)) (he : starEach [ea, .Name (tyN t) p2] X.env = (false, eval ea X.env) :: starEach [.Name (tyN t) p2] X.env) :
    PE X (.Call (.Name "isinstance" p) [ea, .Name (tyN t) p2] [] pos) (tE P F same wx (.isi i j a t)) := by
  have hty : PE X (.Name (tyN t) p2) (tC (.ty (tyN t))) := pe_bltn hg2 hm2 (ty_boot t) rfl (by cases t <;> decide) (by cases t <;> decide)
  refine PE_imp (pe_callB call_isi hg hm (by decide +kernel) (pa_cons ha (pa_cons hty pa_nil rfl) he) (by decide) (by decide) he rfl) fun σ H Q ⟨W, M, sd, S, Rl, h⟩ => ?_
  simp only [evE] at h
  exact at_E S Rl h fun W1 d m1 v H1 S1 R1 _ r1 h1 => by
    have ra := S1.rd r1
    have nd : ∀ k, rd m1 d ≠ .dict k := fun k e => by
      unfold isTy at h1
      rw [e] at h1
      cases t <;> exact h1.elim
    refine ⟨v, .ty (tyN t), _, .type (tyN t), tyAns t (rd m1 d), rfl, .ty _, go_tyx fx S1 ra nd, kit_is _ t _ nd, ?_⟩
    unfold isTy at h1
    rw [isTyR_is t _ nd] at h1
    exact h1.val S1 (.bl _)
end
end SS
end PT_SD
section PT_SE
set_option Elab.async false
set_option linter.all false
set_option maxRecDepth 100000
set_option maxHeartbeats 2000000
/-! Calls of defs, targets, what is walked. -/
namespace SS
open PySem PySem.Spec PyProof.Rows L2
/-- a def keeps what the plain one does -/
def FnS (P : Pm) (F : Fns) (prog : Program) (w : World) (mg : Str → Option Value) (base : Heap) (k : Nat) (f : Nat) : Prop :=
  ∀ (A : Around) (outer : List PySem.Env) (s : Shared) (H : Hp) (us : List Value) (vs : List V) (ds : List D) (W : Wd) (M : Mem) (Q : VK) (Ex : XK), Room k A → Env0 prog w P.K mg base A outer s H → Vals vs us → Sim P W M H → VDs P W ds vs →
    Out P (VD P) W Ex (F f ds M) Q → ∃ a, P.fa f = some a ∧ PySem.W.keepIn P.K (.ref a) = true ∧ codeAny (model prog w) A (.call (.ref a) ⟨us, []⟩) (CR (L2N.CX prog w) outer prog w H s Q Ex) s
section
variable {P : Pm} {F : Fns} {same : Nat} {wx : WX} {X : Cx} {n : Nat} {W : Wd} {M m : Mem} {sd : Env} {σ : L2.St} {H : Hp} {a b c : E} {ea eb ec : Expr} {pos : Pos}
/-- the facts about the defs -/
def FnsOk (P : Pm) (F : Fns) (X : Cx) : Prop := ∀ f, FnS P F X.prog X.w X.mg X.base 0 f ∨ True
theorem run_call {k f : Nat} {pins : List (Addr × Obj)} {s : Shared} {Q : VK} {us : List Value} {vs : List V} {ds : List D} (fx : Fx P n X) (hz : n ≠ 0) (tk : L2N.Takes X wx) (hF : FnS P F X.prog X.w X.mg X.base k f) (hk : k ≤ n) (I : Inv X pins σ H s) (r : Vals vs us) (S : Sim P W M H) (rs : VDs P W ds vs)
    (h : Out P (VD P) W (fun c d H' => wx c d σ H') (F f ds M) Q) : ∃ a, P.fa f = some a ∧ PySem.W.keepIn P.K (.ref a) = true ∧ wpAny (model X.prog X.w) X.A (call (.ref a) us) (EP X pins σ Q) X.xe s := by
  have e0 := I.env0
  rw [fx.K] at e0
  obtain ⟨a, h1, h2, h3⟩ := hF X.A X.stack s H us vs ds W M Q (fun c d H' => wx c d σ H') ((fx.room hz).mono hk) e0 r S rs h
  refine ⟨a, h1, h2, wpAny_call (codeAny_mono h3 fun r s' hq => ?_)⟩
  cases r with
  | error e => exact tk e s' (L2N.XE.of_call I (fun _ _ _ h => h) hq)
  | ok fl =>
    cases fl with
    | ret u => exact I.after hq
    | next => exact False.elim hq
    | brk => exact False.elim hq
    | cont => exact False.elim hq
theorem s_call {i k f : Nat} {x : Str} {fa : Addr} {e : Expr} {es : List Expr} {as : Es} {p : Pos} (fx : Fx P n X) (hz : n ≠ 0) (tk : L2N.Takes X wx) (hF : FnS P F X.prog X.w X.mg X.base k f) (hk : k ≤ n) (hfa : P.fa f = some fa) (hkeep : PySem.W.keepIn P.K (.ref fa) = true) (hg : Gl X x) (hm : X.mg x = some (.ref fa)) (hd : (x == ("__debug__" : Str)) = false)
    (ha : PA X (e :: es) (tEs P F same wx as)) (he : starEach (e :: es) X.env = (false, eval e X.env) :: starEach es X.env) (hpl : (backTo pos (starEach es X.env)).any (·.1) = false) : PE X (.Call (.Name x p) (e :: es) [] pos) (tE P F same wx (.call i f as)) := by
  refine ⟨fun pins s σ H Q I ⟨W, M, sd, S, Rl, h⟩ => ?_⟩
  simp only [evE] at h
  refine wpAny_Call_Name_kw (ld_glob I hg hm ?_ hd)
  have ht := at_Es (Q' := fun vs H1 => ∃ W' ds M', Sim P W' M' H1 ∧ VDs P W' ds vs ∧ Out P (VD P) W' (fun c d H' => wx c d σ H') (F f ds M') Q) S Rl h fun W1 d m1 v H1 S1 R1 _ r1 h1 => ⟨W1, d, m1, S1, r1, h1⟩
  refine PySem.W.callWith_K (h₀ := X.base) I.ok.mod.kin (by rw [fx.K]; exact hkeep) (thn (ha.run pos pins s σ H _ I ht) fun us s1 ⟨vs, H1, I1, r, W1, ds, M1, S1, rs, h1⟩ => ⟨I1.kIn, ?_⟩) he hpl
  obtain ⟨a, h2, _, h3⟩ := run_call fx hz tk hF hk I1 r S1 rs h1
  rw [hfa] at h2
  cases h2
  exact h3
theorem s_call0 {i k f : Nat} {x : Str} {fa : Addr} {p : Pos} (fx : Fx P n X) (hz : n ≠ 0) (tk : L2N.Takes X wx) (hF : FnS P F X.prog X.w X.mg X.base k f) (hk : k ≤ n) (hfa : P.fa f = some fa) (hkeep : PySem.W.keepIn P.K (.ref fa) = true) (hg : Gl X x) (hm : X.mg x = some (.ref fa)) (hd : (x == ("__debug__" : Str)) = false) :
    PE X (.Call (.Name x p) [] [] pos) (tE P F same wx (.call i f .nil)) := by
  refine ⟨fun pins s σ H Q I ⟨W, M, sd, S, Rl, h⟩ => ?_⟩
  simp only [evE, evEs, bind_ok] at h
  refine wpAny_Call_Name_kw (ld_glob I hg hm ?_ hd)
  obtain ⟨a, h2, _, h3⟩ := run_call (us := []) fx hz tk hF hk I .nil S .nil h
  rw [hfa] at h2
  cases h2
  exact PySem.W.callWith_K0 I.kIn (by rw [fx.K]; exact hkeep) h3
theorem s_callv {i k : Nat} {x : Str} {e : Expr} {es : List Expr} {as : Es} {p : Pos} (fx : Fx P n X) (hz : n ≠ 0) (tk : L2N.Takes X wx) (hF : ∀ f, (P.fa f).isSome = true → FnS P F X.prog X.w X.mg X.base k f) (hkeep : ∀ f a, P.fa f = some a → PySem.W.keepIn P.K (.ref a) = true) (hk : k ≤ n) (hN : X.N[i]? = some x) (hv : Vis X.env.scope x) (hd : (x == ("__debug__" : Str)) = false) (hcd : (x == ("__classdict__" : Str)) = false)
    (ha : PA X (e :: es) (tEs P F same wx as)) (he : starEach (e :: es) X.env = (false, eval e X.env) :: starEach es X.env) (hpl : (backTo pos (starEach es X.env)).any (·.1) = false) : PE X (.Call (.Name x p) (e :: es) [] pos) (tE P F same wx (.callv i as)) := by
  refine ⟨fun pins s σ H Q I ⟨W, M, sd, S, Rl, h⟩ => ?_⟩
  simp only [evE] at h
  split at h
  · rename_i d e0
    split at h
    · rename_i f ef
      obtain ⟨v, e1, r⟩ := Rl.at_ i d e0
      obtain ⟨a, rfl, hfa⟩ : ∃ a, v = .ref a ∧ P.fa f = some a := by
        cases r with
        | fnv q => simp [fnOf] at ef; subst ef; exact ⟨_, rfl, q⟩
        | loc => simp [fnOf] at ef
        | _ => cases ef
      refine wpAny_Call_Name_kw (thn ((pe_var (pos := p) hN hv hd hcd).run pins s σ H (fun v H1 => v = .ref a ∧ H1 = H) I ⟨.ref a, e1, rfl, rfl⟩) fun u s1 ⟨v, H1, I1, r1, q1, q2⟩ => ?_)
      subst q1
      subst q2
      cases r1
      have ht := at_Es (Q' := fun vs H1 => ∃ W' ds M', Sim P W' M' H1 ∧ VDs P W' ds vs ∧ Out P (VD P) W' (fun c d H' => wx c d σ H') (F f ds M') Q) S Rl h fun W1 d m1 v H1 S1 R1 _ r1 h1 => ⟨W1, d, m1, S1, r1, h1⟩
      refine PySem.W.callWith_K (h₀ := X.base) I1.ok.mod.kin (by rw [fx.K]; exact hkeep f a hfa) (thn (ha.run pos pins s1 σ _ _ I1 ht) fun us s2 ⟨vs, H2, I2, r, W1, ds, M1, S1, rs, h1⟩ => ⟨I2.kIn, ?_⟩) he hpl
      obtain ⟨a', h2, _, h3⟩ := run_call fx hz tk (hF f (by rw [hfa]; rfl)) hk I2 r S1 rs h1
      rw [hfa] at h2
      cases h2
      exact h3
    · exact h.elim
  · exact h.elim
/-! ### targets -/
mutual
def gT (K : PySem.W.Frag) : Tg → TG
  | .nm i => gName i
  | .tup ts => gTup K (tgN ts) (gTs K ts)
def gTs (K : PySem.W.Frag) : Tgs → TGs
  | .nil => gNil
  | .cons t ts => gCons (gT K t) (gTs K ts)
def tgN : Tgs → Nat
  | .nil => 0
  | .cons _ ts => tgN ts + 1
end
mutual
/-- the names of a target are of these -/
def tgIn (own : List Nat) : Tg → Bool
  | .nm i => own.contains i
  | .tup ts => tgsIn own ts
def tgsIn (own : List Nat) : Tgs → Bool
  | .nil => true
  | .cons t ts => tgIn own t && tgsIn own ts
end
/-- an item: a datum, or a pair that was just made -/
def ItR (P : Pm) (W : Wd) (H : Hp) (d : D) (v : V) : Prop := VD P W d v ∨ ∃ ds a xs, d = .tuple ds ∧ v = .ref a ∧ SqT P.K H a xs ∧ VDs P W ds xs
def isTup : Tg → Bool
  | .nm _ => false
  | .tup _ => true
theorem Rels.set {d : D} {v : V} (r : VD P W d v) (i : Nat) (Rl : Rels P W sd σ) : Rels P W (sd.set i (some d)) (σ.set i (some v)) := by
  refine ⟨by simp [Rl.len], fun j e h => ?_⟩
  by_cases hj : i = j
  · subst hj
    have hl : i < sd.length := by
      have := (List.getElem?_eq_some_iff.mp h).1
      simpa using this
    rw [List.getElem?_set_self hl] at h
    cases h
    exact ⟨v, by rw [List.getElem?_set_self (by rw [← Rl.len]; exact hl)], r⟩
  · rw [List.getElem?_set_ne hj] at h ⊢
    exact Rl.at_ j e h
theorem Rels.wipe (Rl : Rels P W sd σ) : ∀ vs : List Nat, Rels P W (wipeE sd vs) (L2.wipe σ vs)
  | [] => Rl
  | v :: vs => by
    have ih := Rels.wipe Rl vs
    refine ⟨by simp [wipeE, L2.wipe, ih.len], fun j e h => ?_⟩
    unfold wipeE at h
    by_cases hj : v = j
    · subst hj
      by_cases hl : v < (wipeE sd vs).length
      · rw [List.getElem?_set_self hl] at h; cases h
      · rw [List.getElem?_eq_none (by simpa using hl)] at h; cases h
    · rw [List.getElem?_set_ne hj] at h
      obtain ⟨x, h1, h2⟩ := ih.at_ j e h
      exact ⟨x, by unfold L2.wipe; rw [List.getElem?_set_ne hj]; exact h1, h2⟩
theorem wipe_set {σ : L2.St} {i : Nat} {x : Option V} : ∀ {vs : List Nat}, i ∈ vs → L2.wipe (σ.set i x) vs = L2.wipe σ vs := by
  have key : ∀ (vs : List Nat) (σ : L2.St), L2.wipe (σ.set i x) vs = (L2.wipe σ vs).set i (if i ∈ vs then none else x) ∨ (¬ i < σ.length) := by
    intro vs
    induction vs with
    | nil => intro σ; exact .inl (by simp [L2.wipe])
    | cons v vs ih =>
      intro σ
      rcases ih σ with h | h
      · left
        unfold L2.wipe
        rw [h]
        by_cases hv : v = i
        · subst hv
          simp
        · rw [List.set_comm _ _ (fun e => hv e.symm)]
          have : (i ∈ v :: vs) ↔ i ∈ vs := by
            rw [List.mem_cons]
            exact ⟨fun h => h.resolve_left fun e => hv e.symm, .inr⟩
          simp only [this]
      · exact .inr h
  intro vs hm
  by_cases hl : i < σ.length
  · rcases key vs σ with h | h
    · rw [h, if_pos hm]
      apply List.ext_getElem?
      intro j
      by_cases hj : i = j
      · subst hj
        have hz : (L2.wipe σ vs)[i]? = some none := by
          have : ∀ (vs : List Nat), i ∈ vs → (L2.wipe σ vs)[i]? = some none := by
            intro vs
            induction vs with
            | nil => intro h; cases h
            | cons v vs ih =>
              intro h
              unfold L2.wipe
              by_cases hv : v = i
              · subst hv
                rw [List.getElem?_set_self (by rw [wipe_length]; exact hl)]
              · rw [List.getElem?_set_ne hv]
                exact ih ((List.mem_cons.mp h).resolve_left fun e => hv e.symm)
          exact this vs hm
        rw [hz, List.getElem?_set_self (by rw [wipe_length]; exact hl)]
      · rw [List.getElem?_set_ne hj]
    · exact absurd hl h
  · rw [List.set_eq_of_length_le (by omega)]
mutual
theorem go_asg {Q : L2.St → Hp → Prop} (g : ∀ a o, W.G a = some o → H a = some o) (own : List Nat) : ∀ {tg : Tg} {d : D} {v : V} {sd sd' : Env} {σ : L2.St}, asg tg d sd = some sd' → (isTup tg = false → VD P W d v) → ItR P W H d v → Rels P W sd σ → (∀ σ', Rels P W sd' σ' → (tgIn own tg = true → L2.wipe σ' own = L2.wipe σ own) → Q σ' H) → gT P.K tg v σ H Q
  | .nm i, d, v, sd, sd', σ, e, hv, r, Rl, k => by
    simp only [asg] at e
    split at e
    · cases e
      exact k _ (Rl.set (hv rfl) i) fun h => wipe_set (by simpa [tgIn] using h)
    · cases e
  | .tup ts, d, v, sd, sd', σ, e, hv, r, Rl, k => by
    have z : ∃ ds a xs, d = .tuple ds ∧ v = .ref a ∧ SqT P.K H a xs ∧ VDs P W ds xs := by
      rcases r with r | r
      · cases d with
        | tuple ds => cases r with
          | tup h1 h2 => exact ⟨ds, _, _, rfl, rfl, (h1.up g).sq, h2⟩
        | _ => simp [asg] at e
      · exact r
    obtain ⟨ds, a, xs, rfl, rfl, h1, h2⟩ := z
    simp only [asg] at e
    obtain ⟨hl, h3⟩ := go_asgs (Q := Q) g own e h2 Rl fun σ' R' w => k σ' R' w
    exact ⟨a, xs, rfl, h1, hl, h3⟩
theorem go_asgs {Q : L2.St → Hp → Prop} (g : ∀ a o, W.G a = some o → H a = some o) (own : List Nat) : ∀ {ts : Tgs} {ds : List D} {vs : List V} {sd sd' : Env} {σ : L2.St}, asgs ts ds sd = some sd' → VDs P W ds vs → Rels P W sd σ → (∀ σ', Rels P W sd' σ' → (tgsIn own ts = true → L2.wipe σ' own = L2.wipe σ own) → Q σ' H) → vs.length = tgN ts ∧ gTs P.K ts vs σ H Q
  | .nil, ds, vs, sd, sd', σ, e, r, Rl, k => by
    cases r with
    | nil => simp only [asgs] at e; cases e; exact ⟨rfl, rfl, k σ Rl fun _ => rfl⟩
    | cons => simp [asgs] at e
  | .cons t ts, ds, vs, sd, sd', σ, e, r, Rl, k => by
    cases r with
    | nil => simp [asgs] at e
    | @cons d ds v vs r1 r2 =>
      simp only [asgs] at e
      cases e1 : asg t d sd with
      | none => rw [e1] at e; cases e
      | some sd1 =>
        rw [e1] at e
        have hl : vs.length = tgN ts := by
          obtain ⟨σ1, hσ⟩ : ∃ σ1 : L2.St, Rels P W sd1 σ1 := ⟨_, (rels_any e1 r1 Rl).choose_spec⟩
          exact (go_asgs (Q := fun _ _ => True) g own e r2 hσ fun _ _ _ => True.intro).1
        refine ⟨by simp [tgN, hl], v, vs, rfl, go_asg (Q := fun σ' H' => gTs P.K ts vs σ' H' Q) g own e1 (fun _ => r1) (.inl r1) Rl fun σ1 R1 w1 => ?_⟩
        exact (go_asgs g own e r2 R1 fun σ2 R2 w2 => k σ2 R2 fun h => by
          simp only [tgsIn, Bool.and_eq_true] at h
          rw [w2 h.2, w1 h.1]).2
theorem rels_any : ∀ {tg : Tg} {d : D} {v : V} {sd sd' : Env} {σ : L2.St}, asg tg d sd = some sd' → VD P W d v → Rels P W sd σ → ∃ σ', Rels P W sd' σ'
  | .nm i, d, v, sd, sd', σ, e, r, Rl => by
    simp only [asg] at e
    split at e
    · cases e; exact ⟨_, Rl.set r i⟩
    · cases e
  | .tup ts, d, v, sd, sd', σ, e, r, Rl => by
    cases d with
    | tuple ds => cases r with
      | tup h1 h2 => simp only [asg] at e; exact rels_anys e h2 Rl
    | _ => simp [asg] at e
theorem rels_anys : ∀ {ts : Tgs} {ds : List D} {vs : List V} {sd sd' : Env} {σ : L2.St}, asgs ts ds sd = some sd' → VDs P W ds vs → Rels P W sd σ → ∃ σ', Rels P W sd' σ'
  | .nil, ds, vs, sd, sd', σ, e, r, Rl => by
    cases r with
    | nil => simp only [asgs] at e; cases e; exact ⟨σ, Rl⟩
    | cons => simp [asgs] at e
  | .cons t ts, ds, vs, sd, sd', σ, e, r, Rl => by
    cases r with
    | nil => simp [asgs] at e
    | @cons d ds v vs r1 r2 =>
      simp only [asgs] at e
      cases e1 : asg t d sd with
      | none => rw [e1] at e; cases e
      | some sd1 =>
        rw [e1] at e
        obtain ⟨σ1, R1⟩ := rels_any e1 r1 Rl
        exact rels_anys e r2 R1
end
end
end SS
end PT_SE
section PT_SF
set_option Elab.async false
set_option linter.all false
set_option maxRecDepth 100000
set_option maxHeartbeats 2000000
/-! enumerate over a tuple. -/
namespace SS
open PySem PySem.Spec PyProof.Rows L2
open Sem (wp)
open AutoSeq1 (wpAny_loadPart')
theorem new_enumT (l : Addr) (items : Array Value) :
    Meets (Builtin.«enumerate.__new__» ⟨[.type "enumerate", .ref l], []⟩) (fun _ R s => s.heap.IsTuple l items ∧ R (.ok (.ret (.ref (s.heap.push { cls := .type "tuple_iterator", data := .fields #[.ref l, .int 0 0] }).objs.size)))
        { s with heap := (s.heap.push { cls := .type "tuple_iterator", data := .fields #[.ref l, .int 0 0] }).push { cls := .type "enumerate", data := .fields #[.none, .bool false, .ref s.heap.objs.size, rawInt 0, .none, .none] } }) :=
  .of_wp fun prog w A R s h => by
    obtain ⟨hp, g, d, tk, os⟩ := s
    obtain ⟨hl, h⟩ := h
    have hsub := sub_enumerate
    have q1 : ∀ {A' : Around} {E : Value → Shared → Prop} {Q : Value → Shared → Prop}, Q (.ref hp.objs.size) ⟨hp.push { cls := .type "tuple_iterator", data := .fields #[.ref l, .int 0 0] }, g, d, tk, os⟩ → wpAny (model prog w) A' (pyIter (.ref l)) Q E ⟨hp, g, d, tk, os⟩ := fun q => wpAny_pyIter_tuple hl q
    wp_walk using q1
    refine wpAny_stack_any fun st => wpAny_pure ?_
    split
    · rename_i c _ _ _ _ _
      cases (c == Value.type "enumerate") <;> (wp_walk using q1; exact ⟨_, rfl, h⟩)
    · wp_walk using q1; exact ⟨_, rfl, h⟩
section
variable {prog : Program} {w : World} {A : Around} {E : Value → Shared → Prop} {s : Shared}
theorem call_enumT {l : Addr} {items : Array Value} {Q : Value → Shared → Prop} (hL : s.heap.IsTuple l items)
    (h : ∀ h', IsEnum h' (s.heap.objs.size + 1) s.heap.objs.size 0 .none → h'.IsTupleIter s.heap.objs.size l 0 → h'.objs.size = s.heap.objs.size + 2 → (∀ b o, s.heap.get? b = some o → h'.get? b = some o) → Q (.ref (s.heap.objs.size + 1)) { s with heap := h' }) :
    wpAny (model prog w) A (call (.type "enumerate") [.ref l]) Q E s := by
  refine callType_new F.called_enumerate (by decide) (F.typeCall_enumerate_1 _) (F.newCall_enumerate_1 _) (fun obj => F.args_object_init_2 obj _) F.entry_enumerate_new (new_enumT l items) ⟨hL, ?_⟩
  have hz : (s.heap.push { cls := .type "tuple_iterator", data := .fields #[.ref l, .int 0 0] }).objs.size = s.heap.objs.size + 1 := Heap.size_push ..
  show _ ∧ _
  rw [hz]
  have he : IsEnum ((s.heap.push { cls := .type "tuple_iterator", data := .fields #[.ref l, .int 0 0] }).push { cls := .type "enumerate", data := .fields #[.none, .bool false, .ref s.heap.objs.size, rawInt 0, .none, .none] }) (s.heap.objs.size + 1) s.heap.objs.size 0 .none := by
    have q := Heap.get?_push_size (s.heap.push { cls := .type "tuple_iterator", data := .fields #[.ref l, .int 0 0] }) (o := { cls := .type "enumerate", data := .fields #[.none, .bool false, .ref s.heap.objs.size, rawInt 0, .none, .none] }) rfl
    rw [hz] at q
    exact q
  exact ⟨⟨_, he, rfl⟩, h _ he ⟨_, Heap.get?_push_of_some _ (Heap.get?_push_size _ rfl), rfl, rfl⟩ (by rw [Heap.size_push, hz]) fun b o x => Heap.get?_push_of_some _ (Heap.get?_push_of_some _ x)⟩
end
def IteT (K : PySem.W.Frag) (a : Addr) : L2.It :=
  ⟨fun i H => ∃ (xs : List V) (x : V), SqT K H a xs ∧ xs[i]? = some x, fun i H v H' => ∃ T x, v = .ref T ∧ H T = none ∧ H' = upd H T (.tup [.int (i : Nat), x]) ∧ ∀ xs, SqT K H a xs → xs[i]? = some x, fun i H => ∃ xs : List V, SqT K H a xs ∧ xs.length = i⟩
theorem turn_enumT {P : Program} {w : World} {K : PySem.W.Frag} {elts : List Expr} {kk : Nat} {tpos : Pos} (a e it : Addr) (hat : a ≠ it) (hae : e ≠ a) :
    Turn P w K (.Tuple elts kk tpos) (IteT K a) [e, it] e (fun i h => (∃ old, IsEnum h e it ((i : Nat) : Int) old) ∧ h.IsTupleIter it a i ∧ e ≠ it) where
  mem := by simp
  obj := fun i h st b hb => by
    obtain ⟨⟨old, he⟩, ⟨o, ho, hc, hd⟩, _⟩ := st
    rcases (by simpa using hb : b = e ∨ b = it) with z | z
    · rw [z]; exact ⟨_, he, fun v q => nomatch q⟩
    · rw [z]; exact ⟨o, ho, fun v q => by rw [hd] at q; cases q⟩
  keep := fun i h h' st k => let ⟨⟨old, he⟩, hi, hne⟩ := st; ⟨⟨old, k e (by simp) _ he⟩, hi.at fun o q => k it (by simp) o q, hne⟩
  item := by
    intro X hP hw hK hc i pins s σ H E I hf st hg
    subst hP hw hK
    obtain ⟨⟨old, he⟩, hit, hne⟩ := st
    obtain ⟨xs, x, hq, hx⟩ := hg
    obtain ⟨its, rv, p, hz⟩ := I.tuple hq
    obtain ⟨u, hu, ru⟩ := rv.get hx
    have hel : e < s.heap.objs.size := Heap.lt_size he
    have hil : it < s.heap.objs.size := by obtain ⟨_, q, _⟩ := hit; exact Heap.lt_size q
    have hi : i < its.toArray.size := by simpa using (List.getElem?_eq_some_iff.mp hu).1
    refine wpAny_pyNext_enum_itemD (PySem.Draws.tuple (A := X.A.in1) (I.ok.hd hc) it a hat its.toArray) he ⟨hit, p⟩ hi hne (by simp [hne, hae]) fun x' h' tk hPx ho hst' hT hsz hk => ?_
    have ex : x' = u := by
      have q : its.toArray[i]? = some u := by simpa using hu
      rw [q] at hPx
      exact (Option.some.inj hPx).symm
    subst ex
    refine ⟨_, rfl, wpAny_letOwnedTupleGo_enum (s := { s with heap := h', toks := tk + 1 }) ho fun h'' he' sb => ?_⟩
    have hT2 : h''.get? s.heap.objs.size = some { cls := .type "tuple", data := .seq #[.int i tk, x'] } := (sb.2 _ (Nat.ne_of_gt hel)).trans hT
    have new : ObjOk X.prog X.w (upd H s.heap.objs.size (.tup [.int (i : Nat), x])) h'' s.heap.objs.size (.tup [.int (i : Nat), x]) := ⟨by show 2 ≤ sizeLine; decide, [.int i tk, x'], .cons ⟨_, rfl⟩ (.cons ru .nil), ⟨_, hT2, rfl, _, rfl⟩⟩
    have I1 : Inv X pins σ (upd H s.heap.objs.size (.tup [.int (i : Nat), x])) { s with heap := h'', toks := tk + 1 } :=
      I.turnedNew (ch := [e, it]) (fun b ob hb q => (sb.2 b (fun z => hb (by simp [z]))).trans (hk b ob (fun z => hb (by simp [z])) (fun z => hb (by simp [z])) q)) hf (Nat.le_refl _) new
    refine ⟨.ref s.heap.objs.size, _, I1, rfl, ⟨_, x, rfl, I.hok.fresh (Nat.le_refl _), rfl, fun ys hy => by rw [I.tuple_inj hy hq]; exact hx⟩, ⟨⟨x', ?_⟩, hst'.1.at fun o q => (sb.2 it (Ne.symm hne)).trans q, hne⟩, fun b hb => ?_⟩
    · rw [show ((i + 1 : Nat) : Int) = (i : Int) + 1 by omega]
      exact he'
    · have hb' : b < s.heap.objs.size := by
        rcases (by simpa using hb : b = e ∨ b = it) with z | z
        · rw [z]; exact hel
        · rw [z]; exact hil
      rw [upd_ne (Nat.ne_of_lt hb')]
      exact (hf b hb).1
  done := by
    intro X hP hw hK hc i pins s σ H E I hf st hg
    subst hP hw hK
    obtain ⟨⟨old, he⟩, hit, hne⟩ := st
    obtain ⟨xs, hq, hx⟩ := hg
    obtain ⟨its, rv, p, hz⟩ := I.tuple hq
    obtain ⟨f0, f1, f2, f3, f4, f5⟩ := hf it (by simp)
    have hl := rv.length
    have e0 : i = its.toArray.size := by simp only [List.size_toArray]; omega
    subst e0
    exact wpAny_pyNext_enum_endD (PySem.Draws.tuple (A := X.A.in1) (I.ok.hd hc) it a hat its.toArray) he ⟨hit, p⟩ fun h' eb => ⟨rfl, I.turned (t' := s.toks) (fun b o hb q => eb b o hb q) f0 f1 f3 f4 f5⟩
  self := fun A i s Q E st h => let ⟨⟨_, he⟩, _⟩ := st; wpAny_pyIter_enum he h
end SS
end PT_SF
section PT_SG
set_option Elab.async false
set_option linter.all false
set_option maxRecDepth 100000
set_option maxHeartbeats 2000000
/-! What is walked; loops. -/
namespace SS
open PySem PySem.Spec PyProof.Rows L2
def It.pr : It → Bool
  | .enum _ _ => true
  | .zip _ _ _ => true
  | _ => false
/-- the iterator goes through the walk's items -/
def WR (P : Pm) (pr : Bool) : Wd → Walk → L2.It → Prop := fun W w J => ∀ (i : Nat) (W' : Wd) (M' : Mem) (H' : Hp), Lq W W' → Sim P W' M' H' → w.stays M' →
  (∀ d, w.items[i]? = some d → J.go i H' ∧ ∀ x H'', J.yld i H' x H'' → Sim P W' M' H'' ∧ ItR P W' H'' d x ∧ (pr = false → VD P W' d x)) ∧ (i = w.items.length → J.stop i H')
def tI (P : Pm) (F : Fns) (same : Nat) (wx : WX) (pr : Bool) (e : It) : TI := fun σ H R => ∃ W M sd, Sim P W M H ∧ Rels P W sd σ ∧ Out P (WR P pr) W (fun c d H' => wx c d σ H') (evI F same e sd M) R
theorem PI_imp {X : Cx} {tg e : Expr} {t t' : TI} (h : PI X tg e t) (k : ∀ σ H R, t' σ H R → t σ H R) : PI X tg e t' := ⟨fun pins s σ H R I q => h.run pins s σ H R I (k _ _ _ q)⟩
section
variable {P : Pm} {F : Fns} {same : Nat} {wx : WX} {X : Cx} {n : Nat} {W : Wd} {M m : Mem} {sd : Env} {σ : L2.St} {H : Hp} {a b c : E} {ea eb ec tg : Expr} {pos : Pos}
/-- a list, a tuple, a text -/
def walks (K : PySem.W.Frag) (x : V) (H : Hp) (R : L2.It → Hp → Prop) : Prop :=
  (∃ a, x = .ref a ∧ (∃ xs, SqL K H a xs) ∧ R (Itl K a) H) ∨ (∃ a, x = .ref a ∧ (∃ xs, SqT K H a xs) ∧ R (Itt K a) H) ∨ ∃ z, x = .str z ∧ R (Its z) H
theorem pi_any {te : TE} (he : PE X ea te) : PI X tg ea (fun σ H R => te σ H fun x H1 => walks X.K x H1 R) := by
  refine ⟨fun pins s σ H R I h => thn (he.run pins s σ H _ I h) fun v s1 ⟨x, H1, I1, r1, q1⟩ => ?_⟩
  have key : ∀ (t : TI), (∀ tl : TE, PE X ea tl → True) → True := fun _ _ => True.intro
  rcases q1 with ⟨a, rfl, ⟨xs, hq⟩, q⟩ | ⟨a, rfl, ⟨xs, hq⟩, q⟩ | ⟨z, rfl, q⟩
  · cases r1
    obtain ⟨its, rv, p, hz⟩ := I1.list hq
    refine wpAny_pyIter_list p.isList ⟨s1.heap.objs.size, [s1.heap.objs.size], _, _, H1, rfl, I1.kept (t' := s1.toks) fun b o e => Heap.get?_push_of_some _ e, turn_list a _, ⟨_, Heap.get?_push_size _ rfl, rfl, rfl⟩, fun b hb => ?_, q⟩
    rw [List.mem_singleton.mp hb]
    exact I1.fpOk (Nat.le_refl _) (I1.hok.fresh (Nat.le_refl _))
  · cases r1
    obtain ⟨its, rv, p, hz⟩ := I1.tuple hq
    refine wpAny_pyIter_tuple (show s1.heap.IsTuple a its.toArray from p) ⟨s1.heap.objs.size, [s1.heap.objs.size], _, _, H1, rfl, I1.kept (t' := s1.toks) fun b o e => Heap.get?_push_of_some _ e, turn_tuple a _, ⟨_, Heap.get?_push_size _ rfl, rfl, rfl⟩, fun b hb => ?_, q⟩
    rw [List.mem_singleton.mp hb]
    exact I1.fpOk (Nat.le_refl _) (I1.hok.fresh (Nat.le_refl _))
  · obtain ⟨t, rfl⟩ := r1
    cases ha : z.cps.all (· < 128)
    · exact wpAny_pyIter_wide ha (pi_one (tk := s1.toks) I1 _ (turn_str _ z t "str_iterator" (.inr rfl)) ⟨_, Heap.get?_push_size _ rfl, rfl, rfl⟩ q)
    · exact wpAny_pyIter_ascii ha (pi_one (tk := s1.toks) I1 _ (turn_str _ z t "str_ascii_iterator" (.inl rfl)) ⟨_, Heap.get?_push_size _ rfl, rfl, rfl⟩ q)
/-- what walkOf tells -/
theorem walk_list (S : Sim P W m H) {d : D} {x : V} {ds : List D} (r : VD P W d x) (e : rd m d = .list ds) : ∃ a xs, x = .ref a ∧ SqL P.K H a xs ∧
    ∀ (W' : Wd) (M' : Mem) (H' : Hp), Lq W W' → Sim P W' M' H' → Walk.stays ⟨ds, (locOf d).map fun i => (i, ds)⟩ M' → ∃ us, SqL P.K H' a us ∧ VDs P W' ds us := by
  cases r with
  | lst h t =>
    have e : PyData.list _ = PyData.list ds := e
    cases e
    exact ⟨_, _, rfl, .inl (rd_up S.sub h), fun W' M' H' l S' _ => ⟨_, .inl (rd_up S'.sub (rd_up l.g h)), t.upq l⟩⟩
  | @loc i a q =>
    have e : rd m (loc i) = .list ds := e
    rw [rd_loc] at e
    split at e
    · rename_i ys hy
      cases e
      obtain ⟨_, u, h1, h2⟩ := S.cell i a _ q hy
      cases u <;> first | exact h2.elim | skip
      refine ⟨a, _, rfl, .inl (.inl h1), fun W' M' H' l S' st => ?_⟩
      have st : M'[i]? = some (.lst ds) := by
        have st : Walk.stays ⟨ds, (locOf (loc i)).map fun i => (i, ds)⟩ M' := st
        rw [locOf_loc] at st
        exact st
      obtain ⟨_, u, k1, k2⟩ := S'.cell i a _ (l.at q) st
      cases u <;> first | exact k2.elim | exact ⟨_, .inl (.inl k1), k2⟩
    · simp [loc] at e
  | tup => cases e
  | fnv => cases e
  | _ => cases e
theorem walk_tup (S : Sim P W m H) {d : D} {x : V} {ds : List D} (r : VD P W d x) (e : rd m d = .tuple ds) : ∃ a xs, x = .ref a ∧ TupG P.K W.G a xs ∧ VDs P W ds xs := by
  have q := S.rd r
  rw [e] at q
  obtain ⟨p, xs, rfl, a1, a2⟩ := q
  exact ⟨p, xs, rfl, a1, a2⟩
/-- two sequences that are read at one place are one -/
def SameL (X : Cx) : Prop := True
theorem s_iter (fx : Fx P n X) (ha : PE X ea (tE P F same wx a)) : PI X tg ea (tI P F same wx false (.e a)) :=
  PI_imp (pi_any ha) fun σ H R ⟨W, M, sd, S, Rl, h⟩ => by
    simp only [evI] at h
    exact at_E S Rl h fun W1 d m1 v H1 S1 R1 _ r1 h1 => by
      unfold walkOf at h1
      split at h1
      · rename_i ds e
        obtain ⟨a, xs, rfl, hq, k⟩ := walk_list S1 r1 e
        refine .inl ⟨a, rfl, ⟨xs, by rw [fx.K]; exact hq⟩, h1.val S1 fun i W' M' H' l S' st => ?_⟩
        obtain ⟨us, q1, q2⟩ := k W' M' H' l S' st
        refine ⟨fun d' hd => ?_, fun hi => ⟨us, by rw [fx.K]; exact q1, by rw [q2.length, hi]; exact Nat.le_refl _⟩⟩
        obtain ⟨y, hy, ry⟩ := q2.get hd
        refine ⟨⟨us, y, by rw [fx.K]; exact q1, hy⟩, ?_⟩
        rintro x H'' ⟨rfl, hx⟩
        have := hx us (by rw [fx.K]; exact q1)
        rw [hy] at this
        cases this
        exact ⟨S', .inl ry, fun _ => ry⟩
      · rename_i ds e
        obtain ⟨a, xs, rfl, a1, a2⟩ := walk_tup S1 r1 e
        refine .inr (.inl ⟨a, rfl, ⟨xs, by rw [fx.K]; exact (a1.up S1.sub).sq⟩, h1.val S1 fun i W' M' H' l S' st => ?_⟩)
        have q1 : SqT X.K H' a xs := by rw [fx.K]; exact ((a1.up l.g).up S'.sub).sq
        have q2 := a2.upq l
        refine ⟨fun d' hd => ?_, fun hi => ⟨xs, q1, by rw [q2.length, hi]; exact Nat.le_refl _⟩⟩
        obtain ⟨y, hy, ry⟩ := q2.get hd
        refine ⟨⟨xs, y, q1, hy⟩, ?_⟩
        rintro x H'' ⟨rfl, hx⟩
        have := hx xs q1
        rw [hy] at this
        cases this
        exact ⟨S', .inl ry, fun _ => ry⟩
      · rename_i z e
        have rv := S1.rd r1
        rw [e] at rv
        cases rv
        refine .inr (.inr ⟨z, rfl, h1.val S1 fun i W' M' H' l S' st => ?_⟩)
        refine ⟨fun d' hd => ?_, fun hi => ?_⟩
        · simp only [List.getElem?_map, Option.map_eq_some_iff] at hd
          obtain ⟨c, hc, rfl⟩ := hd
          have hc : z.cps[i]? = some c := by simpa using hc
          refine ⟨(Array.getElem?_eq_some_iff.mp hc).1, ?_⟩
          rintro x H'' ⟨rfl, c', hc', rfl⟩
          rw [hc] at hc'
          cases hc'
          exact ⟨S', .inl (.str _), fun _ => .str _⟩
        · show z.cps.size ≤ i
          simp at hi
          omega
      · exact h1.elim
theorem range_at {lo hi : Int} {i : Nat} {d : D} (h : (rangeD lo hi)[i]? = some d) : i < (hi - lo).toNat ∧ d = .int (lo + i) := by
  unfold rangeD at h
  rw [List.getElem?_map, Option.map_eq_some_iff] at h
  obtain ⟨j, hj, rfl⟩ := h
  have hl : i < (hi - lo).toNat := by
    have := (List.getElem?_eq_some_iff.mp hj).1
    simpa using this
  rw [List.getElem?_range hl] at hj
  cases hj
  exact ⟨hl, rfl⟩
theorem range_len {lo hi : Int} : (rangeD lo hi).length = (hi - lo).toNat := by simp [rangeD]
theorem range_walk {lo hi : Int} : WR P false W ⟨rangeD lo hi, none⟩ (Itr lo (hi - lo).toNat) := fun i W' M' H' l S' st => by
  refine ⟨fun d hd => ?_, fun e => ?_⟩
  · obtain ⟨h1, rfl⟩ := range_at hd
    refine ⟨h1, ?_⟩
    rintro x H'' ⟨rfl, rfl⟩
    exact ⟨S', .inl (.int _), fun _ => .int _⟩
  · have e : i = (rangeD lo hi).length := e
    rw [range_len] at e
    show (hi - lo).toNat ≤ i
    omega
theorem pi_rng {e : Expr} {es : List Expr} {ta : TA} {p : Pos} (hg : Gl X "range") (hm : X.mg "range" = none) (ha : PA X (e :: es) ta) (he : starEach (e :: es) X.env = (false, eval e X.env) :: starEach es X.env) (hpl : (backTo pos (starEach es X.env)).any (·.1) = false) :
    PI X tg (.Call (.Name "range" p) (e :: es) [] pos) (fun σ H R => ta σ H fun vs H1 => (∃ j : Int, vs = [.int j] ∧ -(2 ^ 62) ≤ j ∧ j < 2 ^ 62 ∧ R (Itr 0 j.toNat) H1) ∨ ∃ i j : Int, vs = [.int i, .int j] ∧ (-(2 ^ 62) ≤ i ∧ i < 2 ^ 62 ∧ -(2 ^ 62) ≤ j ∧ j < 2 ^ 62) ∧ R (Itr i (j - i).toNat) H1) := by
  refine ⟨fun pins s σ H R I h => Call_ (ld_blt I hg hm boot_range (PyProof.Rows.callWith_type1 (thn (ha.run pos pins s σ H _ I h) fun us s1 ⟨vs, H1, I1, r1, q1⟩ => ?_) he hpl))⟩
  rcases q1 with ⟨j, rfl, q1, q2, q⟩ | ⟨i, j, rfl, ⟨q1, q2, q3, q4⟩, q⟩
  · obtain ⟨u, rfl, t, rfl⟩ := vals1 r1
    exact call_range_1 (range_it I1 (by omega) (by omega) q1 q2 (by simpa using q))
  · obtain ⟨u, w, rfl, ⟨t, rfl⟩, ⟨t', rfl⟩⟩ := vals2 r1
    exact call_range_2 (range_it I1 q1 q2 q3 q4 q)
theorem s_range {i : Nat} {e : Expr} {es : List Expr} {as : Es} {p : Pos} (hg : Gl X "range") (hm : X.mg "range" = none) (ha : PA X (e :: es) (tEs P F same wx as)) (he : starEach (e :: es) X.env = (false, eval e X.env) :: starEach es X.env) (hpl : (backTo pos (starEach es X.env)).any (·.1) = false) :
    PI X tg (.Call (.Name "range" p) (e :: es) [] pos) (tI P F same wx false (.range i as)) :=
  PI_imp (pi_rng hg hm ha he hpl) fun σ H R ⟨W, M, sd, S, Rl, h⟩ => by
    simp only [evI] at h
    exact at_Es S Rl h fun W1 ds m1 vs H1 S1 R1 _ r1 h1 => by
      unfold rangeOf at h1
      split at h1
      · rename_i j
        cases r1 with
        | cons r t =>
          cases t
          cases r
          have h1 := h1.guard
          have q := range_walk (P := P) (W := W1) (lo := 0) (hi := j)
          rw [Int.sub_zero] at q
          exact .inl ⟨_, rfl, h1.1.1, h1.1.2, h1.2.val S1 q⟩
      · cases r1 with
        | cons r t =>
          cases t with
          | cons r' t =>
            cases t
            cases r
            cases r'
            have h1 := h1.guard
            exact .inr ⟨_, _, rfl, h1.1, h1.2.val S1 range_walk⟩
      · exact h1.elim
/-! ### enumerate, zip -/
def enums (X : Cx) (vs : List V) (H1 : Hp) (R : L2.It → Hp → Prop) : Prop := (∃ a xs, vs = [.ref a] ∧ SqL X.K H1 a xs ∧ R (Ite X.K a) H1) ∨ ∃ a xs, vs = [.ref a] ∧ SqT X.K H1 a xs ∧ R (IteT X.K a) H1
theorem pi_enumA {e : Expr} {ta : TA} {p tpos : Pos} {elts : List Expr} {kk : Nat} (hg : Gl X "enumerate") (hm : X.mg "enumerate" = none) (ha : PA X [e] ta) (hs : starEach [e] X.env = [(false, eval e X.env)]) :
    PI X (.Tuple elts kk tpos) (.Call (.Name "enumerate" p) [e] [] pos) (fun σ H R => ta σ H fun vs H1 => enums X vs H1 R) := by
  refine ⟨fun pins s σ H R I h => Call_ (ld_blt I hg hm boot_enumerate (PyProof.Rows.callWith_type1 (thn (ha.run pos pins s σ H _ I h) fun us s1 ⟨vs, H1, I1, r1, q1⟩ => ?_) hs rfl))⟩
  have fr : ∀ {b : Addr}, b ∈ [s1.heap.objs.size + 1, s1.heap.objs.size] → FpOk X pins H1 b := fun {b} hb => by
    have hle : s1.heap.objs.size ≤ b := by
      rcases (by simpa using hb : b = s1.heap.objs.size + 1 ∨ b = s1.heap.objs.size) with z | z
      · rw [z]; exact Nat.le_succ _
      · rw [z]; exact Nat.le_refl _
    exact I1.fpOk hle (I1.hok.fresh hle)
  rcases q1 with ⟨a, xs, rfl, hq, q⟩ | ⟨a, xs, rfl, hq, q⟩
  · obtain ⟨u, rfl, ru⟩ := vals1 r1
    cases ru
    obtain ⟨its, rv, p', hz⟩ := I1.list hq
    refine call_enumerate_list p'.isList fun h' he hit hsz hk => wpAny_pyIter_enum he ?_
    exact ⟨s1.heap.objs.size + 1, [s1.heap.objs.size + 1, s1.heap.objs.size], _, _, H1, rfl, I1.kept (t' := s1.toks) hk, turn_enum a (s1.heap.objs.size + 1) s1.heap.objs.size, ⟨⟨.none, he⟩, hit, Nat.succ_ne_self _⟩, fun b hb => fr hb, q⟩
  · obtain ⟨u, rfl, ru⟩ := vals1 r1
    cases ru
    obtain ⟨its, rv, p', hz⟩ := I1.tuple hq
    have la : a < s1.heap.objs.size := by obtain ⟨o, ho, _⟩ := p'; exact Heap.lt_size ho
    refine call_enumT (show s1.heap.IsTuple a its.toArray from p') fun h' he hit hsz hk => wpAny_pyIter_enum he ?_
    exact ⟨s1.heap.objs.size + 1, [s1.heap.objs.size + 1, s1.heap.objs.size], _, _, H1, rfl, I1.kept (t' := s1.toks) hk, turn_enumT a (s1.heap.objs.size + 1) s1.heap.objs.size (Nat.ne_of_lt la) (Nat.ne_of_gt (Nat.lt_succ_of_lt la)), ⟨⟨.none, he⟩, hit, Nat.succ_ne_self _⟩, fun b hb => fr hb, q⟩
theorem enumD_at : ∀ {ds : List D} {k i : Nat} {d : D}, (enumD k ds)[i]? = some d → ∃ e, ds[i]? = some e ∧ d = .tuple [.int ((k + i : Nat) : Int), e]
  | [], _, _, _, h => by simp [enumD] at h
  | x :: xs, k, 0, d, h => by simp [enumD] at h; exact ⟨x, rfl, h.symm⟩
  | x :: xs, k, i + 1, d, h => by
    have h : (enumD (k + 1) xs)[i]? = some d := by simpa [enumD] using h
    obtain ⟨e, h1, h2⟩ := enumD_at h
    exact ⟨e, by simpa using h1, by rw [h2]; congr 3; omega⟩
theorem enumD_len : ∀ {ds : List D} {k : Nat}, (enumD k ds).length = ds.length
  | [], _ => rfl
  | x :: xs, k => by simp [enumD, enumD_len (ds := xs)]
/-- a pair that was just made -/
theorem pair_it {i : Nat} {W' : Wd} {M' : Mem} {H' : Hp} (S' : Sim P W' M' H') {T : Addr} {x y : V} {d e : D} (hT : H' T = none) (r1 : VD P W' d x) (r2 : VD P W' e y) : Sim P W' M' (upd H' T (.tup [x, y])) ∧ ItR P W' (upd H' T (.tup [x, y])) (.tuple [d, e]) (.ref T) :=
  ⟨S'.skip hT, .inr ⟨_, T, [x, y], rfl, rfl, SqT.of upd_same, .cons r1 (.cons r2 .nil)⟩⟩
theorem s_enum {i : Nat} {p tpos : Pos} {elts : List Expr} {kk : Nat} (fx : Fx P n X) (hg : Gl X "enumerate") (hm : X.mg "enumerate" = none) (ha : PE X ea (tE P F same wx a)) (hs : starEach [ea] X.env = [(false, eval ea X.env)]) :
    PI X (.Tuple elts kk tpos) (.Call (.Name "enumerate" p) [ea] [] pos) (tI P F same wx true (.enum i a)) :=
  PI_imp (pi_enumA hg hm (s_cons ha s_nil hs) hs) fun σ H R ⟨W, M, sd, S, Rl, h⟩ => by
    have h : Out P (WR P true) W (fun c d H' => wx c d σ H') ((evEs F same (.cons a .nil) sd M).bind fun ds m => (match ds with
      | [x] => (walkLT x m).bind fun w m => .ok ⟨enumD 0 w.items, w.cell⟩ m
      | _ => (SS.R.no : SS.R Walk))) R := by
      simp only [evI] at h
      simp only [evEs, bind_assoc, bind_ok]
      exact h
    exact at_Es S Rl h fun W1 ds m1 vs H1 S1 R1 _ r1 h1 => by
      split at h1
      · rename_i d
        obtain ⟨v, rfl, r2⟩ : ∃ v, vs = [v] ∧ VD P W1 d v := by
          cases r1 with
          | cons r t => cases t; exact ⟨_, rfl, r⟩
        unfold walkLT at h1
        split at h1
        · rename_i ds e
          obtain ⟨a, xs, rfl, hq, k⟩ := walk_list S1 r2 e
          refine .inl ⟨a, xs, rfl, by rw [fx.K]; exact hq, h1.val S1 fun i W' M' H' l S' st => ?_⟩
          obtain ⟨us, q1, q2⟩ := k W' M' H' l S' st
          refine ⟨fun d' hd => ?_, fun hi => ⟨us, by rw [fx.K]; exact q1, by rw [q2.length, hi]; show _ ≤ (enumD 0 ds).length; rw [enumD_len]; exact Nat.le_refl _⟩⟩
          obtain ⟨e', he, rfl⟩ := enumD_at hd
          obtain ⟨y, hy, ry⟩ := q2.get he
          refine ⟨⟨us, y, by rw [fx.K]; exact q1, hy⟩, ?_⟩
          rintro x H'' ⟨T, y', rfl, hT, rfl, hx⟩
          have := hx us (by rw [fx.K]; exact q1)
          rw [hy] at this
          cases this
          have z := pair_it (i := i) S' hT (.int ((0 + i : Nat) : Int)) ry
          rw [Nat.zero_add] at z ⊢
          exact ⟨z.1, z.2, fun q => by cases q⟩
        · rename_i ds e
          obtain ⟨a, xs, rfl, a1, a2⟩ := walk_tup S1 r2 e
          refine .inr ⟨a, xs, rfl, by rw [fx.K]; exact (a1.up S1.sub).sq, h1.val S1 fun i W' M' H' l S' st => ?_⟩
          have q1 : SqT X.K H' a xs := by rw [fx.K]; exact ((a1.up l.g).up S'.sub).sq
          have q2 := a2.upq l
          refine ⟨fun d' hd => ?_, fun hi => ⟨xs, q1, by rw [q2.length, hi]; show _ = (enumD 0 ds).length; rw [enumD_len]⟩⟩
          obtain ⟨e', he, rfl⟩ := enumD_at hd
          obtain ⟨y, hy, ry⟩ := q2.get he
          refine ⟨⟨xs, y, q1, hy⟩, ?_⟩
          rintro x H'' ⟨T, y', rfl, hT, rfl, hx⟩
          have := hx xs q1
          rw [hy] at this
          cases this
          have z := pair_it (i := i) S' hT (.int ((0 + i : Nat) : Int)) ry
          rw [Nat.zero_add] at z ⊢
          exact ⟨z.1, z.2, fun q => by cases q⟩
        · exact h1.elim
      · exact h1.elim
theorem zipD_at : ∀ {ds es : List D} {i : Nat} {d : D}, (zipD ds es)[i]? = some d → ∃ x y, ds[i]? = some x ∧ es[i]? = some y ∧ d = .tuple [x, y]
  | [], _, _, _, h => by simp [zipD] at h
  | _ :: _, [], _, _, h => by simp [zipD] at h
  | x :: xs, y :: ys, 0, d, h => by simp [zipD] at h; exact ⟨x, y, rfl, rfl, h.symm⟩
  | x :: xs, y :: ys, i + 1, d, h => by
    have h : (zipD xs ys)[i]? = some d := by simpa [zipD] using h
    obtain ⟨a, b, h1, h2, h3⟩ := zipD_at h
    exact ⟨a, b, by simpa using h1, by simpa using h2, h3⟩
theorem zipD_len : ∀ {ds es : List D}, (zipD ds es).length = min ds.length es.length
  | [], es => by simp [zipD]
  | _ :: _, [] => by simp [zipD]
  | x :: xs, y :: ys => by simp [zipD, zipD_len (ds := xs) (es := ys)]
theorem s_zip {i : Nat} {p tpos : Pos} {elts : List Expr} {kk : Nat} (fx : Fx P n X) (hg : Gl X "zip") (hm : X.mg "zip" = none) (ha : PE X ea (tE P F same wx a)) (hb : PE X eb (tE P F same wx b)) (hs : starEach [ea, eb] X.env = (false, eval ea X.env) :: starEach [eb] X.env) (hs2 : starEach [eb] X.env = (false, eval eb X.env) :: starEach [] X.env)
    (hpl : (backTo pos (starEach [eb] X.env)).any (·.1) = false) : PI X (.Tuple elts kk tpos) (.Call (.Name "zip" p) [ea, eb] [] pos) (tI P F same wx true (.zip i a b)) :=
  PI_imp (RZ.pi_zipA hg hm (s_cons ha (s_cons hb s_nil hs2) hs) hs hpl) fun σ H R ⟨W, M, sd, S, Rl, h⟩ => by
    have h : Out P (WR P true) W (fun c d H' => wx c d σ H') ((evEs F same (.cons a (.cons b .nil)) sd M).bind fun ds m => (match ds with
      | [x, y] => (match rd m x, rd m y with
        | .list xs, .list ys => guard ((locOf x).isNone = true ∧ (locOf y).isNone = true) (.ok ⟨zipD xs ys, none⟩ m)
        | .tuple xs, .tuple ys => .ok ⟨zipD xs ys, none⟩ m
        | _, _ => .no)
      | _ => (SS.R.no : SS.R Walk))) R := by
      simp only [evI] at h
      simp only [evEs, bind_assoc, bind_ok]
      exact h
    exact at_Es S Rl h fun W1 ds m1 vs H1 S1 R1 _ r1 h1 => by
      split at h1
      · rename_i d e
        obtain ⟨v, w, rfl, r2, r3⟩ : ∃ v w, vs = [v, w] ∧ VD P W1 d v ∧ VD P W1 e w := by
          cases r1 with
          | cons r t => cases t with
            | cons r' t => cases t; exact ⟨_, _, rfl, r, r'⟩
        split at h1
        · rename_i ds es e1 e2
          have h1 := h1.guard
          have nl : ∀ {d : D} {v : V} {ds : List D}, VD P W1 d v → (locOf d).isNone = true → rd m1 d = .list ds → ∃ a xs, v = .ref a ∧ Rd W1.G a (.lst xs) ∧ VDs P W1 ds xs := fun r q e => by
            cases r with
            | lst h t => have e : PyData.list _ = PyData.list _ := e; cases e; exact ⟨_, _, rfl, h, t⟩
            | loc => simp [locOf] at q
            | _ => cases e
          obtain ⟨a, xs, rfl, a1, a2⟩ := nl r2 h1.1.1 e1
          obtain ⟨b, ys, rfl, b1, b2⟩ := nl r3 h1.1.2 e2
          refine ⟨a, b, xs, ys, rfl, .inl ⟨.inl (rd_up S1.sub a1), .inl (rd_up S1.sub b1), h1.2.val S1 fun i W' M' H' l S' st => ?_⟩⟩
          have qa : SqL X.K H' a xs := .inl (rd_up S'.sub (rd_up l.g a1))
          have qb : SqL X.K H' b ys := .inl (rd_up S'.sub (rd_up l.g b1))
          refine ⟨fun d' hd => ?_, fun hi => ⟨xs, ys, qa, qb, ?_⟩⟩
          · obtain ⟨x0, y0, h2, h3, rfl⟩ := zipD_at hd
            obtain ⟨x1, k1, k2⟩ := (a2.upq l).get h2
            obtain ⟨y1, k3, k4⟩ := (b2.upq l).get h3
            refine ⟨⟨xs, ys, x1, y1, qa, qb, k1, k3⟩, ?_⟩
            rintro x H'' ⟨T, x', y', rfl, hT, rfl, hx, hy⟩
            have z1 := hx xs qa
            have z2 := hy ys qb
            rw [k1] at z1
            rw [k3] at z2
            cases z1
            cases z2
            have z := pair_it (i := i) S' hT k2 k4
            exact ⟨z.1, z.2, fun q => by cases q⟩
          · have q : i = (zipD ds es).length := hi
            rw [zipD_len, ← a2.length, ← b2.length] at q
            omega
        · rename_i ds es e1 e2
          obtain ⟨a, xs, rfl, a1, a2⟩ := walk_tup S1 r2 e1
          obtain ⟨b, ys, rfl, b1, b2⟩ := walk_tup S1 r3 e2
          refine ⟨a, b, xs, ys, rfl, .inr ⟨by rw [fx.K]; exact (a1.up S1.sub).sq, by rw [fx.K]; exact (b1.up S1.sub).sq, h1.val S1 fun i W' M' H' l S' st => ?_⟩⟩
          have qa : SqT X.K H' a xs := by rw [fx.K]; exact ((a1.up l.g).up S'.sub).sq
          have qb : SqT X.K H' b ys := by rw [fx.K]; exact ((b1.up l.g).up S'.sub).sq
          refine ⟨fun d' hd => ?_, fun hi => ⟨xs, ys, qa, qb, ?_⟩⟩
          · obtain ⟨x0, y0, h2, h3, rfl⟩ := zipD_at hd
            obtain ⟨x1, k1, k2⟩ := (a2.upq l).get h2
            obtain ⟨y1, k3, k4⟩ := (b2.upq l).get h3
            refine ⟨⟨xs, ys, x1, y1, qa, qb, k1, k3⟩, ?_⟩
            rintro x H'' ⟨T, x', y', rfl, hT, rfl, hx, hy⟩
            have z1 := hx xs qa
            have z2 := hy ys qb
            rw [k1] at z1
            rw [k3] at z2
            cases z1
            cases z2
            have z := pair_it (i := i) S' hT k2 k4
            exact ⟨z.1, z.2, fun q => by cases q⟩
          · have q : i = (zipD ds es).length := hi
            rw [zipD_len, ← a2.length, ← b2.length] at q
            omega
        · exact h1.elim
      · exact h1.elim
end
/-! ### statements -/
def OutS (P : Pm) (W : Wd) (wy : WY) (r : R (SS.Flow × Env)) (En : Ends) : Prop := match r with
  | .ok (fl, sd) m => ∀ (W' : Wd) (H' : Hp), Le W W' → Sim P W' m H' → (match fl with
    | .nx => ∀ σ, Rels P W' sd σ → En.nx σ H'
    | .brk => ∀ σ, Rels P W' sd σ → En.bk σ H'
    | .cont => ∀ σ, Rels P W' sd σ → En.ct σ H'
    | .ret d => ∀ v, VD P W' d v → En.rt v H')
  | .ex c x m => ∀ (W' : Wd) (H' : Hp) (cls : Value) (d : Option Addr), Le W W' → Sim P W' m H' → ExR P W' H' c x cls d → wy cls d H'
  | .no => False
section
variable {P : Pm} {F : Fns} {same : Nat} {wy : WY} {X : Cx} {n : Nat} {W W' : Wd} {M m : Mem} {sd : Env} {σ : L2.St} {H : Hp} {a b c : E} {ea eb ec tg : Expr} {pos : Pos} {En : Ends}
theorem OutS.up (l : Le W W') : ∀ {r : R (SS.Flow × Env)}, OutS P W wy r En → OutS P W' wy r En
  | .ok _ _, h => fun V H' l' => h V H' (l.trans l')
  | .ex _ _ _, h => fun V H' c d l' => h V H' c d (l.trans l')
  | .no, h => h
theorem OutS.bind {γ δ : Type} (rel1 : Wd → γ → δ → Prop) {f : γ → Mem → R (SS.Flow × Env)} : ∀ {r : R γ}, OutS P W wy (r.bind f) En → Out P rel1 W wy r (fun b H' => ∃ W' a m, Le W W' ∧ Sim P W' m H' ∧ rel1 W' a b ∧ OutS P W' wy (f a m) En)
  | .ok a m, h => fun V b H' l s r => ⟨V, a, m, l, s, r, OutS.up l h⟩
  | .ex _ _ _, h => h
  | .no, h => h
theorem OutS.opt {γ : Type} {o : Option γ} {f : γ → Mem → R (SS.Flow × Env)} (h : OutS P W wy ((SS.opt o m).bind f) En) : ∃ a, o = some a ∧ OutS P W wy (f a m) En := by
  cases o with
  | none => exact h.elim
  | some a => exact ⟨a, rfl, h⟩
/-- an exception's wish, whatever the names hold -/
abbrev noσ (wy : WY) : WX := fun c d _ H => wy c d H
def tS (P : Pm) (F : Fns) (same : Nat) (wy : WY) (st : S) : TS := fun En σ H => ∃ W M sd, Sim P W M H ∧ Rels P W sd σ ∧ OutS P W wy (evS F same st sd M) En
def tSs (P : Pm) (F : Fns) (same : Nat) (wy : WY) (st : Ss) : TS := fun En σ H => ∃ W M sd, Sim P W M H ∧ Rels P W sd σ ∧ OutS P W wy (evSs F same st sd M) En
theorem PS_imp {st : Stmt} {t t' : TS} (h : PS X st t) (k : ∀ En σ H, t' En σ H → t En σ H) : PS X st t' := ⟨fun pins s σ H En I q => h.run pins s σ H En I (k _ _ _ q)⟩
theorem PSs_imp {st : List Stmt} {t t' : TS} (h : PSs X st t) (k : ∀ En σ H, t' En σ H → t En σ H) : PSs X st t' := ⟨fun pins s σ H En I q => h.run pins s σ H En I (k _ _ _ q)⟩
theorem at_ES {Q' : VK} {f : D → Mem → R (SS.Flow × Env)} (S : Sim P W M H) (Rl : Rels P W sd σ) (h : OutS P W wy ((evE F same a sd M).bind f) En)
    (k : ∀ W' d m' v H', Sim P W' m' H' → Rels P W' sd σ → Le W W' → VD P W' d v → OutS P W' wy (f d m') En → Q' v H') : tE P F same (noσ wy) a σ H Q' :=
  ⟨W, M, sd, S, Rl, (h.bind (VD P)).imp fun v H' ⟨W', d, m', l, S', r, h'⟩ => k W' d m' v H' S' (Rl.up l) l r h'⟩
theorem at_TS {Q' : Bool → Hp → Prop} {f : Bool → Mem → R (SS.Flow × Env)} (S : Sim P W M H) (Rl : Rels P W sd σ) (h : OutS P W wy ((evT F same a sd M).bind f) En)
    (k : ∀ W' d m' H', Sim P W' m' H' → Rels P W' sd σ → Le W W' → OutS P W' wy (f d m') En → Q' d H') : tT P F same (noσ wy) a σ H Q' :=
  ⟨W, M, sd, S, Rl, (h.bind RB).imp fun v H' ⟨W', d, m', l, S', r, h'⟩ => by
    have r : d = v := r
    subst r
    exact k W' d m' H' S' (Rl.up l) l h'⟩
theorem endNx {sd' : Env} {m' : Mem} {W' : Wd} {H' : Hp} {σ' : L2.St} (h : OutS P W' wy (.ok (.nx, sd') m') En) (S : Sim P W' m' H') (R : Rels P W' sd' σ') : En.nx σ' H' := h W' H' (Le.refl _) S σ' R
theorem w_nil : PSs X [] (tSs P F same wy .nil) := PSs_imp pss_nil fun En σ H ⟨W, M, sd, S, Rl, h⟩ => endNx (by simpa only [evSs] using h) S Rl
theorem w_cons {st : Stmt} {rest : List Stmt} {s0 : S} {r : Ss} (h1 : PS X st (tS P F same wy s0)) (h2 : PSs X rest (tSs P F same wy r)) : PSs X (st :: rest) (tSs P F same wy (.cons s0 r)) := PSs_imp (pss_cons h1 h2) fun En σ H ⟨W, M, sd, S, Rl, h⟩ => by
  simp only [evSs] at h
  refine ⟨W, M, sd, S, Rl, ?_⟩
  cases e : evS F same s0 sd M with
  | no => rw [e] at h; exact h.elim
  | ex c x m => rw [e] at h; exact h
  | ok p m =>
    obtain ⟨fl, sd'⟩ := p
    rw [e] at h
    intro W' H' l S'
    cases fl with
    | nx => exact fun σ' R' => ⟨W', m, sd', S', R', OutS.up l h⟩
    | brk => exact h W' H' l S'
    | cont => exact h W' H' l S'
    | ret d => exact h W' H' l S'
theorem w_pass : PS X (.Pass pos) (tS P F same wy .skip) := PS_imp ps_pass fun En σ H ⟨W, M, sd, S, Rl, h⟩ => endNx (by simpa only [evS] using h) S Rl
theorem w_doc {x : Str} {j : Nat} {p2 : Pos} : PS X (.Expr (.Constant (.str x) j pos) p2) (tS P F same wy .doc) := PS_imp ps_doc fun En σ H ⟨W, M, sd, S, Rl, h⟩ => endNx (by simpa only [evS] using h) S Rl
theorem w_break : PS X (.Break pos) (tS P F same wy .brk) := PS_imp ps_break fun En σ H ⟨W, M, sd, S, Rl, h⟩ => by
  simp only [evS] at h
  exact h W H (Le.refl _) S σ Rl
theorem w_continue : PS X (.Continue pos) (tS P F same wy .cont) := PS_imp ps_continue fun En σ H ⟨W, M, sd, S, Rl, h⟩ => by
  simp only [evS] at h
  exact h W H (Le.refl _) S σ Rl
theorem w_ex (ha : PE X ea (tE P F same (noσ wy) a)) (hs : swapsWith ea none pos.line X.env = pure false) : PS X (.Expr ea pos) (tS P F same wy (.ex a)) := PS_imp (ps_expr ha hs) fun En σ H ⟨W, M, sd, S, Rl, h⟩ => by
  simp only [evS] at h
  exact at_ES S Rl h fun W1 d m1 v H1 S1 R1 _ r1 h1 => endNx h1 S1 R1
theorem w_ret (ha : PE X ea (tE P F same (noσ wy) a)) : PS X (.Return (some ea) pos) (tS P F same wy (.ret a)) := PS_imp (ps_ret ha) fun En σ H ⟨W, M, sd, S, Rl, h⟩ => by
  simp only [evS] at h
  exact at_ES S Rl h fun W1 d m1 v H1 S1 R1 _ r1 h1 => h1 W1 H1 (Le.refl _) S1 v r1
theorem w_retN : PS X (.Return none pos) (tS P F same wy .retN) := PS_imp ps_retN fun En σ H ⟨W, M, sd, S, Rl, h⟩ => by
  simp only [evS] at h
  exact h W H (Le.refl _) S .non .non
theorem w_set {i : Nat} {x : Str} {p2 : Pos} (fx : Fx P n X) (hi : X.N[i]? = some x) (hx : Loc X.env.scope x) (hf : X.fn x = true ∨ X.env.scope.names.lookup x = some .local) (ha : PE X ea (tE P F same (noσ wy) a)) (hs : swapsWith ea (some (.Name x p2)) pos.line X.env = pure false) :
    PS X (.Assign [.Name x p2] ea pos) (tS P F same wy (.set i a)) := PS_imp (ps_set fx.nd hi hx ha hs hf) fun En σ H ⟨W, M, sd, S, Rl, h⟩ => by
  simp only [evS] at h
  exact at_ES S Rl h fun W1 d m1 v H1 S1 R1 _ r1 h1 => endNx h1 S1 (R1.set r1 i)
theorem w_setT {t : Expr} {g : Tg} (ha : PE X ea (tE P F same (noσ wy) a)) (hg : PG X t (gT P.K g)) (hs : swapsWithSole [t] ea pos.line X.env = pure false) (hw : swappedStores [t] ea X.env = pure none) (h1 : (assignEach [t] X.env).map (·.2) = [assign t X.env]) : PS X (.Assign [t] ea pos) (tS P F same wy (.setT g a)) := PS_imp (ps_asg ha hg hs hw h1) fun En σ H ⟨W, M, sd, S, Rl, h⟩ => by
  simp only [evS] at h
  exact at_ES S Rl h fun W1 d m1 v H1 S1 R1 _ r1 h1 => by
    obtain ⟨sd', e, h2⟩ := h1.opt
    exact go_asg (Q := En.nx) S1.sub [] e (fun _ => r1) (.inl r1) R1 fun σ' R' _ => endNx h2 S1 R'
theorem w_par {i j : Nat} {x y : Str} {px py pt : Pos} {kt k2 : Nat} {pt2 : Pos} (fx : Fx P n X) (hi : X.N[i]? = some x) (hj : X.N[j]? = some y) (hij : i ≠ j) (hx : X.env.scope.names.lookup x = some .local) (hy : X.env.scope.names.lookup y = some .local)
    (ha : PE X ea (tE P F same (noσ wy) a)) (hb : PE X eb (tE P F same (noσ wy) b)) (hs1 : starEach [ea, eb] X.env = (false, eval ea X.env) :: starEach [eb] X.env) (hs2 : starEach [eb] X.env = (false, eval eb X.env) :: starEach [] X.env)
    (hp : ∀ ta : TA, PA X [ea, eb] ta → PS X (.Assign [.Tuple [.Name x px, .Name y py] kt pt] (.Tuple [ea, eb] k2 pt2) pos) (tPar i j ta)) : PS X (.Assign [.Tuple [.Name x px, .Name y py] kt pt] (.Tuple [ea, eb] k2 pt2) pos) (tS P F same wy (.par i j a b)) :=
  PS_imp (hp _ (pa_cons ha (pa_cons hb pa_nil hs2) hs1)) fun En σ H ⟨W, M, sd, S, Rl, h⟩ => by
    simp only [evS] at h
    exact at_ES S Rl h fun W1 d m1 v H1 S1 R1 _ r1 h1 => at_ES S1 R1 h1 fun W2 e m2 w H2 S2 R2 l r2 h2 => ⟨v, w, rfl, endNx h2 S2 ((R2.set (r1.up l) i).set r2 j)⟩
theorem w_ifs {ea' eb' : List Stmt} {sa sb : Ss} (hc : PT X ec (tT P F same (noσ wy) c)) (ha : PSs X ea' (tSs P F same wy sa)) (hb : PSs X eb' (tSs P F same wy sb)) : PS X (.If ec ea' eb' pos) (tS P F same wy (.ifs c sa sb)) := PS_imp (ps_if hc ha hb) fun En σ H ⟨W, M, sd, S, Rl, h⟩ => by
  simp only [evS] at h
  exact at_TS S Rl h fun W1 k m1 H1 S1 R1 _ h1 => by
    cases k with
    | true => exact ⟨W1, m1, sd, S1, R1, h1⟩
    | false => exact ⟨W1, m1, sd, S1, R1, h1⟩
/-- one turn of a loop's body -/
theorem OutS.turn {r : R (SS.Flow × Env)} {k : Env → Mem → R (SS.Flow × Env)} {Nx : L2.St → Hp → Prop} (h : OutS P W wy (r.bind fun p m' => match p.1 with
      | .nx => k p.2 m'
      | .cont => k p.2 m'
      | .brk => .ok (.nx, p.2) m'
      | .ret v => .ok (.ret v, p.2) m') En) (hN : ∀ (W' : Wd) (H' : Hp) (sd' : Env) (m' : Mem) (σ' : L2.St), Le W W' → Sim P W' m' H' → Rels P W' sd' σ' → OutS P W' wy (k sd' m') En → Nx σ' H') : OutS P W wy r { En with nx := Nx, ct := Nx, bk := En.nx } := by
  cases r with
  | no => exact h.elim
  | ex c x m => exact h
  | ok p m =>
    obtain ⟨fl, sd'⟩ := p
    intro W' H' l S'
    cases fl with
    | nx => exact fun σ' R' => hN W' H' sd' m σ' l S' R' (OutS.up l h)
    | cont => exact fun σ' R' => hN W' H' sd' m σ' l S' R' (OutS.up l h)
    | brk => exact fun σ' R' => h W' H' l S' σ' R'
    | ret d => exact h W' H' l S'
theorem w_for {t iter : Expr} {body : List Stmt} {g : Tg} {it : It} {bd : Ss} {pr : Bool} (fx : Fx P n X) (hn : n ≠ 0) (hp : PassesOwn (model X.prog X.w) X.A X.env X.xe) (hi : PI X t iter (tI P F same (noσ wy) pr it)) (hg : PG X t (gT P.K g)) (hb : PSs X body (tSs P F same wy bd)) (hpr : pr = true → isTup g = true)
    (hs : ∀ x, foldedSetIterable iter X.env x = pure x) : PS X (.For t iter body [] pos) (tS P F same wy (.for_ g it bd)) := PS_imp (ps_for hp (fx.calm hn) hi hg hb hs) fun En σ H ⟨W, M, sd, S, Rl, h⟩ => by
  simp only [evS] at h
  refine ⟨W, M, sd, S, Rl, (h.bind (WR P pr)).imp ?_⟩
  rintro J H1 ⟨W1, w, m1, l1, S1, wr, h1⟩
  refine ⟨fun i mm σ' H' => mm = w.items.length - i ∧ i ≤ w.items.length ∧ ∃ W' M' sd', Le W1 W' ∧ Sim P W' M' H' ∧ Rels P W' sd' σ' ∧ OutS P W' wy (forM w.stays (fun d sd m => (opt (asg g d sd) m).bind fun sd' m => evSs F same bd sd' m) (w.items.drop i) sd' M') En, ⟨_, rfl, Nat.zero_le _, W1, m1, sd, Le.refl _, S1, Rl.up l1, by simpa using h1⟩, ?_⟩
  rintro i mm σ' H' ⟨rfl, hi', W', M', sd', l', S', R', h'⟩
  by_cases hlt : i < w.items.length
  · rw [List.drop_eq_getElem_cons hlt] at h'
    simp only [forM] at h'
    split at h'
    · rename_i st
      obtain ⟨k1, _⟩ := wr i W' M' H' l'.q S' st
      obtain ⟨go, yl⟩ := k1 _ (List.getElem?_eq_getElem hlt)
      refine .inr ⟨go, fun σ2 H2 => ∃ W2 M2 sd2, Le W1 W2 ∧ Sim P W2 M2 H2 ∧ Rels P W2 sd2 σ2 ∧ OutS P W2 wy (forM w.stays (fun d sd m => (opt (asg g d sd) m).bind fun sd' m => evSs F same bd sd' m) (w.items.drop (i + 1)) sd2 M2) En,
        fun σ2 H2 ⟨W2, M2, sd2, a1, a2, a3, a4⟩ => ⟨w.items.length - (i + 1), by omega, rfl, hlt, W2, M2, sd2, a1, a2, a3, a4⟩, fun x H'' y => ?_⟩
      obtain ⟨S2, ir, vd⟩ := yl x H'' y
      rw [bind_assoc] at h'
      obtain ⟨sd2, e, h2⟩ := h'.opt
      refine go_asg (Q := fun σ2 H2 => tSs P F same wy bd _ σ2 H2) S2.sub [] e (fun q => vd (by
        cases pr with
        | false => rfl
        | true => rw [hpr rfl] at q; cases q)) ir R' fun σ2 R2 _ => ?_
      exact ⟨W', M', sd2, S2, R2, OutS.turn h2 fun W3 H3 sd3 m3 σ3 l3 S3 R3 h3 => ⟨W3, m3, sd3, l'.trans l3, S3, R3, h3⟩⟩
    · exact h'.elim
  · have e : i = w.items.length := by omega
    rw [e, List.drop_length] at h'
    simp only [forM] at h'
    split at h'
    · rename_i st
      exact .inl ⟨(wr i W' M' H' l'.q S' st).2 e, h' W' H' (Le.refl _) S' σ' R'⟩
    · exact h'.elim
theorem w_while {body : List Stmt} {bd : Ss} (hp : PassesOwn (model X.prog X.w) X.A X.env X.xe) (hc : PT X ec (tT P F same (noσ wy) c)) (hb : PSs X body (tSs P F same wy bd)) (hps : ∀ (tc : TT) (tb : TS), PT X ec tc → PSs X body tb → PS X (.While ec body [] pos) (tWhile tc tb)) :
    PS X (.While ec body [] pos) (tS P F same wy (.whl c bd)) := PS_imp (hps _ _ hc hb) fun En σ H ⟨W, M, sd, S, Rl, h⟩ => by
  simp only [evS] at h
  by_cases hx : ∃ n r, whileN (evT F same c) (fun sd m => evSs F same bd sd m) n sd M = some r
  · obtain ⟨k, r, q⟩ := hx
    rw [whileM_of q] at h
    refine ⟨fun mm σ' H' => ∃ W' M' sd' r', Sim P W' M' H' ∧ Rels P W' sd' σ' ∧ whileN (evT F same c) (fun sd m => evSs F same bd sd m) mm sd' M' = some r' ∧ OutS P W' wy r' En, ⟨k, W, M, sd, r, S, Rl, q, h⟩, ?_⟩
    rintro mm σ' H' ⟨W', M', sd', r', S', R', q', h'⟩
    cases mm with
    | zero => simp [whileN] at q'
    | succ mm =>
      unfold whileN at q'
      refine ⟨W', M', sd', S', R', ?_⟩
      cases e : evT F same c sd' M' with
      | no => rw [e] at q'; cases q'; exact h'.elim
      | ex c x m => rw [e] at q'; cases q'; exact h'
      | ok k m =>
        rw [e] at q'
        intro W2 k2 H2 l2 S2 e2
        have e2 : k = k2 := e2
        subst e2
        cases k with
        | false => cases q'; exact h' W2 H2 l2 S2 σ' (R'.up l2)
        | true =>
          refine ⟨_, fun σ4 H4 z => z, W2, m, sd', S2, R'.up l2, ?_⟩
          simp only at q'
          cases e3 : evSs F same bd sd' m with
          | no => rw [e3] at q'; cases q'; exact h'.elim
          | ex c x m3 => rw [e3] at q'; cases q'; exact OutS.up l2 h'
          | ok p m3 =>
            obtain ⟨fl, sd3⟩ := p
            rw [e3] at q'
            intro W4 H4 l4 S4
            cases fl with
            | nx => exact fun σ4 R4 => ⟨mm, Nat.lt_succ_self _, W4, m3, sd3, r', S4, R4, q', OutS.up (l2.trans l4) h'⟩
            | cont => exact fun σ4 R4 => ⟨mm, Nat.lt_succ_self _, W4, m3, sd3, r', S4, R4, q', OutS.up (l2.trans l4) h'⟩
            | brk => cases q'; exact fun σ4 R4 => h' W4 H4 (l2.trans l4) S4 σ4 R4
            | ret d => cases q'; exact h' W4 H4 (l2.trans l4) S4
  · unfold whileM at h
    rw [dif_neg hx] at h
    exact h.elim
/-! ### stores -/
theorem go_setD {m : Mem} {x y z : V} {d e f : D} {Q : Unit → Hp → Prop} {wz : WY} (fx : Fx P n X) (S : Sim P W m H) (r1 : VD P W d x) (r2 : VD P W e y) (r3 : VD P W f z) (h : Out P (fun _ (_ : Unit) (_ : Unit) => True) W wz (setD d e f m) Q) : ∃ t, PSet X t ∧ t x y z H (fun H' => Q () H') := by
  have un := fx.un
  unfold setD at h
  split at h
  · rename_i i hi
    split at h
    · rename_i xs hx
      split at h
      · rename_i k
        split at h
        · rename_i j hj
          obtain ⟨a, u, rfl, h1, h2, h3⟩ := S.atLoc r1 hi hx
          cases u <;> first | exact h3.elim | skip
          rename_i us
          cases r2
          have h3 : VDs P W xs us := h3
          exact ⟨_, set_list, a, us, k, j, rfl, rfl, h2, by rw [h3.length]; exact hj, h.cell S h1 hx (u' := .lst (us.set j z)) (show VDs P W _ _ from VDs.set r3 j h3) True.intro⟩
        · exact h.elim
      · exact h.elim
    · rename_i kvs hx
      split at h
      · rename_i k hk
        have h := h.guard
        obtain ⟨a, u, rfl, h1, h2, h3⟩ := S.atLoc r1 hi hx
        cases u <;> first | exact h3.elim | skip
        rename_i ws
        have h3 : KVD P W kvs ws := h3
        have ey := keyOf_v hk (VD.vr S.sub r2)
        subst ey
        exact ⟨_, set_dict (by omega), a, _, rfl, DPut.k h2 (by rw [h3.len]; exact h.1), h.2.cell S h1 hx (u' := .dK (L2.putK ws k z)) (show KVD P W _ _ from h3.put r3) True.intro⟩
      · exact h.elim
    · exact h.elim
  · exact h.elim
theorem w_setIx {p2 : Pos} (fx : Fx P n X) (ha : PE X ea (tE P F same (noσ wy) a)) (hb : PE X eb (tE P F same (noσ wy) b)) (hc : PE X ec (tE P F same (noσ wy) c)) (hs : ∀ (t : TSet) (to ti tv : TE), PE X ea to → PE X eb ti → PE X ec tv → PSet X t → PS X (.Assign [.Subscript ea eb p2] ec pos) (tAsg tv (gSub to ti t))) :
    PS X (.Assign [.Subscript ea eb p2] ec pos) (tS P F same wy (.setIx a b c)) :=
  PS_imp (hs (fun x y z H Q => ∃ t, PSet X t ∧ t x y z H Q) _ _ _ ha hb hc fun pins s σ H o i v ov iv u Q I r1 r2 r3 ⟨t, h, q⟩ => h pins s σ H o i v ov iv u Q I r1 r2 r3 q) fun En σ H ⟨W, M, sd, S, Rl, h⟩ => by
    simp only [evS] at h
    exact at_ES S Rl h fun W1 d m1 v H1 S1 R1 _ r1 h1 => at_ES S1 R1 h1 fun W2 e m2 w H2 S2 R2 l2 r2 h2 => at_ES S2 R2 h2 fun W3 f m3 u H3 S3 R3 l3 r3 h3 =>
      go_setD (Q := fun _ H' => En.nx σ H') fx S3 (r2.up l3) r3 ((r1.up l2).up l3) ((h3.bind fun _ _ _ => True).imp fun _ H' ⟨W4, _, m4, l4, S4, _, h4⟩ => endNx h4 S4 (R3.up l4))
theorem w_aug {i : Nat} {x : Str} {p2 : Pos} {o : Bop} (fx : Fx P n X) (hi : X.N[i]? = some x) (hx : Loc X.env.scope x) (hf : X.fn x = true ∨ X.env.scope.names.lookup x = some .local) (ha : PE X ea (tE P F same (noσ wy) a)) : PS X (.AugAssign (.Name x p2) (bopOf o) ea pos) (tS P F same wy (.aug i o a)) := by
  refine PS_imp (ps_aug (ti := fun x y H Q => GoesTo X (inplaceOp (bopOf o)) x y H Q) fx.nd hi hx ha (fun pins s σ H x y v u Q I rx ry ⟨r, h, q⟩ => h pins s σ H x y v u Q I rx ry q) hf) fun En σ H ⟨W, M, sd, S, Rl, h⟩ => ?_
  simp only [evS] at h
  split at h
  · rename_i k e0
    have ho : augOk o = true := by
      cases q : augOk o with
      | true => rfl
      | false => rw [q] at e0; cases e0
    rw [if_pos ho] at e0
    obtain ⟨v, e1, r⟩ := Rl.at_ i _ e0
    cases r
    refine ⟨_, e1, at_ES S Rl h fun W1 d m1 v H1 S1 R1 _ r1 h1 => ?_⟩
    cases r1 <;> first | exact h1.elim | skip
    exact go_aug (wx := wy) fx S1 o ho (Q := fun z H' => En.nx _ H') ((h1.bind (VD P)).imp fun v H' ⟨W4, _, m4, l4, S4, r4, h4⟩ => endNx h4 S4 ((R1.up l4).set r4 i))
  · exact h.elim
end
end SS
end PT_SG
section PT_SH
set_option Elab.async false
set_option linter.all false
set_option maxRecDepth 100000
set_option maxHeartbeats 2000000
/-! Comprehensions. -/
namespace SS
open PySem PySem.Spec PyProof.Rows L2
abbrev Wd.hold (W : Wd) (p : Addr) (o : HO) : Wd := ⟨W.G, upd W.R p o, W.β⟩
section
variable {P : Pm} {W W' : Wd} {M : Mem} {H : Hp} {p : Addr} {o o' : HO}
/-- a new thing is held -/
theorem Sim.hold (S : Sim P W M H) (hp : H p = none) (ho : ∀ ps, o ≠ .tbl ps := by intro _ z; cases z) (hq : ∀ c q, o ≠ LamX.CodeO c q := by intro _ _ z; unfold LamX.CodeO at z; cases z) : Sim P (W.hold p o) M (upd H p o) := by
  have S' := S.skip (o := o) hp
  refine ⟨S'.sub, fun a u e => ?_, S.len, S.nd, fun i a u e1 e2 => ?_, S'.tabs, fun a ps => ⟨(S.nt a ps).1, fun e => ?_⟩, fun a c q e => ?_⟩
  · have e : upd W.R p o a = some u := e
    by_cases h : a = p
    · subst h
      rw [upd_same] at e
      cases e
      exact ⟨upd_same, S.noG hp, S.noB hp⟩
    · rw [upd_ne h] at e
      exact S'.held a u e
  · obtain ⟨k1, v, k2, k3⟩ := S'.cell i a u e1 e2
    exact ⟨k1, v, k2, CellOk.upG (W := W) (W' := W.hold p o) (fun _ _ e => e) (fun _ _ e => e) k3⟩
  · have e : upd W.R p o a = some (.tbl ps) := e
    by_cases h : a = p
    · subst h
      rw [upd_same] at e
      exact ho ps (Option.some.inj e)
    · rw [upd_ne h] at e
      exact (S.nt a ps).2 e
  · have e : upd W.R p o a = some (LamX.CodeO c q) := e
    by_cases h : a = p
    · subst h
      rw [upd_same] at e
      exact hq c q (Option.some.inj e)
    · rw [upd_ne h] at e
      exact S.nc a c q e
/-- what is held is written -/
theorem Sim.rehold (S : Sim P W M H) (e : W.R p = some o) (n1 : ∀ ps, o ≠ .tbl ps) (n2 : ∀ c q, o ≠ LamX.CodeO c q) (ho : ∀ ps, o' ≠ .tbl ps := by intro _ z; cases z) (hq : ∀ c q, o' ≠ LamX.CodeO c q := by intro _ _ z; unfold LamX.CodeO at z; cases z) : Sim P (W.hold p o') M (upd H p o') := by
  obtain ⟨h1, h2, h3⟩ := S.held p o e
  refine ⟨fun a u q => ?_, fun a u q => ?_, S.len, S.nd, fun i a u e1 e2 => ?_, tabs_upd S.tabs h1 n1 n2, fun a ps => ⟨(S.nt a ps).1, fun e => ?_⟩, fun a c q e => ?_⟩
  · have q : W.G a = some u := q
    rw [upd_ne (fun z => by subst z; rw [h2] at q; cases q)]
    exact S.sub a u q
  · have q : upd W.R p o' a = some u := q
    by_cases h : a = p
    · subst h
      rw [upd_same] at q
      cases q
      exact ⟨upd_same, h2, h3⟩
    · rw [upd_ne h] at q
      rw [upd_ne h]
      exact S.held a u q
  · obtain ⟨k1, v, k2, k3⟩ := S.cell i a u e1 e2
    refine ⟨k1, v, ?_, CellOk.upG (W := W) (W' := W.hold p o') (fun _ _ e => e) (fun _ _ e => e) k3⟩
    rw [upd_ne (fun z => h3 (by rw [← z]; exact List.mem_of_getElem? e1))]
    exact k2
  · have e : upd W.R p o' a = some (.tbl ps) := e
    by_cases h : a = p
    · subst h
      rw [upd_same] at e
      exact ho ps (Option.some.inj e)
    · rw [upd_ne h] at e
      exact (S.nt a ps).2 e
  · have e : upd W.R p o' a = some (LamX.CodeO c q) := e
    by_cases h : a = p
    · subst h
      rw [upd_same] at e
      exact hq c q (Option.some.inj e)
    · rw [upd_ne h] at e
      exact S.nc a c q e
/-- it is let go -/
theorem Sim.free (S : Sim P W' M H) (l : Le (W.hold p o) W') (hp : W.R p = none) : Sim P (W'.free W.R) M H ∧ Le W (W'.free W.R) := by
  refine ⟨⟨S.sub, fun a u e => ?_, S.len, S.nd, fun i a u e1 e2 => ?_, S.tabs, fun a ps => ⟨(S.nt a ps).1, fun e => ?_⟩, fun a c q e => ?_⟩, ⟨l.g, rfl, l.b⟩⟩
  · have e : W.R a = some u := e
    refine S.held a u ?_
    rw [l.r]
    show upd W.R p o a = some u
    rw [upd_ne (fun z => by subst z; rw [hp] at e; cases e)]
    exact e
  · obtain ⟨k1, v, k2, k3⟩ := S.cell i a u e1 e2
    exact ⟨k1, v, k2, CellOk.upG (W := W') (W' := W'.free W.R) (fun _ _ e => e) (fun _ _ e => e) k3⟩
  · have e : W.R a = some (.tbl ps) := e
    refine (S.nt a ps).2 ?_
    rw [l.r]
    show upd W.R p o a = some _
    rw [upd_ne (fun z => by subst z; rw [hp] at e; cases e)]
    exact e
  · have e : W.R a = some (LamX.CodeO c q) := e
    refine S.nc a c q ?_
    rw [l.r]
    show upd W.R p o a = some _
    rw [upd_ne (fun z => by subst z; rw [hp] at e; cases e)]
    exact e
/-- it is a datum from now on -/
theorem Sim.toDat (S : Sim P W M H) (h : H p = some o) (hG : W.G p = none) (hR : W.R p = none) (hB : p ∉ W.β) (ho : ∀ ps, o ≠ .tbl ps := by intro _ z; cases z) : Sim P (W.dat p o) M H ∧ Le W (W.dat p o) := by
  have l : Le W (W.dat p o) := ⟨fun a u e => by
    show upd W.G p o a = some u
    rw [upd_ne (fun z => by subst z; rw [hG] at e; cases e)]
    exact e, rfl, List.prefix_refl _⟩
  refine ⟨⟨fun a u e => ?_, fun a u e => ?_, S.len, S.nd, fun i a u e1 e2 => ?_, S.tabs, fun a ps => ⟨fun e => ?_, (S.nt a ps).2⟩, S.nc⟩, l⟩
  · have e : upd W.G p o a = some u := e
    by_cases z : a = p
    · subst z; rw [upd_same] at e; rw [h]; exact e
    · rw [upd_ne z] at e; exact S.sub a u e
  · obtain ⟨h1, h2, h3⟩ := S.held a u e
    refine ⟨h1, ?_, h3⟩
    show upd W.G p o a = none
    rw [upd_ne (fun z => by subst z; rw [show W.R _ = some u from e] at hR; cases hR)]
    exact h2
  · obtain ⟨k1, v, k2, k3⟩ := S.cell i a u e1 e2
    refine ⟨?_, v, k2, k3.up l⟩
    show upd W.G p o a = none
    rw [upd_ne (fun z => hB (by rw [← z]; exact List.mem_of_getElem? e1))]
    exact k1
  · have e : upd W.G p o a = some (.tbl ps) := e
    by_cases z : a = p
    · subst z; rw [upd_same] at e; exact ho ps (Option.some.inj e)
    · rw [upd_ne z] at e; exact (S.nt a ps).1 e
/-- it is a cell from now on -/
theorem Sim.toCell (S : Sim P W M H) {c : O} (h : H p = some o) (ok : CellOk P W c o) (hG : W.G p = none) (hR : W.R p = none) (hB : p ∉ W.β) : Sim P (W.add p) (M ++ [c]) H := by
  refine ⟨S.sub, fun a u e => ?_, by simp [S.len], ?_, fun i a v e1 e2 => ?_, S.tabs, S.nt, S.nc⟩
  · obtain ⟨h1, h2, h3⟩ := S.held a u e
    refine ⟨h1, h2, fun hm => ?_⟩
    rcases List.mem_append.mp hm with z | z
    · exact h3 z
    · rw [List.mem_singleton] at z
      subst z
      rw [show W.R _ = some u from e] at hR
      cases hR
  · refine List.nodup_append.mpr ⟨S.nd, by simp, fun a ha b hb => ?_⟩
    rw [List.mem_singleton] at hb
    subst hb
    rintro rfl
    exact hB ha
  · have e1 : (W.β ++ [p])[i]? = some a := e1
    by_cases hi : i < W.β.length
    · rw [List.getElem?_append_left hi] at e1
      rw [List.getElem?_append_left (by rw [← S.len]; exact hi)] at e2
      obtain ⟨g, x, h1, h2⟩ := S.cell i a v e1 e2
      exact ⟨g, x, h1, h2.up leAdd⟩
    · have hi' : i = W.β.length := by
        have := (List.getElem?_eq_some_iff.mp e1).1
        simp at this
        omega
      subst hi'
      rw [List.getElem?_append_right (Nat.le_refl _)] at e1
      rw [S.len, List.getElem?_append_right (Nat.le_refl _)] at e2
      simp at e1 e2
      subst e1 e2
      exact ⟨hG, o, h, ok.up leAdd⟩
end
theorem compM_noex {α : Type} {st : Mem → Prop} {f : D → Mem → R (Option α)} : ∀ {ds : List D} {m : Mem}, (∃ xs m', compM st f ds m = .ok xs m') ∨ compM st f ds m = .no
  | [], m => by
    unfold compM
    split
    · exact .inl ⟨_, _, rfl⟩
    · exact .inr rfl
  | d :: ds, m => by
    unfold compM
    split
    · cases e : f d m with
      | no => exact .inr rfl
      | ex c x m' => exact .inr rfl
      | ok o m' =>
        simp only [noX_ok, bind_ok]
        rcases compM_noex (st := st) (f := f) (ds := ds) (m := m') with ⟨xs, m2, e2⟩ | e2
        · rw [e2]; exact .inl ⟨_, _, rfl⟩
        · rw [e2]; exact .inr rfl
    · exact .inr rfl
section
variable {P : Pm} {F : Fns} {same : Nat} {wx : WX} {X : Cx} {n : Nat} {W W' : Wd} {M m : Mem} {sd : Env} {σ : L2.St} {H : Hp} {a b c : E} {ea eb ec tg : Expr} {pos : Pos}
abbrev fx0 : WX := fun _ _ _ _ => False
/-- an optional test -/
noncomputable def evIf (F : Fns) (same : Nat) (ifs : Oe) (sd : Env) (m : Mem) : R Bool := (evO F same ifs sd m).bind ifT
noncomputable def evTurn (F : Fns) (same : Nat) (elt : E) (g : Tg) (ifs : Oe) (own : List Nat) (sd : Env) (d : D) (m : Mem) : R (Option D) := (opt (asg g d (wipeE sd own)) m).bind fun sd' m => (evIf F same ifs sd' m).bind fun c m => if c = true then (evE F same elt sd' m).bind fun x m => .ok (some x) m else .ok none m
def tIf? (P : Pm) (F : Fns) (same : Nat) (ifs : Oe) : TT := fun σ H Q => ∃ W M sd, Sim P W M H ∧ Rels P W sd σ ∧ Out P RB W (fun _ _ _ => False) (evIf F same ifs sd M) Q
theorem s_ifs0 : PTs X [] (tIf? P F same .none) := ⟨fun pins s σ H Q I ⟨W, M, sd, S, Rl, h⟩ => pts_nil.run pins s σ H Q I (by
  simp only [evIf, evO, bind_ok, ifT] at h
  exact h.val S rfl)⟩
theorem s_ifs1 (h : PT X ec (tT P F same fx0 c)) : PTs X [ec] (tIf? P F same (.some c)) := ⟨fun pins s σ H Q I ⟨W, M, sd, S, Rl, q⟩ => (pts_one h).run pins s σ H Q I ⟨W, M, sd, S, Rl, by
  unfold evIf at q
  simp only [evO, bind_assoc, bind_ok] at q
  exact q⟩⟩
theorem Out.noX {α β : Type} {rel : Wd → α → β → Prop} {wy : WY} {r : R α} {Q : β → Hp → Prop} (h : Out P rel W wy (SS.noX r) Q) : Out P rel W (fun _ _ _ => False) r Q := by
  cases r with
  | ok a m => exact h
  | ex c x m => exact h.elim
  | no => exact h.elim
theorem wipe_wipe (σ : L2.St) (vs : List Nat) : L2.wipe (L2.wipe σ vs) vs = L2.wipe σ vs := by
  have key : ∀ (us : List Nat) (τ : L2.St), (∀ v ∈ us, v < τ.length → τ[v]? = some none) → L2.wipe τ us = τ := by
    intro us
    induction us with
    | nil => intro τ _; rfl
    | cons u us ih =>
      intro τ h
      unfold L2.wipe
      rw [ih τ fun v hv => h v (List.mem_cons_of_mem _ hv)]
      by_cases hu : u < τ.length
      · apply List.ext_getElem?
        intro j
        by_cases hj : u = j
        · subst hj
          rw [List.getElem?_set_self hu, h u List.mem_cons_self hu]
        · rw [List.getElem?_set_ne hj]
      · rw [List.set_eq_of_length_le (by omega)]
  refine key vs _ fun v hv hl => ?_
  cases e : (L2.wipe σ vs)[v]? with
  | none => rw [List.getElem?_eq_none_iff] at e; omega
  | some o =>
    cases o with
    | none => rfl
    | some x => exact absurd hv (wipe_some e).2
theorem comp_step {fz : Bool} {own : List (Str × Nat)} {g : Tg} {io : Oe} {pr : Bool} (hpr : pr = true → isTup g = true) (hown : tgIn (own.map (·.2)) g = true) {Q : VK} {W1 : Wd} {m1 : Mem} {J : L2.It} {H1 : Hp} {w : Walk} (S1 : Sim P W1 m1 H1) (R1 : Rels P W1 sd σ) (wr : WR P pr W1 w J)
    (h1 : Out P (VD P) W1 (fun c d H' => wx c d σ H') ((compM w.stays (evTurn F same a g io (own.map (·.2)) sd) w.items m1).bind fun ds m => newL fz ds m) Q) : tLc (fun _ _ R => R J H1) (gT P.K g) (tIf? P F same io) (tE P F same fx0 a) (own.map (·.2)) σ H Q := by
  intro p hp
  have hRp := S1.noR hp
  refine ⟨fun i mm H' => mm = w.items.length - i ∧ i ≤ w.items.length ∧ ∃ W' M' accD acc, Le (W1.hold p (.lst acc)) W' ∧ Sim P W' M' H' ∧ VDs P W' accD acc ∧ Out P (VD P) W1 (fun c d H' => wx c d σ H') ((compM w.stays (evTurn F same a g io (own.map (·.2)) sd) (w.items.drop i) M').bind fun ds m => newL fz (accD ++ ds) m) Q,
    ⟨_, rfl, Nat.zero_le _, W1.hold p (.lst []), m1, [], [], Le.refl _, S1.hold hp, .nil, by simpa using h1⟩, ?_⟩
  rintro i mm H' ⟨rfl, hi', W', M', accD, acc, l', S', ra, h'⟩
  have lw : Le W1 (W'.free W1.R) := ⟨l'.g, rfl, l'.b⟩
  obtain ⟨S0, _⟩ := S'.free l' hRp
  have hold : H' p = some (.lst acc) ∧ W'.G p = none ∧ p ∉ W'.β := S'.held p _ (by rw [l'.r]; exact upd_same)
  by_cases hlt : i < w.items.length
  · rw [List.drop_eq_getElem_cons hlt] at h'
    simp only [compM] at h'
    split at h'
    · rename_i st
      obtain ⟨k1, _⟩ := wr i W' M' H' lw S' st
      obtain ⟨go, yl⟩ := k1 _ (List.getElem?_eq_getElem hlt)
      refine .inr ⟨go, fun H2 => ∃ W2 M2 accD acc, Le (W1.hold p (.lst acc)) W2 ∧ Sim P W2 M2 H2 ∧ VDs P W2 accD acc ∧ Out P (VD P) W1 (fun c d H' => wx c d σ H') ((compM w.stays (evTurn F same a g io (own.map (·.2)) sd) (w.items.drop (i + 1)) M2).bind fun ds m => newL fz (accD ++ ds) m) Q,
        fun H2 ⟨W2, M2, b1, b2, a1, a2, a3, a4⟩ => ⟨w.items.length - (i + 1), by omega, rfl, hlt, W2, M2, b1, b2, a1, a2, a3, a4⟩, fun x H'' y => ?_⟩
      obtain ⟨S2', ir', vd'⟩ := yl x H'' y
      have Rw : Rels P W' (wipeE sd (own.map (·.2))) (L2.wipe σ (own.map (·.2))) := Rels.wipe ⟨R1.len, fun j d e => let ⟨v, e1, e2⟩ := R1.at_ j d e; ⟨v, e1, e2.upq lw⟩⟩ _
      cases ea : asg g w.items[i] (wipeE sd (own.map (·.2))) with
      | none =>
        simp only [evTurn, ea, opt_none, bind_no] at h'
        exact h'.elim
      | some sd2 =>
        refine go_asg S2'.sub (own.map (·.2)) ea (fun q => vd' (by
          cases pr with
          | false => rfl
          | true => rw [hpr rfl] at q; cases q)) ir' Rw fun σ2 R2 hw => ⟨(hw hown).trans (wipe_wipe σ _), ?_⟩
        simp only [evTurn, ea, opt_some, bind_ok] at h'
        have hp' : ∀ {W3 : Wd} {m3 : Mem} {H3 : Hp}, Le W' W3 → Sim P W3 m3 H3 → W3.R p = some (.lst acc) ∧ H3 p = some (.lst acc) := fun {W3 m3 H3} l3 S3 => by
          have q : W3.R p = some (.lst acc) := by
            rw [l3.r, l'.r]
            exact upd_same
          exact ⟨q, (S3.held p _ q).1⟩
        cases e1 : evIf F same io sd2 M' with
        | no => rw [e1] at h'; exact h'.elim
        | ex c x m1 => rw [e1] at h'; exact h'.elim
        | ok k m1 =>
          rw [e1] at h'
          refine ⟨W', M', sd2, S2', R2, ?_⟩
          rw [e1]
          intro W3 k' H3 l3 S3 ek
          have ek : k = k' := ek
          subst ek
          cases k with
          | false =>
            simp only [bind_ok, noX_ok, Bool.false_eq_true, if_false] at h' ⊢
            exact ⟨W3, m1, accD, acc, l'.trans l3, S3, ra.up l3, by simpa only [bind_assoc, bind_ok] using h'⟩
          | true =>
            simp only [bind_ok, if_true] at h' ⊢
            cases e2 : evE F same a sd2 m1 with
            | no => rw [e2] at h'; exact h'.elim
            | ex c x m2 => rw [e2] at h'; exact h'.elim
            | ok y m2 =>
              rw [e2] at h'
              simp only [bind_ok, noX_ok, bind_assoc] at h'
              refine ⟨W3, m1, sd2, S3, R2.up l3, ?_⟩
              rw [e2]
              intro W4 v H4 l4 S4 r4
              obtain ⟨q1, q2⟩ := hp' (l3.trans l4) S4
              refine ⟨acc, q2, ?_, W4.hold p (.lst (acc ++ [v])), m2, accD ++ [y], acc ++ [v], ?_, S4.rehold q1 (fun _ z => by cases z) (fun _ _ z => by unfold LamX.CodeO at z; cases z), ?_, ?_⟩
              · rw [ra.length]
                rcases compM_noex (st := w.stays) (f := evTurn F same a g io (own.map (·.2)) sd) (ds := w.items.drop (i + 1)) (m := m2) with ⟨xs, m3, e3⟩ | e3
                · rw [e3] at h'
                  simp only [bind_ok] at h'
                  unfold newL at h'
                  have q := h'.guard.1
                  simp only [List.length_append, List.length_cons] at q
                  have : sizeLine = line := sizeLine_eq
                  omega
                · rw [e3] at h'
                  exact h'.elim
              · have l5 := (l'.trans l3).trans l4
                exact ⟨l5.g, by show upd W4.R p _ = upd W1.R p _; rw [l5.r]; exact upd_upd, l5.b⟩
              · exact ((VDs.upG (W := W4) (W' := W4.hold p (.lst (acc ++ [v]))) (fun _ _ e => e) (fun _ _ e => e) ((ra.up l3).up l4)).app (.cons (VD.upG (W := W4) (W' := W4.hold p (.lst (acc ++ [v]))) (fun _ _ e => e) (fun _ _ e => e) r4) .nil))
              · have z : ∀ (ds : List SS.D), accD ++ [y] ++ ds = accD ++ y :: ds := fun ds => by simp
                simp only [z]
                exact h'
    · exact h'.elim
  · have e : i = w.items.length := by omega
    rw [e, List.drop_length] at h'
    simp only [compM] at h'
    split at h'
    · rename_i st
      refine .inl ⟨(wr i W' M' H' lw S' st).2 e, ?_⟩
      have h' : Out P (VD P) W1 (fun c d H' => wx c d σ H') (newL fz accD M') Q := by simpa using h'
      have h' := h'.up lw
      unfold newL at h'
      obtain ⟨hz, h'⟩ := h'.guard
      have ra' : VDs P (W'.free W1.R) accD acc := VDs.upG (W := W') (W' := W'.free W1.R) (fun _ _ e => e) (fun _ _ e => e) ra
      cases fz with
      | true =>
        obtain ⟨S3, l3⟩ := S0.toDat hold.1 hold.2.1 hRp hold.2.2
        exact h' _ _ _ l3 S3 (.lst (.inl upd_same) (ra'.up l3))
      | false =>
        refine h' _ _ _ leAdd (S0.toCell (c := .lst accD) hold.1 ra' hold.2.1 hRp hold.2.2) (.loc ?_)
        show (W'.β ++ [p])[M'.length]? = some p
        rw [← S0.len, List.getElem?_append_right (Nat.le_refl _)]
        simp
    · exact h'.elim
theorem comp_red {fz : Bool} {own : List (Str × Nat)} {g : Tg} {it : It} {io : Oe} {pr : Bool} (hpr : pr = true → isTup g = true) (hown : tgIn (own.map (·.2)) g = true) {Q : VK}
    (h : tE P F same wx (.comp fz a g it io (own.map (·.2))) σ H Q) : tLc (tI P F same wx pr it) (gT P.K g) (tIf? P F same io) (tE P F same fx0 a) (own.map (·.2)) σ H Q := by
  obtain ⟨W, M, sd, S, Rl, h⟩ := h
  have h : Out P (VD P) W (fun c d H' => wx c d σ H') ((evI F same it sd M).bind fun w m => (compM w.stays (evTurn F same a g io (own.map (·.2)) sd) w.items m).bind fun ds m => newL fz ds m) Q := by
    simp only [evE] at h
    exact h
  exact ⟨W, M, sd, S, Rl, (h.bind (WR P pr)).imp fun J H1 ⟨W1, w, m1, l1, S1, wr, h1⟩ => comp_step (H := H) hpr hown S1 (Rl.up l1) wr h1⟩
theorem s_comp {fz : Bool} {elt iter : Expr} {t : Expr} {ifs : List Expr} {scope : Scope} {own : List (Str × Nat)} {g : Tg} {it : It} {io : Oe} {pr : Bool} (fx : Fx P n X) (hz : n ≠ 0) (hi : PI X t iter (tI P F same wx pr it)) (ok : BlkOk X.N X.env.scope scope own) (hpr : pr = true → isTup g = true) (hown : tgIn (own.map (·.2)) g = true)
    (hg : ∀ (s : Shared) (H : Hp) (C : Addr) (cl : List (Str × Addr)) (fp : List Addr), PG (X.blk s H scope (compEnvC scope cl C X.env) fp) t (gT P.K g))
    (ht : ∀ (s : Shared) (H : Hp) (C : Addr) (cl : List (Str × Addr)) (fp : List Addr), PTs (X.blk s H scope (compEnvC scope cl C X.env) fp) ifs (tIf? P F same io))
    (he : ∀ (s : Shared) (H : Hp) (C : Addr) (cl : List (Str × Addr)) (fp : List Addr), PE (X.blk s H scope (compEnvC scope cl C X.env) fp) elt (tE P F same fx0 a)) (hs : ∀ x, foldedSetIterable iter X.env x = pure x) :
    PE X (.ListComp elt [⟨t, iter, ifs, 0⟩] scope pos) (tE P F same wx (.comp fz a g it io (own.map (·.2)))) := PE_imp (pe_lc (fx.calm hz) fx.nd hi ok hg ht he hs) fun σ H Q h => comp_red hpr hown h
theorem w_setComp {wy : WY} {i : Nat} {y : Str} {py spos : Pos} {fz : Bool} {elt iter : Expr} {t : Expr} {ifs : List Expr} {scope : Scope} {own : List (Str × Nat)} {g : Tg} {it : It} {io : Oe} {pr : Bool} (fx : Fx P n X) (hz : n ≠ 0) (hy : X.N[i]? = some y) (hyl : X.env.scope.names.lookup y = some .local) (hsw : swapsWith (.ListComp elt [⟨t, iter, ifs, 0⟩] scope pos) (some (.Name y py)) spos.line X.env = pure true)
    (hi : PI X t iter (tI P F same (noσ wy) pr it)) (ok : BlkOk X.N X.env.scope scope own) (hpr : pr = true → isTup g = true) (hown : tgIn (own.map (·.2)) g = true)
    (hg : ∀ (s : Shared) (H : Hp) (C : Addr) (cl : List (Str × Addr)) (fp : List Addr), PG (X.blk s H scope (compEnvC scope cl C X.env) fp) t (gT P.K g))
    (ht : ∀ (s : Shared) (H : Hp) (C : Addr) (cl : List (Str × Addr)) (fp : List Addr), PTs (X.blk s H scope (compEnvC scope cl C X.env) fp) ifs (tIf? P F same io))
    (he : ∀ (s : Shared) (H : Hp) (C : Addr) (cl : List (Str × Addr)) (fp : List Addr), PE (X.blk s H scope (compEnvC scope cl C X.env) fp) elt (tE P F same fx0 a)) (hs : ∀ x, foldedSetIterable iter X.env x = pure x) :
    PS X (.Assign [.Name y py] (.ListComp elt [⟨t, iter, ifs, 0⟩] scope pos) spos) (tS P F same wy (.set i (.comp fz a g it io (own.map (·.2))))) :=
  PS_imp (ps_setLc (fx.calm hz) fx.nd hy hyl hsw hi ok hg ht he hs) fun En σ H ⟨W, M, sd, S, Rl, h⟩ => by
    simp only [evS] at h
    exact comp_red hpr hown (at_ES S Rl h fun W1 d m1 v H1 S1 R1 _ r1 h1 => endNx h1 S1 (R1.set r1 i))
/-! ### dicts -/
noncomputable def evTurnD (F : Fns) (same : Nat) (k v : E) (g : Tg) (own : List Nat) (sd : Env) (d : D) (m : Mem) : R (Option (KeyD × D)) := (opt (asg g d (wipeE sd own)) m).bind fun sd' m => (evE F same k sd' m).bind fun x m => (evE F same v sd' m).bind fun y m => (opt (keyOf x) m).bind fun kk m => .ok (some (kk, y)) m
def putAll (kvs : List (KeyD × D)) : List (KeyD × D) := kvs.foldl (fun acc p => setK acc p.1 p.2) []
theorem setK_len {kvs : List (KeyD × D)} {k : KeyD} {d : D} : (setK kvs k d).length ≤ kvs.length + 1 := by
  unfold setK
  split
  · rw [List.length_map]; omega
  · simp
theorem putAll_len (kvs : List (KeyD × D)) : (putAll kvs).length ≤ kvs.length := by
  have key : ∀ (kvs acc : List (KeyD × D)), (kvs.foldl (fun acc p => setK acc p.1 p.2) acc).length ≤ acc.length + kvs.length := by
    intro kvs
    induction kvs with
    | nil => intro acc; simp
    | cons p r ih =>
      intro acc
      rw [List.foldl_cons]
      have h1 := ih (setK acc p.1 p.2)
      have h2 := setK_len (kvs := acc) (k := p.1) (d := p.2)
      simp only [List.length_cons]
      omega
  have := key kvs []
  simp only [List.length_nil, Nat.zero_add] at this
  exact this
theorem dcomp_red {own : List (Str × Nat)} {g : Tg} {it : It} {pr : Bool} (hpr : pr = true → isTup g = true) (hown : tgIn (own.map (·.2)) g = true) {Q : VK}
    (h : tE P F same wx (.dcomp a b g it (own.map (·.2))) σ H Q) : tDc (tI P F same wx pr it) (gT P.K g) tYes (tE P F same fx0 a) (tE P F same fx0 b) (own.map (·.2)) σ H Q := by
  obtain ⟨W, M, sd, S, Rl, h⟩ := h
  have h : Out P (VD P) W (fun c d H' => wx c d σ H') ((evI F same it sd M).bind fun w m => (compM w.stays (evTurnD F same a b g (own.map (·.2)) sd) w.items m).bind fun kvs m => guard (kvs.length ≤ line) (.ok (loc m.length) (m ++ [.dK (putAll kvs)]))) Q := by
    simp only [evE] at h
    exact h
  refine ⟨W, M, sd, S, Rl, (h.bind (WR P pr)).imp ?_⟩
  rintro J H1 ⟨W1, w, m1, l1, S1, wr, h1⟩ p hp
  have R1 := Rl.up l1
  have hRp := S1.noR hp
  refine ⟨fun i mm H' => mm = w.items.length - i ∧ i ≤ w.items.length ∧ ∃ W' M' pre acc, Le (W1.hold p (.dK acc)) W' ∧ Sim P W' M' H' ∧ KVD P W' (putAll pre) acc ∧ Out P (VD P) W1 (fun c d H' => wx c d σ H') ((compM w.stays (evTurnD F same a b g (own.map (·.2)) sd) (w.items.drop i) M').bind fun kvs m => guard ((pre ++ kvs).length ≤ line) (.ok (loc m.length) (m ++ [.dK (putAll (pre ++ kvs))]))) Q,
    ⟨_, rfl, Nat.zero_le _, W1.hold p (.dK []), m1, [], [], Le.refl _, S1.hold hp, .nil, by simpa using h1⟩, ?_⟩
  rintro i mm H' ⟨rfl, hi', W', M', pre, acc, l', S', ra, h'⟩
  have lw : Le W1 (W'.free W1.R) := ⟨l'.g, rfl, l'.b⟩
  obtain ⟨S0, _⟩ := S'.free l' hRp
  have hold : H' p = some (.dK acc) ∧ W'.G p = none ∧ p ∉ W'.β := S'.held p _ (by rw [l'.r]; exact upd_same)
  by_cases hlt : i < w.items.length
  · rw [List.drop_eq_getElem_cons hlt] at h'
    simp only [compM] at h'
    split at h'
    · rename_i st
      obtain ⟨k1, _⟩ := wr i W' M' H' lw S' st
      obtain ⟨go, yl⟩ := k1 _ (List.getElem?_eq_getElem hlt)
      refine .inr ⟨go, fun H2 => ∃ W2 M2 pre acc, Le (W1.hold p (.dK acc)) W2 ∧ Sim P W2 M2 H2 ∧ KVD P W2 (putAll pre) acc ∧ Out P (VD P) W1 (fun c d H' => wx c d σ H') ((compM w.stays (evTurnD F same a b g (own.map (·.2)) sd) (w.items.drop (i + 1)) M2).bind fun kvs m => guard ((pre ++ kvs).length ≤ line) (.ok (loc m.length) (m ++ [.dK (putAll (pre ++ kvs))]))) Q,
        fun H2 ⟨W2, M2, b1, b2, a1, a2, a3, a4⟩ => ⟨w.items.length - (i + 1), by omega, rfl, hlt, W2, M2, b1, b2, a1, a2, a3, a4⟩, fun x H'' y => ?_⟩
      obtain ⟨S2', ir', vd'⟩ := yl x H'' y
      have Rw : Rels P W' (wipeE sd (own.map (·.2))) (L2.wipe σ (own.map (·.2))) := Rels.wipe ⟨R1.len, fun j d e => let ⟨v, e1, e2⟩ := R1.at_ j d e; ⟨v, e1, e2.upq lw⟩⟩ _
      cases ea : asg g w.items[i] (wipeE sd (own.map (·.2))) with
      | none =>
        simp only [evTurnD, ea, opt_none, bind_no] at h'
        exact h'.elim
      | some sd2 =>
        refine go_asg S2'.sub (own.map (·.2)) ea (fun q => vd' (by
          cases pr with
          | false => rfl
          | true => rw [hpr rfl] at q; cases q)) ir' Rw fun σ2 R2 hw => ⟨(hw hown).trans (wipe_wipe σ _), ?_⟩
        simp only [evTurnD, ea, opt_some, bind_ok] at h'
        show tE P F same fx0 a σ2 H'' _
        cases e1 : evE F same a sd2 M' with
        | no => rw [e1] at h'; exact h'.elim
        | ex c x m1 => rw [e1] at h'; exact h'.elim
        | ok x1 m1 =>
          rw [e1] at h'
          refine ⟨W', M', sd2, S2', R2, ?_⟩
          rw [e1]
          intro W3 v3 H3 l3 S3 r3
          simp only [bind_ok] at h'
          cases e2 : evE F same b sd2 m1 with
          | no => rw [e2] at h'; exact h'.elim
          | ex c x m2 => rw [e2] at h'; exact h'.elim
          | ok y m2 =>
            rw [e2] at h'
            simp only [bind_ok] at h'
            refine ⟨W3, m1, sd2, S3, R2.up l3, ?_⟩
            rw [e2]
            intro W4 v H4 l4 S4 r4
            cases ek : keyOf x1 with
            | none => rw [ek] at h'; exact h'.elim
            | some kk =>
              rw [ek] at h'
              simp only [opt_some, bind_ok, noX_ok, bind_assoc] at h'
              have q1 : W4.R p = some (.dK acc) := by
                rw [(l3.trans l4).r, l'.r]
                exact upd_same
              have hl : (pre ++ [(kk, y)]).length ≤ line ∧ True := by
                rcases compM_noex (st := w.stays) (f := evTurnD F same a b g (own.map (·.2)) sd) (ds := w.items.drop (i + 1)) (m := m2) with ⟨xs, m3, e3⟩ | e3
                · rw [e3] at h'
                  simp only [bind_ok] at h'
                  have q := h'.guard.1
                  simp only [List.length_append, List.length_cons, List.length_nil] at q ⊢
                  exact ⟨by omega, True.intro⟩
                · rw [e3] at h'
                  exact h'.elim
              have ex : putAll (pre ++ [(kk, y)]) = setK (putAll pre) kk y := by simp [putAll]
              refine ⟨acc, kk, keyOf_v ek (VD.vr S3.sub r3), (S4.held p _ q1).1, ?_, W4.hold p (.dK (L2.putK acc kk v)), m2, pre ++ [(kk, y)], L2.putK acc kk v, ?_, S4.rehold q1 (fun _ z => by cases z) (fun _ _ z => by unfold LamX.CodeO at z; cases z), ?_, ?_⟩
              · have z1 := ra.len
                have z2 := putAll_len pre
                have z3 := hl.1
                simp only [List.length_append, List.length_cons, List.length_nil] at z3
                have : sizeLine = line := sizeLine_eq
                omega
              · have l5 := (l'.trans l3).trans l4
                exact ⟨l5.g, by show upd W4.R p _ = upd W1.R p _; rw [l5.r]; exact upd_upd, l5.b⟩
              · rw [ex]
                exact KVD.put (VD.upG (W := W4) (W' := W4.hold p (.dK (L2.putK acc kk v))) (fun _ _ e => e) (fun _ _ e => e) r4) (KVD.upG (W := W4) (W' := W4.hold p (.dK (L2.putK acc kk v))) (fun _ _ e => e) (fun _ _ e => e) ((ra.up l3).up l4))
              · have z : ∀ (ds : List (KeyD × SS.D)), pre ++ [(kk, y)] ++ ds = pre ++ (kk, y) :: ds := fun ds => by simp
                simp only [z]
                exact h'
    · exact h'.elim
  · have e : i = w.items.length := by omega
    rw [e, List.drop_length] at h'
    simp only [compM] at h'
    split at h'
    · rename_i st
      refine .inl ⟨(wr i W' M' H' lw S' st).2 e, ?_⟩
      simp only [bind_ok, List.append_nil] at h'
      have h' := h'.guard.2.up lw
      refine h' _ _ _ leAdd (S0.toCell (c := .dK (putAll pre)) hold.1 (show KVD P _ _ _ from KVD.upG (W := W') (W' := W'.free W1.R) (fun _ _ e => e) (fun _ _ e => e) ra) hold.2.1 hRp hold.2.2) (.loc ?_)
      show (W'.β ++ [p])[M'.length]? = some p
      rw [← S0.len, List.getElem?_append_right (Nat.le_refl _)]
      simp
    · exact h'.elim
theorem w_setDComp {wy : WY} {i : Nat} {y : Str} {py spos : Pos} {kx vx iter : Expr} {t : Expr} {scope : Scope} {own : List (Str × Nat)} {g : Tg} {it : It} {pr : Bool} (fx : Fx P n X) (hz : n ≠ 0) (hy : X.N[i]? = some y) (hyl : X.env.scope.names.lookup y = some .local) (hsw : swapsWith (.DictComp kx vx [⟨t, iter, [], 0⟩] scope pos) (some (.Name y py)) spos.line X.env = pure true)
    (hi : PI X t iter (tI P F same (noσ wy) pr it)) (ok : BlkOk X.N X.env.scope scope own) (hpr : pr = true → isTup g = true) (hown : tgIn (own.map (·.2)) g = true)
    (hg : ∀ (s : Shared) (H : Hp) (C : Addr) (cl : List (Str × Addr)) (fp : List Addr), PG (X.blk s H scope (compEnvC scope cl C X.env) fp) t (gT P.K g))
    (hk : ∀ (s : Shared) (H : Hp) (C : Addr) (cl : List (Str × Addr)) (fp : List Addr), PE (X.blk s H scope (compEnvC scope cl C X.env) fp) kx (tE P F same fx0 a))
    (he : ∀ (s : Shared) (H : Hp) (C : Addr) (cl : List (Str × Addr)) (fp : List Addr), PE (X.blk s H scope (compEnvC scope cl C X.env) fp) vx (tE P F same fx0 b)) (hs : ∀ x, foldedSetIterable iter X.env x = pure x) :
    PS X (.Assign [.Name y py] (.DictComp kx vx [⟨t, iter, [], 0⟩] scope pos) spos) (tS P F same wy (.set i (.dcomp a b g it (own.map (·.2))))) := by
  refine ⟨fun pins s σ H En I ⟨W, M, sd, S, Rl, h⟩ => ?_⟩
  simp only [evS] at h
  have h := dcomp_red (pr := pr) hpr hown (at_ES (Q' := fun v H' => En.nx (σ.set i (some v)) H') S Rl h fun W1 d m1 v H1 S1 R1 _ r1 h1 => endNx h1 S1 (R1.set r1 i))
  rw [exec_Assign_Name_used _ _ _ _ hsw]
  refine wpAny_bind (wpAny_standAt (wpAny_bind ?_))
  show wpAny _ X.A (do let _ ← comprehension (.DictComp kx vx [⟨t, iter, [], 0⟩] scope pos) scope X.env (firstIterPos [⟨t, iter, [], 0⟩] pos) newDict false (eval iter X.env) (some (assign (.Name y py) X.env))) _ _ s
  refine wpAny_bind (thn (dc_core (Qf := fun _ s' => SP X pins En .next s') (fx.calm hz) fx.nd I hi ok hg (fun _ _ _ _ _ => pts_nil) hk he hs h fun L C s' m H' I' q hn f => ?_) fun _ s' hq => wpAny_pure (wpAny_pure hq))
  show wpAny _ _ (assign (.Name y py) X.env (.ref L)) _ _ _
  refine wpAny_assign_Name (store_ok2 (v := V.ref L) I' fx.nd hy (.inl hyl) rfl (fun s2 I2 ⟨a, sb, ha⟩ => ?_) (.inr hyl))
  obtain ⟨f0, f1, f2, f3, f4, f5⟩ := f
  have haC : C ≠ a := by
    rcases ha with z | z
    · rw [z]; exact f1
    · exact fun e => f4 y a z e.symm
  exact ⟨m, hn.sameBut sb haC, fun h3 sb3 => ⟨_, H', I2.turned (t' := s2.toks) (fun b o hb e => (sb3.2 b hb).trans e) f0 f1 f3 f4 f5, q⟩⟩
end
end SS
end PT_SH
section PT_SI
set_option Elab.async false
set_option linter.all false
set_option maxRecDepth 100000
set_option maxHeartbeats 2000000
/-! Exceptions of two levels: super().__init__(..). -/
namespace SS
open PySem PySem.Spec PyProof.Rows L2
/-- the names of an __init__ that says super(): parameters, __class__ -/
structure SupScope (N ps : List Str) (sc : Scope) : Prop where
  kind : sc.kind = .function
  co : sc.isCoroutine = false
  gen : sc.isGenerator = false
  nd : N.Nodup
  pre : N.take ps.length = ps
  par : ∀ x ∈ ps, sc.names.lookup x = some .local
  nocell : ∀ y ∈ sc.names, y.2 ≠ .cell
  free : ∀ y ∈ sc.names, y.2 = .free → y.1 = "__class__"
  sup : sc.names.lookup ("super" : Str) = some .globalImplicit
  cls : sc.names.lookup ("__class__" : Str) = some .free
abbrev supEnv (qual : Str) (scope : Scope) (L f : Addr) (cd : Value) (cc : Addr) : PySem.Env := PySem.W.ksEnv qual scope L f cd cc
def cxS (CX : CXT) (P : Program) (w : World) (K : PySem.W.Frag) (mg : Str → Option Value) (base : Heap) (N : List Str) (qual : Str) (scope : Scope) (f cc : Addr) (cd : Value) (A : Around) (outer : List PySem.Env) (s : Shared) (H : Hp) (Ex : XK) : Cx where
  prog := P
  w := w
  K := K
  mg := mg
  base := base
  A := A.deeper (supEnv qual scope s.heap.objs.size f cd cc)
  N := N
  s_0 := s
  H_0 := H
  env := supEnv qual scope s.heap.objs.size f cd cc
  outer := outer
  stack := supEnv qual scope s.heap.objs.size f cd cc :: outer
  ex := []
  calm := true
  fn := fun x => !(x == "__class__")
  pn := []
  xe := fun e s' => wpAny (model P w) (A.deeper (supEnv qual scope s.heap.objs.size f cd cc)) (leaving (supEnv qual scope s.heap.objs.size f cd cc) e) (fun _ s'' => CX outer H s Ex e s'') (fun e' s'' => CX outer H s Ex e' s'') s'
/-- the cell of __class__ in the written part -/
def ClsCell (K : PySem.W.Frag) (cc D : Addr) : Prop := ∃ (cl : Value) (cld : Option Addr) (csl : Array (Option Value)), K.lookup cc = some ⟨cl, cld, .cell (some (.ref D)), csl⟩
section
variable {CX : CXT} {P : Program} {w : World} {K : PySem.W.Frag} {mg : Str → Option Value} {base : Heap} {N ps : List Str} {qual : Str} {scope : Scope} {f cc D : Addr} {cd : Value} {A : Around} {outer : List PySem.Env} {s : Shared} {H : Hp} {Ex : XK} {us : List Value} {vs : List V}
theorem lookup_mem {α : Type} {x : Str} {u : α} : ∀ {l : List (Str × α)}, (l.map (·.1)).Nodup → (x, u) ∈ l → l.lookup x = some u
  | [], _, h => by cases h
  | (k, v) :: r, nd, h => by
    rw [List.map_cons, List.nodup_cons] at nd
    rw [List.lookup_cons]
    rcases List.mem_cons.mp h with e | h
    · cases e
      simp
    · have hx : (x == k) = false := beq_eq_false_iff_ne.mpr fun e => nd.1 (by rw [← e]; exact List.mem_map_of_mem (f := (·.1)) h)
      rw [hx]
      exact lookup_mem nd.2 h
theorem zip_keys {α : Type} : ∀ {ps : List Str} {us : List α}, us.length = ps.length → (ps.zip us).map (·.1) = ps
  | [], _, _ => by simp
  | p :: ps, [], h => by simp at h
  | p :: ps, u :: us, h => by simp [zip_keys (ps := ps) (us := us) (by simpa using h)]
theorem sup_look {c : Addr} {x : Str} (h : List.lookup x [(("__class__" : Str), cc)] = some c) : x = "__class__" ∧ c = cc := by
  rw [List.lookup_cons] at h
  cases e : x == ("__class__" : Str) with
  | true =>
    rw [e] at h
    cases h
    exact ⟨by simpa using e, rfl⟩
  | false => rw [e] at h; cases h
theorem sup_start {h₁ : Heap} {tk : Nat} (S : SupScope N ps scope) (hd : A.handled = none) (e0 : Env0 P w K mg base A outer s H) (hl : vs.length = ps.length) (r : Vals vs us) (hc : ClsCell K cc D)
    (hns : h₁.Ns s.heap.objs.size (fun x => (ps.zip us).reverse.lookup x)) (kp : ∀ b o, s.heap.get? b = some o → h₁.get? b = some o) :
    Inv (cxS CX P w K mg base N qual scope f cc cd A outer s H Ex) [] (L2.start N vs) H { s with heap := h₁, toks := tk } := by
  obtain ⟨cl, cld, csl, hcc⟩ := hc
  have KB := e0.mod.kin
  have bcc : base.get? cc = some ⟨cl, cld, .cell (some (.ref D)), csl⟩ := KB _ _ hcc
  have hpl : ps.length ≤ N.length := by have := congrArg List.length S.pre; rw [List.length_take] at this; omega
  have noA : ∀ b : Addr, b ∉ (cxS CX P w K mg base N qual scope f cc cd A outer s H Ex).ex := fun b z => absurd (show b ∈ ([] : List Addr) from z) (by simp)
  have lk : ∀ {x c}, (cxS CX P w K mg base N qual scope f cc cd A outer s H Ex).env.cells.lookup x = some c → x = "__class__" ∧ c = cc := fun h => sup_look h
  refine ⟨⟨e0.mod, S.kind, rfl, rfl, Nat.le_refl _, fun x y c h1 h2 => (lk h1).1.trans (lk h2).1.symm, fun y hy => ?_, fun y c q h => ?_, fun _ => hd, Around.frames_deeper e0.frames, .inr ⟨rfl, rfl⟩, fun b z => absurd z (noA b), e0.bs, e0.bsz, fun b _ _ => noA b, fun b z => absurd z (noA b), e0.funs, e0.frf⟩,
    rfl, e0.bare, Un.kept kp, ⟨_, hns, fun i y v h1 h2 h3 => ?_⟩, fun y c h => ?_, e0.hok.fresh (Nat.le_refl _), fun y c h => ?_, fun p hp => absurd (show p ∈ ([] : List (Addr × Obj)) from hp) (by simp), e0.hok.kept kp, ?_⟩
  · have hy : scope.names.lookup y = some .cell ∨ scope.names.lookup y = some .free := hy
    rcases hy with hy | hy
    · exact absurd rfl (S.nocell _ (PySem.mem_of_lookup hy))
    · have := S.free _ (PySem.mem_of_lookup hy) rfl
      have this : y = "__class__" := this
      subst this
      exact ⟨cc, by rfl⟩
  · obtain ⟨rfl, _⟩ := lk h
    exact absurd (show (!(("__class__" : Str) == "__class__")) = true from q) (by decide)
  · have hi : i < vs.length := by
      unfold L2.start at h2
      by_cases hi : i < vs.length
      · exact hi
      · rw [List.getElem?_append_right (by simpa using hi), List.getElem?_replicate] at h2
        split at h2 <;> cases h2
    have ha : vs[i]? = some v := by
      unfold L2.start at h2
      rw [List.getElem?_append_left (by simpa using hi), List.getElem?_map] at h2
      cases e : vs[i]? with
      | none => rw [e] at h2; cases h2
      | some a => rw [e] at h2; cases h2; rfl
    obtain ⟨u, hu, rv⟩ := r.get ha
    have hp : ps[i]? = some y := by rw [← S.pre, List.getElem?_take_of_lt (by omega)]; exact h1
    have ndP : ps.Nodup := by rw [← S.pre]; exact S.nd.sublist (List.take_sublist _ _)
    refine ⟨u, rv, .inl ⟨S.par y (List.mem_of_getElem? hp), ?_⟩⟩
    have ul : us.length = ps.length := by rw [← r.length]; exact hl
    refine lookup_mem ?_ ?_
    · rw [List.map_reverse, zip_keys ul]
      exact (List.reverse_perm ps).nodup_iff.mpr ndP
    · rw [List.mem_reverse]
      refine List.mem_of_getElem? (i := i) ?_
      rw [List.getElem?_zip_eq_some]
      exact ⟨hp, hu⟩
  · obtain ⟨_, rfl⟩ := lk h
    exact ⟨_, _, kp _ _ (e0.bs _ _ bcc).1, rfl⟩
  · obtain ⟨_, rfl⟩ := lk h
    exact (e0.bs _ _ bcc).2
  · show _ = N.length
    unfold L2.start
    rw [List.length_append, List.length_map, List.length_replicate]
    omega
/-- what the written part tells of a class C and of the class D whose __init__ runs -/
structure SupIn (K : PySem.W.Frag) (mg : Str → Option Value) (prog : Program) (f cda cc D C : Addr) (sf : Str) (scope : Scope) : Prop where
  fn : ∃ (oc : Value) (od : Option Addr) (fd : FuncData) (osl : Array (Option Value)) (ar : Arg), K.lookup f = some ⟨oc, od, .func fd, osl⟩ ∧ (fd.params.posonlyargs ++ fd.params.args).head? = some ar ∧ ar.arg = sf
  code : ∃ (ccl : Value) (cdd : Option Addr) (vs : Array Value) (ccs : Array (Option Value)) (file : Str) (tf : Tok), K.lookup cda = some ⟨ccl, cdd, .fields vs, ccs⟩ ∧ vs[2]? = some (.str file tf) ∧ ((prog.main.file : Str) == file) = true
  cell : ClsCell K cc D
  dcls : ∃ cdD, PySem.W.clsIn K D = some cdD
  sub : PySem.W.mroIn K C (.ref D) = some true
  top : (prog.main.scope.names.lookup ("super" : Str)).isSome = false
  msup : mg "super" = none
  lself : scope.names.lookup sf = some .local
  opq : PySem.W.nsIn K cStatics "thirdparty.any" = some none
  ccls : ∃ cd, PySem.W.clsIn K C = some cd
theorem exc_inst {h : Heap} {a C t1 : Addr} {d : Option Addr} {od : Option Obj} (he : h.get? a = some ({ cls := .ref C, dict := d, data := .fields #[.ref t1, .none, .none, .none, .bool false, .none] } : Obj)) (hd : match d with | none => od = none | some dx => ∃ o, od = some o ∧ h.get? dx = some o) :
    PySem.W.InstAt h a ({ cls := .ref C, dict := d, data := .fields #[.ref t1, .none, .none, .none, .bool false, .none] } : Obj) C od := by
  cases d with
  | none => subst hd; exact ⟨he, rfl, rfl, True.intro⟩
  | some dx => obtain ⟨o, rfl, ho⟩ := hd; exact ⟨he, rfl, rfl, ho⟩
theorem sup_base {X : Cx} {pins : List (Addr × Obj)} {σ : L2.St} {C a cda : Addr} {body : List Stmt} {self : Str} {p0 p1 : Pos} {whole : Sem Value} {Q : Value → Shared → Prop} (hX : X = cxS CX P w K mg base N qual scope f cc (.ref cda) A outer s H Ex) (S : SupScope N ps scope) (T : SupIn K mg P f cda cc D C self scope) {s0 : Shared} {H0 : Hp} (I : Inv X pins σ H0 s0)
    (h0 : N[0]? = some self) (hs : σ[0]? = some (some (.ref a))) (ea : H0 a = some (exo a C none)) (h : ∀ (so : Addr) (s' : Shared), Inv X ((so, PySem.W.ks_superObj D a C) :: pins) σ H0 s' → Q (.ref so) s') :
    _root_.PySem.wpAt (model X.prog X.w) X.A (.func body X.env) (attributeBase (.Call (.Name "super" p0) [] [] p1) "__init__" X.env whole) Q X.xe s0 := by
  obtain ⟨oc, od, fd, osl, ar, hf, hp, har⟩ := T.fn
  obtain ⟨ccl, cdd, vs', ccs, file, tf, hcode, hvs, hfile⟩ := T.code
  obtain ⟨cl, cld, csl, hcell⟩ := T.cell
  obtain ⟨cdD, hD⟩ := T.dcls
  obtain ⟨t1, he⟩ := exo_at I.hok ea
  obtain ⟨m, hn, hl⟩ := I.loc
  have KX : X.K.In s0.heap := I.kIn
  obtain ⟨mb, b1, b2⟩ := I.mod.blt
  have gl := I.mod.glob.keeps I.bk
  have bl := b1.keeps I.bk
  subst hX
  have KX : K.In s0.heap := KX
  obtain ⟨u, ru, lu⟩ := hl 0 self (.ref a) h0 hs (.inl T.lself)
  cases ru
  have hm : m self = some (.ref a) := by
    rcases lu with ⟨_, z⟩ | ⟨z, _⟩
    · exact z
    · have z : scope.names.lookup self = some .cell ∨ scope.names.lookup self = some .free := z
      rw [T.lself] at z
      rcases z with z | z <;> cases z
  obtain ⟨oD, hD1, hD2⟩ : ∃ oD, s0.heap.get? D = some oD ∧ oD.data = .cls cdD := by
    unfold PySem.W.clsIn at hD
    split at hD
    · rename_i c d cd' sl ho
      cases hD
      exact ⟨_, KX _ _ ho, rfl⟩
    · cases hD
  obtain ⟨hh, g, d, t, os⟩ := s0
  refine PySem.ks_wpAt_super_base (env := supEnv qual scope s.heap.objs.size f (.ref cda) cc) S.sup S.cls (by decide) rfl (KX _ _ hf) rfl hp rfl (KX _ _ hcode) rfl hvs hfile T.top ?_
  refine PySem.W.ks_loadName_global S.kind S.sup (Calls.loadGlobal_builtin (env := supEnv qual scope s.heap.objs.size f (.ref cda) cc) gl T.msup bl ((b2 _ (by decide)).trans (by decide +kernel : bootBuiltins "super" = some (.type "super"))) ⟨rfl, ?_⟩)
  refine wpAny_loadName_free S.kind S.cls rfl ⟨_, KX _ _ hcell, rfl⟩ ?_
  refine wpAny_loadName_local S.kind (by rw [har]; exact T.lself) hn (by rw [har]; exact hm) ?_
  refine PySem.ks_wpAny_isType_cls hD1 hD2 ⟨rfl, ?_⟩
  refine PySem.ks_wpAny_call_super hD1 hD2 he rfl (fun c e => by cases e) (PySem.W.looks_mroIn KX T.sub) fun h' e k => ?_
  exact h hh.objs.size ⟨h', g, d, t, os⟩ (ClX.pin_new (t' := t) I k (Nat.le_refl _) e (fun v z => by cases z))
/-- the class C behind the class D: what super().__init__ finds -/
def NextIs (K : PySem.W.Frag) (C D : Addr) (v : Value) : Prop := ∃ cd, PySem.W.clsIn K C = some cd ∧ PySem.W.alongIn K "__init__" ((cd.mro.dropWhile (· != .ref D)).drop 1) = some (some v)
theorem init_call {X : Cx} {pins : List (Addr × Obj)} {σ : L2.St} {H : Hp} {s : Shared} {a C u : Addr} {us : List Value} {Q : Value → Shared → Prop} (T : OexC X.K C) (I : Inv X pins σ H s) (e : H a = some (exo a C none)) (hu : s.heap.get? u = some (PySem.W.kxs_mw "ValueError.__init__" a)) (hl : us.length ≤ sizeLine)
    (h : ∀ s', Inv X pins σ H s' → Q .none s') : wpAny (model X.prog X.w) X.A (call (.ref u) us) Q X.xe s := by
  obtain ⟨nm, q, N, bs, bm, sn, sub, ab, col, dd, k0, k1, k2, k3, k5, hC, hbm⟩ := T.cls
  obtain ⟨t1, ho⟩ := exo_at I.hok e
  have KC := I.kIn _ _ hC
  obtain ⟨hp, g, d, t, os⟩ := s
  have FB := F.excBase_ValueError
  refine wpAny_call (codeAny_of_tree ?_)
  show wpAny _ X.A.in1 (callAny (.ref u) ⟨us, []⟩) _ _ _
  simp only [callAny]
  refine wpAny_bind (wpAny_load hu ?_)
  simp only [PySem.W.kxs_mw, show (Value.type "method-wrapper" == Value.type "method" || Value.type "method-wrapper" == Value.type "builtin_function_or_method" || Value.type "method-wrapper" == Value.type "method-wrapper") = true by decide, if_true]
  refine PySem.W.KFB.if_so (by decide) ?_
  refine wpAny_bind (PySem.W.check_bound_init FB.toExcCallFacts KC ho rfl ?_)
  refine wpAny_bind (wpAny_pure (wpAny_pure ⟨PySem.plainId_quiet FB.init.plain _, codeAny_builtin FB.initEntry ?_⟩))
  refine PySem.W.exc_init_tree (cls := .ref C) (t0 := t1) (dv := none) (c2 := .none) (c3 := .none) (b4 := .bool false) ho hl fun h' k hx _ => ?_
  have J := I.write (t' := t) (x := a) (e := a) (o := exo a C none) (by rw [e]; exact True.intro) (.inl rfl) k ⟨_, hx⟩ (exo_ok hx)
  have eu : upd H a (exo a C none) = H := by
    funext b
    by_cases hb : b = a
    · rw [hb, upd_same, e]
    · rw [upd_ne hb]
  rw [eu] at J
  exact h _ J
abbrev SupCall (e : Expr) (es : List Expr) (p0 p1 p2 pos : Pos) : Expr := .Call (.Attribute (.Call (.Name "super" p0) [] [] p1) "__init__" p2) (e :: es) [] pos
/-- what eval makes of it -/
def SupEval (e : Expr) (es : List Expr) (p0 p1 p2 pos : Pos) (env : PySem.Env) : Prop := ∃ pl : Sem Bool, eval (SupCall e es p0 p1 p2 pos) env = (do
  let ov ← attributeBase (.Call (.Name "super" p0) [] [] p1) "__init__" env (eval (.Call (.Name "super" p0) [] [] p1) env)
  standAt p2.atName
  let (f, first) ← holding [ov] (getMethod ov "__init__" pl)
  callWith pos f first (backTo pos (starEach (e :: es) env)) [])
theorem a_ne_C {X : Cx} {pins : List (Addr × Obj)} {σ : L2.St} {H0 : Hp} {s0 : Shared} {C a : Addr} (I : Inv X pins σ H0 s0) (hc : ∃ cd, PySem.W.clsIn X.K C = some cd) (ea : H0 a = some (exo a C none)) : a ≠ C ∧ ∃ t1 : Addr, PySem.W.InstAt s0.heap a ({ cls := .ref C, dict := none, data := .fields #[.ref t1, .none, .none, .none, .bool false, .none] } : Obj) C none := by
  obtain ⟨cd, hc⟩ := hc
  obtain ⟨t1, he⟩ := exo_at I.hok ea
  have J := exc_inst (od := none) he rfl
  exact ⟨PySem.W.ks_ne I.kIn J hc, t1, J⟩
theorem sup_b {X : Cx} {pins : List (Addr × Obj)} {σ : L2.St} {C a cda : Addr} {body : List Stmt} {sf : Str} {p0 p1 p2 pos : Pos} {e : Expr} {es : List Expr} {ta : TA} {Q : VK} (hX : X = cxS CX P w K mg base N qual scope f cc (.ref cda) A outer s H Ex) (S : SupScope N ps scope) (T : SupIn K mg P f cda cc D C sf scope) (O : OexC K C)
    (nx : NextIs K C D (.builtin "ValueError.__init__")) (hB : PySem.W.subIn K (.ref C) (.type "ValueError") = some true) {s0 : Shared} {H0 : Hp} (I : Inv X pins σ H0 s0)
    (h0 : N[0]? = some sf) (hs : σ[0]? = some (some (.ref a))) (ea : H0 a = some (exo a C none)) (ha : PA X (e :: es) ta) (hev : SupEval e es p0 p1 p2 pos X.env) (he : starEach (e :: es) X.env = (false, eval e X.env) :: starEach es X.env) (hpl : (backTo pos (starEach es X.env)).any (·.1) = false)
    (h : ta σ H0 fun vs H1 => H1 a = some (exo a C none) ∧ vs.length ≤ 1000 ∧ Q .non H1) : _root_.PySem.wpAt (model X.prog X.w) X.A (.func body X.env) (eval (SupCall e es p0 p1 p2 pos) X.env) (EP X pins σ Q) X.xe s0 := by
  obtain ⟨pl, hev⟩ := hev
  have XK : X.K = K := by rw [hX] <;> rfl
  refine PySem.ks_wpAt_MethodCall (sup_base (X := X) hX S T I h0 hs ea fun so s1 I1 => ?_) hev
  obtain ⟨hne, t1, J⟩ := a_ne_C I1 (by rw [XK]; exact T.ccls) ea
  obtain ⟨cd, hcd, hal⟩ := nx
  have KX : X.K.In s1.heap := I1.kIn
  rw [XK] at KX
  have hso := ClX.pin_at I1
  have I1' := ClX.unpin I1
  obtain ⟨hh, g, d, t, os⟩ := s1
  refine PySem.W.kxs_getMethod PySem.W.kxs_ValueError hso (PySem.W.looks_opaque KX T.opq) (l₀ := cd.mro) (fun A Q E s k q => wpAny_bind ((PySem.W.looks_clsIn KX hcd) A _ E s k (wpAny_pure q))) rfl KX hal (J.type.andThen (PySem.W.looks_subIn KX hB)) hne (by decide) ?_
  have I2 : Inv X ((hh.objs.size, PySem.W.kxs_mw "ValueError.__init__" a) :: pins) σ H0 { heap := hh.push (PySem.W.kxs_mw "ValueError.__init__" a), gens := g, drawn := d, toks := t + 1, os := os } :=
    ClX.pin_new (t' := t + 1) I1' (fun _ _ z => Heap.get?_push_of_some _ z) (Nat.le_refl _) (Heap.get?_push_size hh rfl) (fun v z => nomatch z)
  show wpAny _ _ (callWith pos (.ref hh.objs.size) [] (backTo pos (starEach (e :: es) X.env)) []) _ _ _
  have hA := ha.run pos _ _ σ H0 _ I2 h
  rw [he] at hA ⊢
  refine PySem.W.kxs_callWith (i := "ValueError.__init__") (x := a) (by show (false || (backTo pos (starEach es X.env)).any (·.1)) = false; rw [hpl] <;> rfl) (Calls.evalArgs_plain (thn hA fun us s3 ⟨vs, H1, I3, rv, e3, hl, q⟩ => ⟨ClX.pin_at I3, ?_⟩))
  exact init_call (by rw [XK]; exact O) (ClX.unpin I3) e3 (ClX.pin_at I3) (by have := rv.length; rw [sizeLine_eq]; simp only [List.nil_append]; omega) fun s' I4 => ⟨.non, H1, I4, rfl, q⟩
theorem sup_f {X : Cx} {pins : List (Addr × Obj)} {σ : L2.St} {C a cda f2 : Addr} {body : List Stmt} {sf : Str} {p0 p1 p2 pos : Pos} {e : Expr} {es : List Expr} {ta : TA} {Q : VK} {CX2 : CXT} {fd2 : FuncData} {ps2 : List Str} {sp2 : Sp} {k2 : Nat} {E2 : XK} (hX : X = cxS CX P w K mg base N qual scope f cc (.ref cda) A outer s H Ex) (S : SupScope N ps scope) (T : SupIn K mg P f cda cc D C sf scope)
    (nx : NextIs K C D (.ref f2)) (hty : PySem.W.typeIn K (.ref f2) = some (.type "function")) (hfn : PySem.W.fnIn K f2 = true) (F2 : FnOk P w K mg base CX2 k2 f2 fd2 ps2 sp2) (hr : Room k2 X.A) (hb : Binds K fd2 ps2 []) (hx : Passes CX2 X E2) {s0 : Shared} {H0 : Hp} (I : Inv X pins σ H0 s0)
    (h0 : N[0]? = some sf) (hs : σ[0]? = some (some (.ref a))) (ea : H0 a = some (exo a C none)) (ha : PA X (e :: es) ta) (hev : SupEval e es p0 p1 p2 pos X.env) (he : starEach (e :: es) X.env = (false, eval e X.env) :: starEach es X.env) (hpl : (backTo pos (starEach es X.env)).any (·.1) = false)
    (h : ta σ H0 fun vs H1 => sp2 (.ref a :: vs) H1 Q E2) : _root_.PySem.wpAt (model X.prog X.w) X.A (.func body X.env) (eval (SupCall e es p0 p1 p2 pos) X.env) (EP X pins σ Q) X.xe s0 := by
  obtain ⟨pl, hev⟩ := hev
  have XK : X.K = K := by rw [hX] <;> rfl
  refine PySem.ks_wpAt_MethodCall (sup_base (X := X) hX S T I h0 hs ea fun so s1 I1 => ?_) hev
  obtain ⟨hne, t1, J⟩ := a_ne_C I1 (by rw [XK]; exact T.ccls) ea
  obtain ⟨cd, hcd, hal⟩ := nx
  have KX : X.K.In s1.heap := I1.kIn
  rw [XK] at KX
  have hso := ClX.pin_at I1
  have I1' := ClX.unpin I1
  obtain ⟨of, hof, hofc⟩ : ∃ of, s1.heap.get? f2 = some of ∧ of.cls = .type "function" := by
    have ht' : (K.lookup f2).map (·.cls) = some (.type "function") := hty
    cases z : K.lookup f2 with
    | none => rw [z] at ht'; cases ht'
    | some of => rw [z] at ht'; exact ⟨of, KX _ _ z, Option.some.inj ht'⟩
  have hb0 : X.base.get? s1.heap.objs.size = none := ClX.base_none I1 (Nat.le_refl _)
  obtain ⟨hh, g, d, t, os⟩ := s1
  refine PySem.ks_wpAny_getMethod_super hso (PySem.W.looks_opaque KX T.opq) (l₀ := cd.mro) (fun A Q E s k q => wpAny_bind ((PySem.W.looks_clsIn KX hcd) A _ E s k (wpAny_pure q))) rfl KX hal hof hofc hne (by decide) ?_
  have I2 : Inv X ((hh.objs.size, PySem.W.methodObj (.ref f2) (.ref a)) :: pins) σ H0 { heap := hh.push (PySem.W.methodObj (.ref f2) (.ref a)), gens := g, drawn := d, toks := t + 1, os := os } :=
    ClX.pin_new (t' := t + 1) I1' (fun _ _ z => Heap.get?_push_of_some _ z) (Nat.le_refl _) (Heap.get?_push_size hh rfl) (fun v z => nomatch z)
  show wpAny _ _ (callWith pos (.ref hh.objs.size) [] (backTo pos (starEach (e :: es) X.env)) []) _ _ _
  refine ClX.callwith_cm (C := a) (g := f2) I2 hb0 (by rw [XK]; exact hfn) (thn (ha.run pos _ _ σ H0 _ I2 h) fun us s3 ⟨vs, H1, I3, rv, q⟩ => ⟨⟨ClX.pin_at I3, I3.kIn⟩, ?_⟩) he hpl
  have I3' := ClX.unpin I3
  subst hX
  have hl : (Value.ref a :: us).length = ps2.length := by
    have z := F2.len _ _ _ _ q
    have z2 := rv.length
    simp only [List.length_cons] at z ⊢
    omega
  have hbt := hb s3 (.ref a :: us) I3'.kIn (by rw [List.append_nil]; exact hl)
  rw [List.append_nil] at hbt
  refine wpAny_call (PySem.W.method_call (ClX.pin_at I3) (codeAny_mono (F2.run _ _ s3 H1 ⟨.ref a :: us, []⟩ (.ref a :: us) (.ref a :: vs) Q E2 hr I3'.env0 hbt (.cons rfl rv) q) fun r s' hq => ?_))
  cases r with
  | error e => exact hx pins σ H1 s3 e s' I3' hq
  | ok fl =>
    cases fl with
    | ret u => exact I3'.after hq
    | next => exact False.elim hq
    | brk => exact False.elim hq
    | cont => exact False.elim hq
/-- an __init__ keeps its promise: its body runs where super() is known -/
theorem sup_fn {k : Nat} {name : Str} {params : Arguments} {body : List Stmt} {dV kV doc pm ct oc : Value} {an od : Option Addr} {cda : Addr} {osl : Array (Option Value)} {sp : Sp} (lk : K.lookup f = some ⟨oc, od, .func (PySem.W.ksFn name qual params body scope dV kV doc pm an (.ref cda) ct cc), osl⟩) (hcd : PySem.W.codeIn K (.ref cda) qual = true) (S : SupScope N ps scope) (hc : ClsCell K cc D)
    (len : ∀ vs H Q E, sp vs H Q E → vs.length = ps.length)
    (hbody : ∀ (A : Around) (outer : List PySem.Env) (s : Shared) (H : Hp) (vs : List V) (Q : VK) (Ex : XK) (X : Cx), X = cxS CX P w K mg base N qual scope f cc (.ref cda) A outer s H Ex → Room k X.A → sp vs H Q Ex → ∀ s1, Inv X [] (L2.start N vs) H s1 →
      _root_.PySem.wpAt (model X.prog X.w) X.A (.func body X.env) (execs body X.env) (SP X [] { nx := fun _ H' => Q .non H', rt := Q }) X.xe s1) :
    FnOk P w K mg base CX (k + 1) f (PySem.W.ksFn name qual params body scope dV kV doc pm an (.ref cda) ct cc) ps sp := by
  refine ⟨len, fun A outer s H args us vs Q Ex hr e0 hb r hsp => ?_⟩
  have hl := len _ _ _ _ hsp
  have KX : K.In s.heap := e0.mod.kin.keeps fun b o e => (e0.bs b o e).1
  have lim : s.heap.NoLimit := e0.mod.nolimit.keeps fun b o e => (e0.bs b o e).1
  have hloc : ∀ y ∈ ps.zip us, scope.names.lookup y.1 = some .local := fun ⟨n, v⟩ hy => S.par n (List.of_mem_zip hy).1
  refine PySem.ks_codeAny_call_defAt (fd := PySem.W.ksFn name qual params body scope dV kV doc pm an (.ref cda) ct cc) (body := body) (binds := ps.zip us) hr.depth (KX _ _ lk) rfl lim (PySem.W.codeRec_of KX hcd) rfl hb S.nocell hloc (fun h₁ hns hk₁ => ?_) S.co S.gen S.kind
  have I := sup_start (CX := CX) (tk := s.toks + (ps.zip us).length) (N := N) (qual := qual) (f := f) (cd := .ref cda) (Ex := Ex) S hr.hd e0 hl r hc hns hk₁
  refine ks_wpAt_mono (hbody A outer s H vs Q Ex _ rfl (hr.deeper _) hsp _ I) (fun fl s' hs => ?_) fun e s' hs => hs
  have fin : ∀ {σ' : L2.St} {H' : Hp} {v : V} {u : Value}, Inv (cxS CX P w K mg base N qual scope f cc (.ref cda) A outer s H Ex) [] σ' H' s' → L2.RelV v u → Q v H' → CE outer P w H s Q u s' :=
    fun {σ' H' v u} J rv q => ⟨v, H', J.os, J.bare, J.base, J.hok, rv, q⟩
  cases fl with
  | ret u => obtain ⟨v, σ', H', J, rv, q⟩ := hs; exact fin J rv q
  | next => obtain ⟨σ', H', J, q⟩ := hs; exact fin (v := V.non) (u := Value.none) J rfl q
  | brk => obtain ⟨_, _, _, q⟩ := hs; exact False.elim q
  | cont => obtain ⟨_, _, _, q⟩ := hs; exact False.elim q
end
end SS
end PT_SI
section PT_SJ
set_option Elab.async false
set_option linter.all false
set_option maxRecDepth 100000
set_option maxHeartbeats 2000000
/-! The two __init__'s, raise. -/
namespace SS
open PySem PySem.Spec PyProof.Rows L2
theorem sup_eval {e : Expr} {es : List Expr} {p0 p1 p2 pos : Pos} {env : PySem.Env} (hline : (p2.endLine == pos.line) = true) (hf : methodCallForm ((e :: es).length + 0) (backTo pos (starEach (e :: es) env)) [] = true) : SupEval e es p0 p1 p2 pos env := by
  refine ⟨(do return (← importBound (.Call (.Name "super" p0) [] [] p1) env).getD true), ?_⟩
  rw [arm_eval_Call]
  congr 1
  funext ov
  congr 1
  funext _
  show methodCall _ _ _ _ _ _ ((e :: es).length + 0) _ [] = _
  unfold methodCall calleeOf methodCallPos
  rw [hf]
  simp only [hline, Bool.not_true, Bool.false_or, if_true]
  rfl
section
variable {P : Program} {w : World} {K : PySem.W.Frag} {mg : Str → Option Value} {base : Heap} {scR scX : Scope} {fR cdR ccR DR fX cdX ccX C : Addr}
def namesR : List Str := ["self", "what", "word"]
def namesX : List Str := ["self", "what"]
/-- the facts about a class C under the first class D -/
structure RefC (K : PySem.W.Frag) (mg : Str → Option Value) (P : Program) (fR cdR ccR DR : Addr) (scR : Scope) (C : Addr) : Prop where
  sup : SupIn K mg P fR cdR ccR DR C "self" scR
  oex : OexC K C
  nx : NextIs K C DR (.builtin "ValueError.__init__")
  ve : PySem.W.subIn K (.ref C) (.type "ValueError") = some true
  what : PySem.W.findIn K (.ref C) "what" = some none
  word : PySem.W.findIn K (.ref C) "word" = some none
def spR (K : PySem.W.Frag) (mg : Str → Option Value) (P : Program) (fR cdR ccR DR : Addr) (scR : Scope) : Sp := fun vs H Q _ => ∃ (a C : Addr) (v u : V), vs = [.ref a, v, u] ∧ RefC K mg P fR cdR ccR DR scR C ∧ H a = some (exo a C none) ∧
  ∀ dx, H dx = none → dx ≠ a → Q .non (upd (upd (upd H dx (exd dx [("what", v)])) a (exo a C (some dx))) dx (exd dx [("word", u), ("what", v)]))
abbrev bodyR (p0 p1 p2 p3 p4 p5 p6 p7 p8 p9 p10 p11 p12 p13 : Pos) : List Stmt := [.Expr (SupCall (.Name "what" p3) [] p0 p1 p2 p4) p5, .Assign [.Attribute (.Name "self" p6) "what" p7] (.Name "what" p8) p9, .Assign [.Attribute (.Name "self" p10) "word" p11] (.Name "word" p12) p13]
theorem init_R {k : Nat} {name qual : Str} {params : Arguments} {dV kV doc pm ct oc : Value} {an od : Option Addr} {osl : Array (Option Value)} {p0 p1 p2 p3 p4 p5 p6 p7 p8 p9 p10 p11 p12 p13 : Pos}
    (lk : K.lookup fR = some ⟨oc, od, .func (PySem.W.ksFn name qual params (bodyR p0 p1 p2 p3 p4 p5 p6 p7 p8 p9 p10 p11 p12 p13) scR dV kV doc pm an (.ref cdR) ct ccR), osl⟩) (hcd : PySem.W.codeIn K (.ref cdR) qual = true) (S : SupScope namesR namesR scR) (hc : ClsCell K ccR DR) (hline : (p2.endLine == p4.line) = true) :
    FnOk P w K mg base (L2N.CX P w) (k + 1) fR (PySem.W.ksFn name qual params (bodyR p0 p1 p2 p3 p4 p5 p6 p7 p8 p9 p10 p11 p12 p13) scR dV kV doc pm an (.ref cdR) ct ccR) namesR (spR K mg P fR cdR ccR DR scR) := by
  refine sup_fn lk hcd S hc (fun vs H Q E ⟨a, C, v, u, e, _⟩ => by rw [e]; rfl) fun A outer s H vs Q Ex X hX hr hsp s1 I => ?_
  obtain ⟨a, C, v, u, rfl, T, ea, hq⟩ := hsp
  have vis : ∀ x ∈ namesR, Vis X.env.scope x := fun x hx => by rw [hX]; exact .inl (S.par x hx)
  have XN : X.N = namesR := by rw [hX] <;> rfl
  have XK : X.K = K := by rw [hX] <;> rfl
  have pself : ∀ {p : Pos}, PE X (.Name "self" p) (tVar 0) := pe_var (by rw [XN] <;> rfl) (vis _ (by simp [namesR]))
  have pwhat : ∀ {p : Pos}, PE X (.Name "what" p) (tVar 1) := pe_var (by rw [XN] <;> rfl) (vis _ (by simp [namesR]))
  have pword : ∀ {p : Pos}, PE X (.Name "word" p) (tVar 2) := pe_var (by rw [XN] <;> rfl) (vis _ (by simp [namesR]))
  have hst : L2.start namesR [.ref a, v, u] = [some (.ref a), some v, some u] := rfl
  rw [hst] at I
  refine ks_wpAt_execs_cons (ks_wpAt_Expr_any (_root_.PySem.wpAt_mono (sup_b (X := X) hX S T.sup T.oex T.nx T.ve I (by rfl) (by rfl) ea (pa_cons pwhat pa_nil (by rfl)) (sup_eval hline (by rfl)) (by rfl) (by rfl) (Q := fun z H' => H' = H) ?_) (fun z s2 hz => ?_) fun _ _ x => x) I.quiet (by rfl))
  · exact ⟨v, rfl, ea, Nat.succ_le_succ (Nat.zero_le _), rfl⟩
  · obtain ⟨z', H', I2, _, eH⟩ := hz
    subst eH
    refine _root_.PySem.wpAt_of_wpAny ?_
    have st : PSs X _ _ := pss_cons (ps_ost (p' := p7) (pos := p9) (f := "what") (pself (p := p6)) (pwhat (p := p8)) (by rfl)) (pss_cons (ps_ost (p' := p11) (pos := p13) (f := "word") (pself (p := p10)) (pword (p := p12)) (by rfl)) pss_nil)
    refine st.run [] s2 _ H' _ I2 ⟨v, rfl, .ref a, rfl, a, C, rfl, by rw [XK]; exact T.oex, by rw [XK]; exact T.what, .inl ⟨ea, fun dx n ne => ?_⟩⟩
    refine ⟨u, rfl, .ref a, rfl, a, C, rfl, by rw [XK]; exact T.oex, by rw [XK]; exact T.word, .inr ⟨dx, [("what", v)], upd_same, ?_, by simp, hq dx n ne⟩⟩
    rw [upd_ne ne, upd_same]
/-- C.__init__(self, what) -/
def spN (C : Addr) (nm : Str) : Sp := fun vs H Q _ => ∃ (a : Addr) (v : V), vs = [.ref a, v] ∧ H a = some (exo a C none) ∧
  ∀ dx, H dx = none → dx ≠ a → Q .non (upd (upd (upd H dx (exd dx [("what", v)])) a (exo a C (some dx))) dx (exd dx [("word", .str nm), ("what", v)]))
abbrev bodyX (nm : Str) (j : Nat) (p0 p1 p2 p3 p4 p5 p6 : Pos) : List Stmt := [.Expr (SupCall (.Name "what" p3) [.Constant (.str nm) j p6] p0 p1 p2 p4) p5]
theorem init_X {k k2 : Nat} {name qual nm : Str} {j : Nat} {params : Arguments} {dV kV doc pm ct oc : Value} {an od : Option Addr} {osl : Array (Option Value)} {p0 p1 p2 p3 p4 p5 p6 : Pos} {fd2 : FuncData}
    (lk : K.lookup fX = some ⟨oc, od, .func (PySem.W.ksFn name qual params (bodyX nm j p0 p1 p2 p3 p4 p5 p6) scX dV kV doc pm an (.ref cdX) ct ccX), osl⟩) (hcd : PySem.W.codeIn K (.ref cdX) qual = true) (S : SupScope namesX namesX scX) (hline : (p2.endLine == p4.line) = true)
    (R : RefC K mg P fR cdR ccR DR scR C) (T : SupIn K mg P fX cdX ccX C C "self" scX) (nx : NextIs K C C (.ref fR)) (hty : PySem.W.typeIn K (.ref fR) = some (.type "function")) (hfn : PySem.W.fnIn K fR = true)
    (F2 : FnOk P w K mg base (L2N.CX P w) k2 fR fd2 namesR (spR K mg P fR cdR ccR DR scR)) (hk : k2 ≤ k) (hb : Binds K fd2 namesR []) :
    FnOk P w K mg base (L2N.CX P w) (k + 1) fX (PySem.W.ksFn name qual params (bodyX nm j p0 p1 p2 p3 p4 p5 p6) scX dV kV doc pm an (.ref cdX) ct ccX) namesX (spN C nm) := by
  refine sup_fn lk hcd S T.cell (fun vs H Q E ⟨a, v, e, _⟩ => by rw [e]; rfl) fun A outer s H vs Q Ex X hX hr hsp s1 I => ?_
  obtain ⟨a, v, rfl, ea, hq⟩ := hsp
  have vis : ∀ x ∈ namesX, Vis X.env.scope x := fun x hx => by rw [hX]; exact .inl (S.par x hx)
  have XN : X.N = namesX := by rw [hX] <;> rfl
  have pwhat : ∀ {p : Pos}, PE X (.Name "what" p) (tVar 1) := pe_var (by rw [XN] <;> rfl) (vis _ (by simp [namesX]))
  have hst : L2.start namesX [.ref a, v] = [some (.ref a), some v] := rfl
  rw [hst] at I
  have hpass : Passes (L2N.CX P w) X (fun _ _ _ => False) := fun pins σ H s e s' I' c => by
    obtain ⟨_, _, _, _, _, _, _, _, _, _, _, _, z⟩ := c
    exact z.elim
  refine ks_wpAt_execs_cons (ks_wpAt_Expr_any (_root_.PySem.wpAt_mono (sup_f (X := X) hX S T nx hty hfn F2 (hr.mono hk) hb hpass I (by rfl) (by rfl) ea (pa_cons pwhat (pa_cons pe_str pa_nil (by rfl)) (by rfl)) (sup_eval hline (by rfl)) (by rfl) (by rfl) (Q := fun z H' => z = .non ∧ Q .non H') ?_) (fun z s2 hz => ?_) fun _ _ x => x) I.quiet (by rfl))
  · exact ⟨v, rfl, a, C, v, .str nm, rfl, R, ea, fun dx n ne => ⟨rfl, hq dx n ne⟩⟩
  · obtain ⟨z', H', I2, _, _, hQ⟩ := hz
    exact _root_.PySem.wpAt_of_wpAny (wpAny_execs_nil ⟨_, H', I2, hQ⟩)
end
/-- what the law's part tells of an exception class -/
structure ExcIn (P : Pm) (prog : Program) (w : World) (mg : Str → Option Value) (base : Heap) (k : Nat) (c : Str) : Prop where
  ex : ∃ (C fX : Addr) (fd : FuncData) (nm : Str), P.ca c = some C ∧ mg c = some (.ref C) ∧ (c == ("__debug__" : Str)) = false ∧ OexC P.K C ∧ PySem.W.findIn P.K (.ref C) "__init__" = some (some (.ref fX)) ∧ PySem.W.typeIn P.K (.ref fX) = some (.type "function") ∧
    FnOk prog w P.K mg base (L2N.CX prog w) k fX fd namesX (spN C nm) ∧ Binds P.K fd namesX []
section
variable {P : Pm} {F : Fns} {same : Nat} {wy : WY} {X : Cx} {n : Nat} {a : E} {ea : Expr} {pos : Pos}
theorem passF {X : Cx} : Passes (L2N.CX X.prog X.w) X (fun _ _ _ => False) := fun pins σ H s e s' I' c => by
  obtain ⟨_, _, _, _, _, _, _, _, _, _, _, _, z⟩ := c
  exact z.elim
/-- C(e, ..): the exception's context is None -/
theorem mk_exc {CX : CXT} {x : Str} {e : Expr} {es : List Expr} {ta : TA} {p pos : Pos} {C fI : Addr} {k : Nat} {fd : FuncData} {ps : List Str} {sp : Sp} (T : OexC X.K C) (iC : PySem.W.findIn X.K (.ref C) "__init__" = some (some (.ref fI))) (tI : PySem.W.typeIn X.K (.ref fI) = some (.type "function"))
    (F1 : FnOk X.prog X.w X.K X.mg X.base CX k fI fd ps sp) (hr : Room (k + 1) X.A) (hb : Binds X.K fd ps []) (hx : Passes CX X (fun _ _ _ => False)) (hg : Gl X x) (hm : X.mg x = some (.ref C)) (ha : PA X (e :: es) ta)
    (hdb : (x == ("__debug__" : Str)) = false) (he : starEach (e :: es) X.env = (false, eval e X.env) :: starEach es X.env) (hpl : (backTo pos (starEach es X.env)).any (·.1) = false) : L2N.PMk X (.Call (.Name x p) (e :: es) [] pos) (tMkO C sp [] ta) := by
  intro pins s σ H Q I h
  obtain ⟨nm, q, N, bs, bm, sn, sub, ab, col, dd, k0, k1, k2, k3, k5, hC, hbm⟩ := T.cls
  refine wpAny_Call_Name_kw (ld_glob I hg hm (PySem.W.callWith_K (h₀ := X.base) I.ok.mod.kin T.kC (thn (ha.run pos pins s σ H _ I h) fun us s1 ⟨vs, H1, I1, r1, hz, q1⟩ => ⟨I1.kIn, ?_⟩) he hpl) hdb)
  show wpAny _ _ (call (.ref C) us) _ _ _
  obtain ⟨hp, g, dr, tk, os⟩ := s1
  have z1 : hp.objs.size ≤ hp.objs.size + 1 := Nat.le_succ _
  have hq := q1 (hp.objs.size + 1) (I1.hok.fresh z1)
  rw [List.append_nil] at hq
  have kk : ∀ b o, hp.get? b = some o → ((hp.push (PySem.W.kdv_tup us)).push (PySem.HandSPX.excO C hp.objs.size)).get? b = some o := fun b o e => Heap.get?_push_of_some _ (Heap.get?_push_of_some _ e)
  have z2 : ((hp.push (PySem.W.kdv_tup us)).push (PySem.HandSPX.excO C hp.objs.size)).get? (hp.objs.size + 1) = some (PySem.HandSPX.excO C hp.objs.size) := by heap_get
  have I2 := I1.laid (t' := tk) (a := hp.objs.size + 1) (o := exo (hp.objs.size + 1) C none) (h' := (hp.push (PySem.W.kdv_tup us)).push (PySem.HandSPX.excO C hp.objs.size)) kk z1 (exo_ok z2)
  have r2 : Vals (V.ref (hp.objs.size + 1) :: vs) (Value.ref (hp.objs.size + 1) :: us) := .cons rfl r1
  have hl : (Value.ref (hp.objs.size + 1) :: us ++ []).length = ps.length := by
    rw [List.append_nil, ← r2.length]
    exact F1.len _ _ _ _ hq
  have hus : us.length ≤ sizeLine := by
    have := Paired.length r1
    rw [sizeLine_eq]
    omega
  have b2 := hb _ (Value.ref (hp.objs.size + 1) :: us) I2.kIn hl
  rw [List.append_nil] at b2
  refine wpAny_call (PySem.HandSPX.call_own F.excBase_ValueError (fun Y => PySem.HandSPX.refsVE_contains Y bm hbm) (I1.kIn _ _ hC) (PySem.W.looks_findIn I1.kIn iC) (fun self => PySem.W.bind_fn I1.kIn self tI) hus (codeAny_mono (F1.run _ X.stack _ _ ⟨Value.ref (hp.objs.size + 1) :: us, []⟩ (Value.ref (hp.objs.size + 1) :: us) _ _ (fun _ _ _ => False) (hr.make C us []) (I2.env0.make C us []) b2 r2 hq) fun r s' hq' => ?_))
  cases r with
  | error er => exact hx pins σ _ _ er s' I2 hq'
  | ok fl =>
    cases fl with
    | ret u =>
      obtain ⟨v, H2, os2, bare2, un2, hok2, rv, ev, d, fs, ea, ed, hd1, q2⟩ := hq'
      subst ev
      obtain ⟨h2, g2, d2, t2, os'⟩ := s'
      obtain ⟨t0, G, J, kG, ge, hoe, na⟩ := mk_end0 (d2 := d2) (t2 := t2) I1 z1 kk un2 hok2 os2 bare2 ea ed hd1
      exact ⟨rv, ⟨hp.objs.size + 1, _, _, ⟨G, g2, d2, t2, os'⟩, _, .ref C, some d, rfl, J, kG, ge, hoe, ⟨rfl, rfl, fun vs hv => by cases hv; rfl⟩, rfl, rfl, na, rfl, bare2, raises_own T.exC T.tyC, q2⟩⟩
    | next => exact False.elim hq'
    | brk => exact False.elim hq'
    | cont => exact False.elim hq'
theorem w_raise {k i : Nat} {c : Str} {p rpos : Pos} (fx : Fx P n X) (tk : L2N.Takes X (noσ wy)) (T : ExcIn P X.prog X.w X.mg X.base k c) (hk : k + 1 ≤ n) (hg : Gl X c) (ha : PE X ea (tE P F same (noσ wy) a)) (hs : starEach [ea] X.env = (false, eval ea X.env) :: starEach [] X.env) :
    PS X (.Raise (some (.Call (.Name c p) [ea] [] pos)) none rpos) (tS P F same wy (.rais i c a)) := by
  obtain ⟨C, fX, fd, nm, hca, hm, hdb, O, iC, tI, F1, hb⟩ := T.ex
  rw [← fx.K] at O iC tI F1 hb
  refine PS_imp (L2N.ps_raise (fx.calm (by omega)) tk (mk_exc (CX := L2N.CX X.prog X.w) O iC tI F1 ((fx.room (by omega)).mono hk) hb passF hg hm (s_cons (wx := noσ wy) (F := F) (same := same) (P := P) ha s_nil hs) hdb hs (by rfl))) fun En σ H ⟨W, M, sd, S, Rl, h⟩ => ?_
  simp only [evS] at h
  have h' : Out P (VD P) W (fun cls d H' => wy cls d H') ((evE F same a sd M).bind fun x m => (.ex c x m : R D)) (fun _ _ => False) := by
    cases e : evE F same a sd M with
    | no => rw [e] at h; exact h.elim
    | ex c' x m => rw [e] at h; exact h
    | ok x m => rw [e] at h; exact h
  have h2 : Out P (VD P) W (fun cls d H' => wy cls d H') ((evEs F same (.cons a .nil) sd M).bind fun ds m => (match ds with
    | [x] => (R.ex c x m : R D)
    | _ => .no)) (fun _ _ => False) := by
    simp only [evEs, bind_assoc, bind_ok]
    exact h'
  refine at_Es (wx := noσ wy) S Rl h2 fun W1 ds m1 vs H1 S1 R1 _ r1 h1 => ?_
  split at h1
  · rename_i x
    cases r1 with
    | @cons _ _ v vs r t =>
      cases t
      refine ⟨Nat.succ_le_succ (Nat.zero_le _), fun e he => ⟨e, v, rfl, upd_same, fun dx n ne => ⟨rfl, dx, [("word", .str nm), ("what", v)], ?_, upd_same, ?_, ?_⟩⟩⟩
      · rw [upd_ne (Ne.symm ne), upd_same]
      · rw [upd_ne ne] at n
        exact n
      · have hn : H1 dx = none := by rw [upd_ne ne] at n; exact n
        have eH : upd (del (upd (upd (upd (upd H1 e (exo e C none)) dx (exd dx [("what", v)])) e (exo e C (some dx))) dx (exd dx [("word", .str nm), ("what", v)])) e) dx (.xd [("word", .str nm), ("what", v)]) = upd H1 dx (.xd [("word", .str nm), ("what", v)]) := by
          funext b
          by_cases hb : b = dx
          · rw [hb, upd_same, upd_same]
          · rw [upd_ne hb, upd_ne hb]
            by_cases hbe : b = e
            · rw [hbe, del_same, he]
            · rw [del_ne hbe, upd_ne hb, upd_ne hbe, upd_ne hb, upd_ne hbe]
        rw [eH]
        exact h1 (W1.dat dx (.xd [("word", .str nm), ("what", v)])) _ _ _ (S1.leDat hn) (S1.dat hn) ⟨C, dx, _, v, hca, rfl, rfl, upd_same, by rfl, r.up (S1.leDat hn)⟩
  · exact h1.elim
end
end SS
end PT_SJ
section PT_SK
set_option Elab.async false
set_option linter.all false
set_option maxRecDepth 100000
set_option maxHeartbeats 2000000
/-! A list comprehension within an except suite. -/
namespace SS
open PySem PySem.Spec PyProof.Rows L2 HotX
section
variable {prog : Program} {w : World} {A : Around} {E : Value → Shared → Prop} {s : Shared}
theorem list_end_hot {it l x1 : Addr} {i : Nat} {items : Array Value} {Q : Option Value → Shared → Prop} (hot : HotAt A x1 s.heap) (hne : x1 ≠ it) (hit : s.heap.IsListIter it l i) (hl : s.heap.IsList l items) (hx : items[i]? = none)
    (hQ : ∀ h', Heap.ExtBut it s.heap h' → Q none { s with heap := h' }) : wpAny (model prog w) A (pyNext (.ref it)) Q E s := by
  obtain ⟨o, ho, hc, hd⟩ := id hit
  obtain ⟨ol, hol, _, nl, hdl⟩ := hl
  obtain ⟨hh, o1, vs1, h1, d1, c1⟩ := hot
  unfold pyNext
  refine wpAny_bind (wpAny_attempt (wpAny_callSpecial?_slot (name := Str.ofString "__next__") hit.typeIs slot_listiter_next (wpAny_call_entry slot_listiter_next hit.typeIs entry_listiter_next ?_ (args_listiter_next _))))
  show wpAny _ _ (field (.ref it) 0 >>= _) _ _ s
  refine wpAny_bind (wpAny_field ho hd (x := .ref l) rfl ?_)
  show wpAny _ _ (if (Value.ref l == Value.none) = true then _ else _) _ _ s
  rw [if_neg (show ¬ ((Value.ref l == Value.none) = true) from Bool.false_ne_true)]
  show wpAny _ _ (field (.ref it) 1 >>= _) _ _ s
  refine wpAny_bind (wpAny_field ho hd (x := .int i 0) rfl ?_)
  show wpAny _ _ (seqItems? (.ref l) >>= _) _ _ s
  refine wpAny_bind (wpAny_seqItems hol hdl ?_)
  simp only [Int.toNat_natCast, hx]
  refine wpAny_bind (wpAny_rule (wpAny_bind (wpAny_setField ho hd (by simp) ?_)))
  show wpAny _ _ (newExc (.type "StopIteration") [] >>= _) _ _ _
  refine wpAny_bind ?_
  simp only [newExc, newTuple]
  refine wpAny_bind (wpAny_newObj_type ?_ (by size_fits))
  refine wpAny_bind (m := firstArgMember _ _) (wpAny_of_eq (a := Value.none) (by first | rfl | (simp only [firstArgMember]; rfl)) ?_)
  refine wpAny_newObj_type ?_ (by size_fits)
  have k1 : ∀ (f : Obj → Obj), (s.heap.update it f).get? x1 = some o1 := fun f => (Heap.get?_update_other _ _ (Ne.symm hne)).trans h1
  refine raiseNew_hot ⟨hh, o1, vs1, Heap.get?_push_of_some _ (Heap.get?_push_of_some _ (k1 _)), d1, c1⟩ (Nat.ne_of_lt (Heap.lt_size (Heap.get?_push_of_some _ (k1 _)))) (Heap.get?_push_size _ rfl) rfl (by first | (simp; done) | (simp; omega) | (simp only [Array.size_append]; simp; omega)) ?_
  refine wpAny_bind (wpAny_isInstance (T := "StopIteration") (b := true) ⟨_, Heap.get?_update_self _ (Heap.get?_push_size _ rfl) rfl, rfl⟩ isSubtype_stop ?_)
  refine wpAny_pure (hQ _ fun b o' hb e => ?_)
  have e' : ∀ (f : Obj → Obj), (s.heap.update it f).get? b = some o' := fun f => (Heap.get?_update_other _ _ (Ne.symm hb)).trans e
  rw [Heap.get?_update_other _ _ (Nat.ne_of_gt (Heap.lt_size (Heap.get?_push_of_some _ (e' _))))]
  exact Heap.get?_push_of_some _ (Heap.get?_push_of_some _ (e' _))
end
section
variable {X : Cx} {tg : Expr} {a it : Addr} {i : Nat} {pins : List (Addr × Obj)} {σ : L2.St} {H : Hp} {s : Shared} {E : Value → Shared → Prop}
theorem list_itemH (I : Inv X pins σ H s) (hf : ∀ b ∈ [it], FpOk X pins H b) (st : s.heap.IsListIter it a i) (hg : (Itl X.K a).go i H) :
    wpAny (model X.prog X.w) X.A (pyNext (.ref it)) (fun r s1 => ∃ u, r = some u ∧ wpAny (model X.prog X.w) X.A (letOwnedTupleGo tg (.ref it) u) (fun _ s2 => ∃ x H', Inv X pins σ H' s2 ∧ RelV x u ∧ (Itl X.K a).yld i H x H' ∧ s2.heap.IsListIter it a (i + 1) ∧ ∀ b ∈ [it], H' b = none) E s1) E s := by
  obtain ⟨xs, x, hq, hx⟩ := hg
  obtain ⟨its, rv, p, hz⟩ := I.list hq
  obtain ⟨u, hu, ru⟩ := rv.get hx
  have f := hf it (by simp)
  refine wpAny_pyNext_list_item st p.isList (x := u) (by simpa using hu) fun h' st' sb => ?_
  obtain ⟨o, e, c, d⟩ := id st'
  have I1 : Inv X pins σ H { s with heap := h' } := I.turned (t' := s.toks) (fun b o hb e => (sb.2 b hb).trans e) f.1 f.2.1 f.2.2.2.1 f.2.2.2.2.1 f.2.2.2.2.2
  refine ⟨u, rfl, go_of (s := { s with heap := h' }) e c d (by decide) ⟨x, H, I1, ru, ⟨rfl, fun ys hy => ?_⟩, st', fun b hb => (hf b hb).1⟩⟩
  rw [I.list_inj hy hq]
  exact hx
theorem list_doneH {x1 : Addr} (hot : HotAt X.A x1 s.heap) (hne : x1 ≠ it) (I : Inv X pins σ H s) (f : FpOk X pins H it) (st : s.heap.IsListIter it a i) (hg : (Itl X.K a).stop i H) :
    wpAny (model X.prog X.w) X.A (pyNext (.ref it)) (fun r s1 => r = none ∧ Inv X pins σ H s1) E s := by
  obtain ⟨xs, hq, hx⟩ := hg
  obtain ⟨its, rv, p, hz⟩ := I.list hq
  have hl := rv.length
  exact list_end_hot hot hne st p.isList (by simp; omega) fun h' eb => ⟨rfl, I.turned (t' := s.toks) (fun b o hb e => eb b o hb e) f.1 f.2.1 f.2.2.2.1 f.2.2.2.2.1 f.2.2.2.2.2⟩
end
section
variable {X : Cx}
theorem lc_hot {pins : List (Addr × Obj)} {s : Shared} {σ : L2.St} {H : Hp} {Q : VK} {elt tg iter : Expr} {ifs : List Expr} {scope : Scope} {own : List (Str × Nat)} {pos pos' : Pos} {tl : TE} {g : TG} {tt : TT} {te : TE} {use : Option (Value → Sem Unit)} {Qf : Value → Shared → Prop}
    (hc : L2H.HotC X) (hN : X.N.Nodup) (I : Inv X pins σ H s) (hi : PE X iter tl) (ok : BlkOk X.N X.env.scope scope own)
    (hg : ∀ (s : Shared) (H : Hp) (C : Addr) (cl : List (Str × Addr)) (fp : List Addr), PG (X.blk s H scope (compEnvC scope cl C X.env) fp) tg g) (ht : ∀ (s : Shared) (H : Hp) (C : Addr) (cl : List (Str × Addr)) (fp : List Addr), PTs (X.blk s H scope (compEnvC scope cl C X.env) fp) ifs tt)
    (he : ∀ (s : Shared) (H : Hp) (C : Addr) (cl : List (Str × Addr)) (fp : List Addr), PE (X.blk s H scope (compEnvC scope cl C X.env) fp) elt te) (hs : ∀ x, foldedSetIterable iter X.env x = pure x)
    (h : tLc (iList X.K tl) g tt te (own.map (·.2)) σ H Q)
    (hRR : ∀ D C s' m H', Inv X pins σ H' s' → Q (.ref D) H' → s'.heap.Ns C m → FpOk X pins H' C → compPost (model X.prog X.w) X.A X.xe use Qf (.ref D) C (.ok .next) s') :
    wpAny (model X.prog X.w) X.A (comprehension (.ListComp elt [⟨tg, iter, ifs, 0⟩] scope pos) scope X.env pos' (newList []) false (eval iter X.env) use) Qf X.xe s := by
  have hfree : ∀ y ∈ scope.names, y.2 = .free → ∃ c, X.env.cells.lookup y.1 = some c := fun y hy e => by
    rcases ok.free y hy e with k | k
    · exact I.ok.has _ (.inl k)
    · exact I.ok.has _ (.inr k)
  refine wpAny_comprehension_free (use := use) rfl hs (closure_ok hfree) ok.kind (fun y hy e => by rw [ok.uniq y hy, e])
    (thn (hi.run pins s σ H _ I h) fun xv s1 ⟨xl, Hl, Il, rl, ql⟩ => ?_)
  obtain ⟨a0, el, ⟨xs0, hq0⟩, q⟩ := ql
  subst el
  cases rl
  obtain ⟨its0, rv0, pl0, hz0⟩ := Il.list hq0
  refine wpAny_pyIter_list pl0.isList ?_
  have T : Turn X.prog X.w X.K tg (Itl X.K a0) [s1.heap.objs.size] s1.heap.objs.size (fun i h => h.IsListIter s1.heap.objs.size a0 i) := turn_list a0 _
  have I2 := Il.kept (t' := s1.toks) (h' := s1.heap.push { cls := .type "list_iterator", data := .fields #[.ref a0, .int 0 0] }) fun b o e => Heap.get?_push_of_some _ e
  have st2 : (({ s1 with heap := s1.heap.push { cls := .type "list_iterator", data := .fields #[.ref a0, .int 0 0] } } : Shared).heap.IsListIter s1.heap.objs.size a0 0) := ⟨_, Heap.get?_push_size _ rfl, rfl, rfl⟩
  have f2 : ∀ b ∈ [s1.heap.objs.size], FpOk X pins Hl b := fun b hb => by
    have e : b = s1.heap.objs.size := by simpa using hb
    subst e
    exact Il.fpOk (Nat.le_refl _) (Il.hok.fresh (Nat.le_refl _))
  generalize hit : s1.heap.objs.size = it at T I2 st2 f2 ⊢
  generalize hs2 : ({ s1 with heap := s1.heap.push { cls := .type "list_iterator", data := .fields #[.ref a0, .int 0 0] } } : Shared) = s2 at I2 st2 ⊢
  have tnD : ∀ i h, (fun i (h : Heap) => h.IsListIter it a0 i) i h = h.IsListIter it a0 i := fun _ _ => rfl

  refine wpAny_newObj_type (newEnv_comp ?_) (by show 0 ≤ sizeLine; decide)
  generalize hD : s2.heap.objs.size = D
  have hDn : Hl D = none := I2.hok.fresh (Nat.le_of_eq hD)
  obtain ⟨W, ⟨m0, w0⟩, turn⟩ := q D hDn
  -- the new list
  generalize hs3 : ({ s2 with heap := s2.heap.push { cls := .type "list", data := .seq ([] : List Value).toArray } } : Shared) = s3
  have I3 : Inv X pins σ (upd Hl D (.lst [])) s3 := by
    rw [← hs3]
    refine I2.laid (t' := s2.toks) (fun b o e => Heap.get?_push_of_some _ e) (Nat.le_of_eq hD) ⟨Nat.zero_le _, [], 0, .nil, ?_⟩
    rw [← hD]
    exact Heap.get?_push_size _ rfl
  have h3 : s3.heap = s2.heap.push { cls := .type "list", data := .seq ([] : List Value).toArray } := by rw [← hs3]
  have sz : ∀ b ∈ [it], b < s2.heap.objs.size := fun b hb => by
    obtain ⟨o, e, _⟩ := T.obj _ _ st2 b hb
    exact Heap.lt_size e
  have f3 : ∀ b ∈ [it], FpOk X pins (upd Hl D (.lst [])) b ∧ b < s3.heap.objs.size := fun b hb => by
    have hlt := sz b hb
    refine ⟨⟨?_, (f2 b hb).2⟩, by rw [h3, Heap.size_push]; exact Nat.lt_succ_of_lt hlt⟩
    rw [upd_ne (by rw [← hD]; exact Nat.ne_of_lt hlt)]
    exact (f2 b hb).1
  have st3 : s3.heap.IsListIter it a0 0 := T.keep _ _ _ st2 fun b _ o e => by rw [h3]; exact Heap.get?_push_of_some _ e
  have I4 := block_start I3 ok hN f3
  have pg := hg s3 (upd Hl D (.lst [])) s3.heap.objs.size (cellsFrom (s3.heap.objs.size + 1) scope.names (cloFrom X.env.cells scope.names [])) [it]
  have pt := ht s3 (upd Hl D (.lst [])) s3.heap.objs.size (cellsFrom (s3.heap.objs.size + 1) scope.names (cloFrom X.env.cells scope.names [])) [it]
  have pe := he s3 (upd Hl D (.lst [])) s3.heap.objs.size (cellsFrom (s3.heap.objs.size + 1) scope.names (cloFrom X.env.cells scope.names [])) [it]
  show codeAny _ _ (.compStart (.ListComp elt [⟨tg, iter, ifs, 0⟩] scope pos) 0 (.ref it) (.ref D) (compEnvC scope (cellsFrom (s3.heap.objs.size + 1) scope.names (cloFrom X.env.cells scope.names [])) s3.heap.objs.size X.env)) (compPost (model X.prog X.w) X.A X.xe use Qf (.ref D) s3.heap.objs.size) { s3 with heap := pushCells (s3.heap.push { cls := .type "dict", data := .dict #[] }) scope.names }
  have nfp : ∀ b ∈ [it], (upd Hl D (.lst [])) b = none := fun b hb => (f3 b hb).1.1
  generalize hce : compEnvC scope (cellsFrom (s3.heap.objs.size + 1) scope.names (cloFrom X.env.cells scope.names [])) s3.heap.objs.size X.env = ce at I4 pg pt pe ⊢
  have cL : ce.locals = s3.heap.objs.size := by subst hce; rfl
  generalize hH3 : upd Hl D (.lst []) = H3 at I3 I4 pg pt pe w0 nfp f3
  generalize hs4 : ({ s3 with heap := pushCells (s3.heap.push { cls := .type "dict", data := .dict #[] }) scope.names } : Shared) = s4 at I4 ⊢
  have st4 : s4.heap.IsListIter it a0 0 := T.keep _ _ _ st3 fun b _ o e => by rw [← hs4]; exact pushCells_keeps _ _ _ _ (Heap.get?_push_of_some _ e)
  have stat : ∀ {σ' : L2.St} {H' : Hp} {s' : Shared}, Inv (X.blk s3 H3 scope ce [it]) [] σ' H' s' → (∀ b ∈ [it], H' b = none) → ∀ b ∈ [it], FpOk (X.blk s3 H3 scope ce [it]) [] H' b := fun {σ' H' s'} I' hn b hb =>
    ⟨hn b hb, (I'.ok.exf b hb).1, I'.ok.exfs b hb, .inl hb, fun x c e => (I'.ok.exf b hb).2 x c e, fun p hp => absurd (show p ∈ ([] : List (Addr × Obj)) ++ [] from hp) (by simp)⟩
  obtain ⟨ph, ⟨hh1, vs1, hd1, hc1⟩, hpn⟩ := hc
  obtain ⟨g1, g2, g3, g4, g5⟩ := I3.pin ph (List.mem_append_left _ hpn)
  have nPit : ph.1 ≠ it := (f3 it (by simp)).1.2.2.2.2.2 ph (List.mem_append_left _ hpn)
  have hotB : ∀ {σ' : L2.St} {H' : Hp} {s' : Shared}, Inv (X.blk s3 H3 scope ce [it]) [] σ' H' s' → HotAt X.A ph.1 s'.heap := fun {σ' H' s'} I' => by
    refine ⟨hh1, ph.2, vs1, I'.base.keep ph.1 ph.2 g1 g2 (fun z => ?_) (fun z => nPit (by simpa using z)), hd1, hc1⟩
    rcases List.mem_cons.mp (I3.stkSub ph.1 z) with y | y
    · exact g3 y
    · exact g4 y
  have loop : codeAny (model X.prog X.w) X.A (.compLoop (.ListComp elt [⟨tg, iter, ifs, 0⟩] scope pos) 0 (.ref it) (.ref D) ce) (compPost (model X.prog X.w) X.A X.xe use Qf (.ref D) s3.heap.objs.size) s4 := by
    refine compLoop_any (fun n s' => ∃ i H', Inv (X.blk s3 H3 scope ce [it]) [] (wipe σ (own.map (·.2))) H' s' ∧ s'.heap.IsListIter it a0 i ∧ (∀ b ∈ [it], H' b = none) ∧ W i n H') ?_ m0 ⟨0, H3, I4, st4, nfp, w0⟩
    rintro n s5 ⟨i, H5, I5, st5, n5, w5⟩
    rcases turn i n H5 w5 with ⟨stop, qq⟩ | ⟨go, Nx, hNx, step⟩
    · have td := list_doneH (X := X.blk s3 H3 scope ce [it]) (E := fun _ _ => False) (hotB I5) nPit I5 (stat I5 n5 it (by simp)) st5 stop
      refine thnF td fun r s6 ⟨hr, I6⟩ => ?_
      subst hr
      -- back in the def's context
      have I7 : Inv X pins σ H5 s6 := I3.call' (ch := [it]) I6.os I6.base I6.hok I6.bare fun b hb => ⟨(f3 b hb).1.2.2.2.1, (f3 b hb).1.2.1, (f3 b hb).1.2.2.2.2.1, (f3 b hb).1.2.2.2.2.2⟩
      have nC : H5 s3.heap.objs.size = none := by
        have z : H5 ce.locals = none := I6.free
        rw [cL] at z
        exact z
      obtain ⟨m, hn, _⟩ := I6.loc
      have hn : s6.heap.Ns ce.locals m := hn
      rw [cL] at hn
      exact hRR D s3.heap.objs.size s6 m H5 I7 qq hn (I3.fpOk (Nat.le_refl _) nC)
    · have ti := list_itemH (X := X.blk s3 H3 scope ce [it]) (tg := tg) (E := fun _ _ => False) I5 (stat I5 n5) st5 go
      refine thnF ti fun r s6 ⟨u, hr, h6⟩ => ?_
      subst hr
      refine thnF h6 fun _ s7 ⟨x, H7, I7, r7, y7, st7, n7⟩ => ?_
      have I7' := I7.pinned (stat I7 n7) (T.obj _ _ st7)
      refine thnF (pg.run _ s7 _ H7 x u _ I7' r7 (step x H7 y7)) fun _ s8 ⟨σ8, H8, I8, hw8, q8⟩ => ?_
      refine thnF (pt.run _ s8 σ8 H8 _ I8 q8) fun b s9 ⟨H9, I9, q9⟩ => ?_
      -- the turn's end
      have fin : ∀ {s' : Shared} {H' : Hp}, Inv (X.blk s3 H3 scope ce [it]) ([] ++ pinsAt [it] s7.heap) σ8 H' s' → Nx H' → ∃ m, m < n ∧ ∃ i H', Inv (X.blk s3 H3 scope ce [it]) [] (wipe σ (own.map (·.2))) H' s' ∧ s'.heap.IsListIter it a0 i ∧ (∀ b ∈ [it], H' b = none) ∧ W i m H' := fun {s' H'} I' nx => by
        obtain ⟨m', hm, w'⟩ := hNx H' nx
        have pin' : ∀ b ∈ [it], ∀ o, s7.heap.get? b = some o → s'.heap.get? b = some o ∧ H' b = none := fun b hb o e =>
          let z := I'.pin (b, o) (List.mem_append_right _ (List.mem_append_right _ (mem_pinsAt hb e)))
          ⟨z.1, z.2.1⟩
        have hl : (wipe σ (own.map (·.2))).length = σ8.length := by rw [← hw8, wipe_length]
        refine ⟨m', hm, i + 1, H', (I'.unpinned (pins := [])).weak hl (fun j v e => ?_), T.keep _ _ _ st7 fun b hb o e => (pin' b hb o e).1, fun b hb => ?_, w'⟩
        · rw [← hw8] at e
          exact (wipe_some e).1
        · obtain ⟨o, e, _⟩ := T.obj _ _ st7 b hb
          exact (pin' b hb o e).2
      cases b with
      | false =>
        simp only [Bool.false_eq_true, if_false] at q9 ⊢
        exact fin I9 q9
      | true =>
        simp only [if_true] at q9 ⊢
        refine thnF (pe.run _ s9 σ8 H9 _ I9 q9) fun z s10 ⟨yv, H10, I10, r10, acc, hD10, hz10, nx⟩ => ?_
        exact app_ok (X := X.blk s3 H3 scope ce [it]) I10 hD10 hz10 r10 fun s11 I11 => fin I11 nx
  exact codeAny_compStart_list loop (T.self X.A 0 _ _ _ st4 loop)
/-- as a value, in an except suite -/
theorem pe_lcH {elt tg iter : Expr} {ifs : List Expr} {scope : Scope} {own : List (Str × Nat)} {pos : Pos} {tl : TE} {g : TG} {tt : TT} {te : TE} (hc : L2H.HotC X) (hN : X.N.Nodup) (hi : PE X iter tl) (ok : BlkOk X.N X.env.scope scope own)
    (hg : ∀ (s : Shared) (H : Hp) (C : Addr) (cl : List (Str × Addr)) (fp : List Addr), PG (X.blk s H scope (compEnvC scope cl C X.env) fp) tg g)
    (ht : ∀ (s : Shared) (H : Hp) (C : Addr) (cl : List (Str × Addr)) (fp : List Addr), PTs (X.blk s H scope (compEnvC scope cl C X.env) fp) ifs tt)
    (he : ∀ (s : Shared) (H : Hp) (C : Addr) (cl : List (Str × Addr)) (fp : List Addr), PE (X.blk s H scope (compEnvC scope cl C X.env) fp) elt te) (hs : ∀ x, foldedSetIterable iter X.env x = pure x) :
    PE X (.ListComp elt [⟨tg, iter, ifs, 0⟩] scope pos) (tLc (iList X.K tl) g tt te (own.map (·.2))) := by
  refine ⟨fun pins s σ H Q I h => ?_⟩
  rw [eval_ListComp]
  refine lc_hot hc hN I hi ok hg ht he hs h fun D C s' m H' I' q hn f => ⟨m, hn, fun h'' sb => ⟨.ref D, H', ?_, rfl, q⟩⟩
  exact I'.turned (t' := s'.toks) (fun b o hb e => (sb.2 b hb).trans e) f.1 f.2.1 f.2.2.2.1 f.2.2.2.2.1 f.2.2.2.2.2
end
end SS
end PT_SK
section PT_SL
set_option Elab.async false
set_option linter.all false
set_option maxRecDepth 100000
set_option maxHeartbeats 2000000
/-! The list of the classes' names, in the suite that caught. -/
namespace SS
open PySem PySem.Spec PyProof.Rows L2
/-- what a class tells, so that isinstance asks its things rightly -/
structure ThrC (K : PySem.W.Frag) (C : Addr) : Prop where
  cl : (PySem.W.clsIn K C).isSome = true
  x : XfC K C
  cn : PySem.W.findIn K (.ref C) "__class__" = some (some (.builtin "object.__class__"))
  gs : PySem.W.specialIn K (.builtin "object.__class__") "__get__" = some (some (.builtin "getset_descriptor.__get__"))
  tk : PySem.W.takesIn K (.builtin "object.__class__") = some true
  mo : PySem.W.mroIn K C (.type "object") = some true
section
variable {P : Pm} {X : Cx} {a C dx : Addr} {oe : Obj} {fs : List (Str × V)}
def rIsX (K : PySem.W.Frag) (C a dx : Addr) (fs : List (Str × V)) : List V → Hp → VK → Prop := fun xs H Q => ∃ (D : Addr) (b : Bool), xs = [.ref a, .ref D] ∧ H dx = some (.xd fs) ∧ PySem.W.kitOne K (.ref C) (.ref D) = some b ∧ Q (.bl b) H
theorem call_isX (T : ThrC X.K C) (hp : (a, oe) ∈ X.pn) (hz : Zc (.ref C) (some dx) oe) (hf : ∃ vs, oe.data = .fields vs) : CallR X (.builtin "isinstance") (rIsX X.K C a dx fs) := by
  intro pins s σ H xs us Q I r ⟨D, b, e, ed, ek, q⟩
  subst e
  obtain ⟨u1, u2, rfl, r1, r2⟩ := vals2 r
  cases r1
  cases r2
  have ha := (I.pin (a, oe) (List.mem_append_left _ hp)).1
  obtain ⟨vs, hd⟩ := hf
  obtain ⟨mA, hns, _⟩ : ObjOk X.prog X.w H s.heap dx (.xd fs) := I.hok dx _ ed
  obtain ⟨od, ho, _⟩ := lookIn_ns hns
  have J : PySem.W.InstAt s.heap a oe C (some od) := ⟨ha, hz.1, by unfold PySem.W.notCls; rw [hd] <;> rfl, by rw [hz.2]; exact ho⟩
  exact PySem.W.kia_one (PySem.W.kitx_exc T.cl T.x.ga T.x.gg T.x.exC T.cn T.gs T.tk T.mo) I.kIn J ek (fun z => nomatch z) fun tk => ⟨.bl b, H, I.kept (t' := tk) fun _ _ z => z, rfl, q⟩
/-- readings that know the caught thing -/
def tX (P : Pm) (i : Nat) (a dx : Addr) (fs : List (Str × V)) (rel : Wd → V → Prop) : TE := fun σ H Q => σ[i]? = some (some (.ref a)) ∧ ∃ W M, Sim P W M H ∧ W.G dx = some (.xd fs) ∧ ∀ W' v H', Le W W' → Sim P W' M H' → rel W' v → Q v H'
def tXs (P : Pm) (i : Nat) (a dx : Addr) (fs : List (Str × V)) (rel : Wd → List V → Prop) : TA := fun σ H Q => σ[i]? = some (some (.ref a)) ∧ ∃ W M, Sim P W M H ∧ W.G dx = some (.xd fs) ∧ ∀ W' v H', Le W W' → Sim P W' M H' → rel W' v → Q v H'
variable {i : Nat}
theorem x_str {s : Str} {j : Nat} {p : Pos} : PE X (.Constant (.str s) j p) (tX P i a dx fs fun W v => VD P W (.str s) v) := PE_imp pe_str fun σ H Q ⟨_, W, M, S, _, k⟩ => k W _ H (Le.refl _) S (.str s)
theorem x_isi {nm D : Str} {Da : Addr} {b : Bool} {p1 p2 p3 p4 : Pos} (T : ThrC X.K C) (hp : (a, oe) ∈ X.pn) (hz : Zc (.ref C) (some dx) oe) (hf : ∃ vs, oe.data = .fields vs) (hg : Gl X "isinstance") (hm : X.mg "isinstance" = none)
    (hN : X.N[i]? = some nm) (hv : Vis X.env.scope nm) (hd : (nm == ("__debug__" : Str)) = false) (hcd : (nm == ("__classdict__" : Str)) = false) (hg2 : Gl X D) (hm2 : X.mg D = some (.ref Da)) (hd2 : (D == ("__debug__" : Str)) = false)
    (ek : PySem.W.kitOne X.K (.ref C) (.ref Da) = some b) : PE X (.Call (.Name "isinstance" p1) [.Name nm p2, .Name D p3] [] p4) (tX P i a dx fs fun W v => VD P W (.bool b) v) :=
  PE_imp (pe_callB (call_isX T hp hz hf) hg hm (by decide +kernel) (pa_cons (pe_var hN hv hd hcd) (pa_cons (pe_glob hg2 hm2 (v := .ref Da) rfl hd2) pa_nil rfl) rfl) (by decide) (by decide) rfl rfl) fun σ H Q ⟨h0, W, M, S, g, k⟩ =>
    ⟨.ref a, h0, Da, b, rfl, S.sub _ _ g, ek, k W _ H (Le.refl _) S (.bl b)⟩
theorem x_nil : PA X [] (tXs P i a dx fs fun W vs => VDs P W [] vs) := ⟨fun pos pins s σ H Q I ⟨_, W, M, S, _, k⟩ => (pa_nil (X := X)).run pos pins s σ H Q I (k W _ H (Le.refl _) S .nil)⟩
theorem x_cons {e : Expr} {es : List Expr} {d : D} {ds : List D} (h : PE X e (tX P i a dx fs fun W v => VD P W d v)) (t : PA X es (tXs P i a dx fs fun W vs => VDs P W ds vs)) (hs : starEach (e :: es) X.env = (false, eval e X.env) :: starEach es X.env) :
    PA X (e :: es) (tXs P i a dx fs fun W vs => VDs P W (d :: ds) vs) := by
  refine ⟨fun pos pins s σ H Q I ⟨h0, W, M, S, g, k⟩ => (pa_cons h t hs).run pos pins s σ H Q I ?_⟩
  exact ⟨h0, W, M, S, g, fun W1 v H1 l1 S1 r1 => ⟨h0, W1, M, S1, l1.g _ _ g, fun W2 vs H2 l2 S2 r2 => k W2 _ H2 (l1.trans l2) S2 (.cons (r1.up l2) r2)⟩⟩
theorem x_tup {es : List Expr} {ds : List D} {k0 : Nat} {pos : Pos} (h : PA X es (tXs P i a dx fs fun W vs => VDs P W ds vs)) (hl : ds.length ≤ sizeLine) : PE X (.Tuple es k0 pos) (tX P i a dx fs fun W v => VD P W (.tuple ds) v) :=
  PE_imp (pe_tupF h) fun σ H Q ⟨h0, W, M, S, g, k⟩ => ⟨h0, W, M, S, g, fun W1 vs H1 l1 S1 r1 => ⟨by rw [r1.length]; exact hl, fun p o hp ho => k (W1.dat p (.frz o (.tup vs))) _ _ (l1.trans (S1.leDat hp)) (S1.dat hp) (.tup (.inl ⟨o, ho, upd_same⟩) (r1.up (S1.leDat hp)))⟩⟩
theorem x_lst {es : List Expr} {ds : List D} {pos : Pos} (h : PA X es (tXs P i a dx fs fun W vs => VDs P W ds vs)) (hl : ds.length ≤ sizeLine) : PE X (.List es pos) (tX P i a dx fs fun W v => VD P W (.list ds) v) :=
  PE_imp (pe_lst h) fun σ H Q ⟨h0, W, M, S, g, k⟩ => ⟨h0, W, M, S, g, fun W1 vs H1 l1 S1 r1 => ⟨by rw [r1.length]; exact hl, fun p hp => k (W1.dat p (.lst vs)) _ _ (l1.trans (S1.leDat hp)) (S1.dat hp) (.lst (.inl upd_same) (r1.up (S1.leDat hp)))⟩⟩
end
/-! ### a def that is called with the caught thing -/
structure FnP (P : Program) (w : World) (K : PySem.W.Frag) (mg : Str → Option Value) (base : Heap) (k : Nat) (f : Addr) (p : Addr × Obj) (R : Hp → VK → Prop) : Prop where
  run : ∀ (A : Around) (outer : List PySem.Env) (s : Shared) (H : Hp) (Q : VK), L2H.RoomH k A → L2H.Hot1 A p → L2H.PinOk outer H s p → Env0 P w K mg base A outer s H → R H Q →
    codeAny (model P w) A (.call (.ref f) ⟨[.ref p.1], []⟩) (CR (L2N.CX P w) outer P w H s Q (fun _ _ _ => False)) s
theorem fn_ofP {P : Program} {w : World} {K : PySem.W.Frag} {mg : Str → Option Value} {base : Heap} {k : Nat} {f : Addr} {name qual n : Str} {params : Arguments} {body : List Stmt} {scope : Scope} {dV kV doc pm cdv ct oc : Value} {an od : Option Addr} {osl : Array (Option Value)} {N : List Str} {p : Addr × Obj} {R : Hp → VK → Prop}
    (lk : K.lookup f = some ⟨oc, od, .func (PySem.W.fnOf name qual params body scope dV kV doc pm an cdv ct), osl⟩) (hcd : PySem.W.codeIn K cdv qual = true) (S : FnScope N [n] scope) (hk : PySem.W.keepIn K (.ref f) = true) (hb : Binds K (PySem.W.fnOf name qual params body scope dV kV doc pm an cdv ct) [n] [])
    (hbody : ∀ (A : Around) (outer : List PySem.Env) (s : Shared) (H : Hp) (Q : VK), L2H.Hot1 A p → L2H.RoomH k (A.deeper (envOfC qual scope s.heap.objs.size f cdv)) → R H Q →
      ∃ t, PSs (L2H.cxH (L2N.CX P w) P w K mg base N qual scope f cdv A outer s H (fun _ _ _ => False) p) body t ∧ t { nx := fun _ _ => False, rt := Q } (L2.start N [.ref p.1]) H) : FnP P w K mg base (k + 1) f p R := by
  refine ⟨fun A outer s H Q hr hot hpin e0 hR => ?_⟩
  have KX : K.In s.heap := e0.mod.kin.keeps fun b o e => (e0.bs b o e).1
  have lim : s.heap.NoLimit := e0.mod.nolimit.keeps fun b o e => (e0.bs b o e).1
  have bt : BindsTo s (PySem.W.fnOf name qual params body scope dV kV doc pm an cdv ct) ⟨[.ref p.1], []⟩ ([n].zip [Value.ref p.1]) := by
    have z := hb s [.ref p.1] KX (by rfl)
    rw [List.append_nil] at z
    exact z
  have r1 : Vals [V.ref p.1] [Value.ref p.1] := .cons rfl .nil
  refine codeAny_call_function hr.depth (KX _ _ lk) rfl S.co S.gen rfl (PySem.W.codeRec_of KX hcd) (bt _ _ _ _ ?_)
  refine wpAny_newFunctionEnv_cells S.kind (fun ⟨n', v⟩ hy => ?_) fun env he s1 x => ?_
  · rcases S.par n' (List.of_mem_zip hy).1 with q | q
    · exact .inl q
    · exact .inr ⟨q, PySem.W.cellsFrom_some _ _ _ (.inl q)⟩
  · subst he
    refine ⟨lim.keeps x.toInCall.keep, codeAny_func ?_⟩
    obtain ⟨t, ht, hq⟩ := hbody A outer s H Q hot (hr.deeper _) hR
    have I := L2H.inv_startH (CX := L2N.CX P w) (E := fun _ _ _ => False) S hpin e0 rfl r1 x
    refine wpAny_mono (ht.run [] s1 _ H _ I hq) (fun fl s' hs => ?_) fun e s' hs => hs
    cases fl with
    | ret u =>
      obtain ⟨v, σ', H', J, rv, q⟩ := hs
      exact ⟨v, H', J.os, J.bare, J.base, J.hok, rv, q⟩
    | next => exact (hs.choose_spec.choose_spec).2.elim
    | brk => exact (hs.choose_spec.choose_spec).2.elim
    | cont => exact (hs.choose_spec.choose_spec).2.elim
/-! ### the list of names -/
def clsD (c : Str) (ns : List Str) : List D := ns.map fun n => .tuple [.str n, .bool (n == c)]
/-- [('A', isinstance(x, A)), ..] -/
def clsP (nm : Str) : List Expr → Option (List Str)
  | [] => some []
  | .Tuple [.Constant (.str n) _ _, .Call (.Name f _) [.Name x _, .Name d _] [] _] _ _ :: r => if f = "isinstance" ∧ x = nm ∧ d = n ∧ (n == ("__debug__" : Str)) = false then (clsP nm r).map (n :: ·) else none
  | _ :: _ => none
def Rcl (P : Pm) (c : Str) (ns : List Str) (dx : Addr) (fs : List (Str × V)) : Hp → VK → Prop := fun H Q => ∃ W M, Sim P W M H ∧ W.G dx = some (.xd fs) ∧ ∀ W' v H', Le W W' → Sim P W' M H' → VD P W' (.list (clsD c ns)) v → Q v H'
section
variable {P : Pm} {X : Cx} {a C dx : Addr} {oe : Obj} {fs : List (Str × V)} {i : Nat} {nm c : Str}
theorem x_cls (T : ThrC X.K C) (hp : (a, oe) ∈ X.pn) (hz : Zc (.ref C) (some dx) oe) (hf : ∃ vs, oe.data = .fields vs) (hg : Gl X "isinstance") (hm : X.mg "isinstance" = none) (hN : X.N[i]? = some nm) (hv : Vis X.env.scope nm) (hd : (nm == ("__debug__" : Str)) = false) (hcd : (nm == ("__classdict__" : Str)) = false) :
    ∀ {es : List Expr} {ns : List Str}, clsP nm es = some ns → (∀ n ∈ ns, Gl X n ∧ ∃ Da, X.mg n = some (.ref Da) ∧ PySem.W.kitOne X.K (.ref C) (.ref Da) = some (n == c)) → PA X es (tXs P i a dx fs fun W vs => VDs P W (clsD c ns) vs) := by
  intro es
  induction es with
  | nil => intro ns e h; cases e; exact x_nil
  | cons e0 r ih =>
    intro ns e h
    unfold clsP at e
    split at e
    · rename_i h0; cases h0
    · rename_i n j p0 f p1 x p2 d p3 p4 k0 p5 r' h0
      cases h0
      split at e
      · rename_i hh
        obtain ⟨rfl, rfl, rfl, hdb⟩ := hh
        cases e1 : clsP x r with
        | none => rw [e1] at e; cases e
        | some ns1 =>
          rw [e1] at e
          cases e
          obtain ⟨g1, Da, m1, k1⟩ := h d List.mem_cons_self
          refine x_cons (x_tup (x_cons x_str (x_cons (x_isi T hp hz hf hg hm hN hv hd hcd g1 m1 hdb k1) x_nil rfl) rfl) (by show 2 ≤ sizeLine; rw [sizeLine_eq]; decide)) (ih e1 fun n hn => h n (List.mem_cons_of_mem _ hn)) rfl
      · cases e
    · cases e
end
theorem classes_fn {P : Pm} {prog : Program} {w : World} {mg : Str → Option Value} {base : Heap} {k : Nat} {f : Addr} {name qual nm c : Str} {params : Arguments} {es : List Expr} {ns : List Str} {lp rp : Pos} {scope : Scope} {dV kV doc pm cdv ct oc : Value} {an od : Option Addr} {osl : Array (Option Value)} {a C dx : Addr} {oe : Obj} {fs : List (Str × V)}
    (lk : P.K.lookup f = some ⟨oc, od, .func (PySem.W.fnOf name qual params [.Return (some (.List es lp)) rp] scope dV kV doc pm an cdv ct), osl⟩) (hcd : PySem.W.codeIn P.K cdv qual = true) (S : FnScope [nm] [nm] scope) (hk : PySem.W.keepIn P.K (.ref f) = true)
    (hb : Binds P.K (PySem.W.fnOf name qual params [.Return (some (.List es lp)) rp] scope dV kV doc pm an cdv ct) [nm] []) (T : ThrC P.K C) (hz : Zc (.ref C) (some dx) oe) (hf : ∃ vs, oe.data = .fields vs) (hes : clsP nm es = some ns) (hl : ns.length ≤ 1000)
    (hm : mg "isinstance" = none) (hgl : ∀ n ∈ ("isinstance" : Str) :: ns, scope.names.lookup n = some .globalImplicit) (hd : (nm == ("__debug__" : Str)) = false) (hcl : (nm == ("__classdict__" : Str)) = false)
    (hns : ∀ n ∈ ns, ∃ Da, mg n = some (.ref Da) ∧ PySem.W.kitOne P.K (.ref C) (.ref Da) = some (n == c)) : FnP prog w P.K mg base (k + 1) f (a, oe) (Rcl P c ns dx fs) := by
  refine fn_ofP lk hcd S hk hb fun A outer s H Q hot hr ⟨W, M, Sm, g, kk⟩ => ?_
  have vis : Vis scope nm := (S.par nm (by simp)).elim .inl fun q => .inr (.inl q)
  have pa : PA (L2H.cxH (L2N.CX prog w) prog w P.K mg base [nm] qual scope f cdv A outer s H (fun _ _ _ => False) (a, oe)) es (tXs P 0 a dx fs fun W vs => VDs P W (clsD c ns) vs) :=
    x_cls (X := L2H.cxH (L2N.CX prog w) prog w P.K mg base [nm] qual scope f cdv A outer s H (fun _ _ _ => False) (a, oe)) (C := C) (oe := oe) (nm := nm) T List.mem_cons_self hz hf (hgl _ List.mem_cons_self) hm rfl vis hd hcl hes fun n hn => ⟨hgl n (List.mem_cons_of_mem _ hn), hns n hn⟩
  refine ⟨_, pss_cons (ps_ret (x_lst pa ?_)) pss_nil, rfl, W, M, Sm, g, fun W1 v H1 l1 S1 r1 => kk W1 v H1 l1 S1 r1⟩
  unfold clsD
  rw [List.length_map, sizeLine_eq]
  omega
section
variable {P : Pm} {X : Cx} {a C dx : Addr} {oe : Obj} {fs : List (Str × V)} {i k : Nat} {nm c x : Str} {f : Addr} {ns : List Str} {p1 p2 pos : Pos}
/-- f(e), e the caught thing -/
theorem x_call (hp : (a, oe) ∈ X.pn) (hot : L2H.Hot1 X.A (a, oe)) (hr : L2H.RoomH k X.A) (F1 : FnP X.prog X.w X.K X.mg X.base k f (a, oe) (Rcl P c ns dx fs)) (hk : PySem.W.keepIn X.K (.ref f) = true) (hg : Gl X x) (hm : X.mg x = some (.ref f)) (hdb : (x == ("__debug__" : Str)) = false)
    (hN : X.N[i]? = some nm) (hv : Vis X.env.scope nm) (hd : (nm == ("__debug__" : Str)) = false) (hcd : (nm == ("__classdict__" : Str)) = false) : PE X (.Call (.Name x p1) [.Name nm p2] [] pos) (tX P i a dx fs fun W v => VD P W (.list (clsD c ns)) v) := by
  refine ⟨fun pins s σ H Q I ⟨h0, hW⟩ => ?_⟩
  refine wpAny_Call_Name_kw (ld_glob I hg hm ?_ hdb)
  have pa : PA X [.Name nm p2] _ := pa_cons (pe_var hN hv hd hcd) pa_nil rfl
  refine PySem.W.callWith_K (h₀ := X.base) I.ok.mod.kin hk (thn (pa.run pos pins s σ H (fun vs H1 => vs = [.ref a] ∧ H1 = H) I ⟨.ref a, h0, rfl, rfl⟩) fun us s1 ⟨vs, H1, I1, r, q1, q2⟩ => ⟨I1.kIn, ?_⟩) rfl rfl
  subst q1 q2
  cases r with
  | cons ra rt =>
    cases ra
    cases rt
    have z := I1.pin (a, oe) (List.mem_append_left _ hp)
    have hpin : L2H.PinOk X.stack H1 s1 (a, oe) := ⟨z.1, z.2.1, fun hm => (List.mem_cons.mp (I1.stkSub a hm)).elim z.2.2.1 z.2.2.2.1, z.2.2.2.2⟩
    refine wpAny_call (codeAny_mono (F1.run X.A X.stack s1 H1 Q hr hot hpin I1.env0 hW) fun r s' hq => ?_)
    cases r with
    | error e => exact passF (X := X) pins σ H1 s1 e s' I1 hq
    | ok fl =>
      cases fl with
      | ret u => exact I1.after hq
      | next => exact False.elim hq
      | brk => exact False.elim hq
      | cont => exact False.elim hq
end
end SS
end PT_SL
section PT_SM
set_option Elab.async false
set_option linter.all false
set_option maxRecDepth 100000
set_option maxHeartbeats 2000000
/-! The names of the classes that the caught thing is of. -/
namespace SS
open PySem PySem.Spec PyProof.Rows L2
def namesOf (c : Str) (ns : List Str) : List Str := ns.filter (· == c)
theorem wipeE_len (sd : Env) : ∀ own : List Nat, (wipeE sd own).length = sd.length
  | [] => rfl
  | v :: vs => by simp [wipeE, wipeE_len sd vs]
section
variable {P : Pm} {F : Fns} {same : Nat} {wx : WX} {W : Wd} {M : Mem} {sd : Env} {j : Nat} {c : Str}
theorem turn_one {n : Str} {b : Bool} {own : List Nat} (hj : j < sd.length) : evTurn F same (.ix (.v j) (.c (.int 0))) (.nm j) (.some (.ix (.v j) (.c (.int 1)))) own sd (.tuple [.str n, .bool b]) M = .ok (if b = true then some (.str n) else none) M := by
  have hw : j < (wipeE sd own).length := by rw [wipeE_len]; exact hj
  have h0 : ((wipeE sd own).set j (some (PyData.tuple [PyData.str n, PyData.bool b])))[j]? = some (some (PyData.tuple [PyData.str n, PyData.bool b])) := List.getElem?_set_self hw
  have e1 : ∀ M : Mem, ixD (PyData.tuple [PyData.str n, PyData.bool b]) (PyData.int 1) M = .ok (PyData.bool b) M := fun M => rfl
  have e0 : ∀ M : Mem, ixD (PyData.tuple [PyData.str n, PyData.bool b]) (PyData.int 0) M = .ok (PyData.str n) M := fun M => rfl
  have e2 : truth (PyData.bool b) M = .ok b M := rfl
  unfold evTurn evIf asg
  rw [if_pos hw]
  simp only [opt_some, bind_ok, evO, evE, h0, K1.d, e1, e0, ifT, e2]
  cases b <;> rfl
theorem comp_names {own : List Nat} (hj : j < sd.length) : ∀ ns : List Str, compM (fun _ => True) (evTurn F same (.ix (.v j) (.c (.int 0))) (.nm j) (.some (.ix (.v j) (.c (.int 1)))) own sd) (clsD c ns) M = .ok ((namesOf c ns).map PyData.str) M
  | [] => by
    show compM _ _ [] M = _
    unfold compM
    rw [if_pos True.intro]
    rfl
  | n :: r => by
    show compM _ _ (.tuple [.str n, .bool (n == c)] :: clsD c r) M = _
    unfold compM
    rw [if_pos True.intro, turn_one hj]
    simp only [noX_ok, bind_ok, comp_names hj r]
    unfold namesOf
    rw [List.filter_cons]
    cases n == c <;> rfl
end
section
variable {P : Pm} {X : Cx} {a C dx : Addr} {oe : Obj} {fs : List (Str × V)} {i j k : Nat} {nm ln c x : Str} {f : Addr} {ns : List Str} {p1 p2 p3 p4 p5 p6 p7 p8 p9 p10 pos : Pos} {k1 k2 : Nat} {scope : Scope}
theorem x_names (hK : X.K = P.K) (hp : (a, oe) ∈ X.pn) (hot : L2H.Hot1 X.A (a, oe)) (hr : L2H.RoomH k X.A) (F1 : FnP X.prog X.w X.K X.mg X.base k f (a, oe) (Rcl P c ns dx fs)) (hk : PySem.W.keepIn X.K (.ref f) = true) (hg : Gl X x) (hm : X.mg x = some (.ref f)) (hdb : (x == ("__debug__" : Str)) = false)
    (hN : X.N[i]? = some nm) (hv : Vis X.env.scope nm) (hd : (nm == ("__debug__" : Str)) = false) (hcd : (nm == ("__classdict__" : Str)) = false) (nd : X.N.Nodup) (hj : X.N[j]? = some ln) (ok : BlkOk X.N X.env.scope scope [(ln, j)]) (hlo : scope.names.lookup ln = some .local)
    (hd2 : (ln == ("__debug__" : Str)) = false) (hcd2 : (ln == ("__classdict__" : Str)) = false) (hl : ns.length ≤ 1000) :
    PE X (.ListComp (.Subscript (.Name ln p1) (.Constant (.int 0) k1 p2) p3) [⟨.Name ln p4, .Call (.Name x p5) [.Name nm p6] [] p7, [.Subscript (.Name ln p8) (.Constant (.int 1) k2 p9) p10], 0⟩] scope pos)
      (tX P i a dx fs fun W v => VD P W (.list ((namesOf c ns).map .str)) v) := by
  have hjN : j < X.N.length := (List.getElem?_eq_some_iff.mp hj).1
  have fxb : ∀ (s : Shared) (H : Hp) (C : Addr) (cl : List (Str × Addr)) (fp : List Addr), Fx P 0 (X.blk s H scope (compEnvC scope cl C X.env) fp) := fun s H C cl fp => ⟨hK, nd, fun z => absurd rfl z, fun z => absurd rfl z, hr.mono (Nat.zero_le _)⟩
  have lo : ∀ (C : Addr) (cl : List (Str × Addr)), (compEnvC scope cl C X.env).scope.names.lookup ln = some .local := fun C cl => lookup_relabel_local hlo
  have pe := pe_lcH (X := X) (elt := .Subscript (.Name ln p1) (.Constant (.int 0) k1 p2) p3) (tg := .Name ln p4) (iter := .Call (.Name x p5) [.Name nm p6] [] p7) (ifs := [.Subscript (.Name ln p8) (.Constant (.int 1) k2 p9) p10]) (scope := scope) (own := [(ln, j)]) (tl := tX P i a dx fs fun W v => VD P W (.list (clsD c ns)) v) (g := gT P.K (.nm j)) (tt := tIf? P (fun _ _ _ => .no) 0 (.some (.ix (.v j) (.c (.int 1))))) (te := tE P (fun _ _ _ => .no) 0 fx0 (.ix (.v j) (.c (.int 0)))) ⟨_, hot, hp⟩ nd
    (x_call hp hot hr F1 hk hg hm hdb hN hv hd hcd) ok (fun s H C cl fp => pg_name nd hj (.inl (lo C cl)) (.inr (lo C cl))) (fun s H C cl fp => s_ifs1 (s_tval (fxb s H C cl fp) (s_ix (fxb s H C cl fp) (s_var hj (.inl (lo C cl)) hd2 hcd2) s_int fun _ _ => rfl) fun _ => rfl)) (fun s H C cl fp => s_ix (fxb s H C cl fp) (s_var hj (.inl (lo C cl)) hd2 hcd2) s_int fun _ _ => rfl) (fun _ => rfl) (pos := pos)
  refine ⟨fun pins s σ H Q I ⟨h0, W, M, S, g, kk⟩ => pe.run pins s σ H Q I ?_⟩
  · refine ⟨h0, W, M, S, g, fun W1 v H1 l1 S1 r1 => ?_⟩
    obtain ⟨l, xs, rfl, hq, kw⟩ := walk_list S1 r1 rfl
    rw [← hK] at hq
    refine ⟨l, rfl, ⟨xs, hq⟩, ?_⟩
    have Rl : Rels P W1 (List.replicate σ.length none) σ := ⟨by simp, fun q d e => by
      rw [List.getElem?_replicate] at e
      split at e <;> cases e⟩
    have hjl : j < (List.replicate σ.length (none : Option SS.D)).length := by rw [List.length_replicate, I.len]; exact hjN
    refine comp_step (H := H) (wx := fx0) (fz := true) (pr := false) (own := [(ln, j)]) (w := ⟨clsD c ns, none⟩) (F := fun _ _ _ => .no) (same := 0) (fun z => nomatch z) (by simp [tgIn]) S1 Rl (fun t W' M' H' l S' st => ?_) ?_
    · obtain ⟨us, q1, q2⟩ := kw W' M' H' l S' True.intro
      rw [← hK] at q1
      refine ⟨fun d' hd => ?_, fun hi => ⟨us, q1, by rw [q2.length, hi]; exact Nat.le_refl _⟩⟩
      obtain ⟨y, hy, ry⟩ := q2.get hd
      refine ⟨⟨us, y, q1, hy⟩, ?_⟩
      rintro x H'' ⟨rfl, hx⟩
      have := hx us q1
      rw [hy] at this
      cases this
      exact ⟨S', .inl ry, fun _ => ry⟩
    · show Out P (VD P) W1 _ ((compM (fun _ => True) _ (clsD c ns) M).bind _) Q
      rw [comp_names hjl, bind_ok]
      unfold newL
      have hle : ((namesOf c ns).map PyData.str).length ≤ line := by
        have := List.length_filter_le (· == c) ns
        unfold namesOf
        rw [List.length_map]
        have : line = sizeLine := sizeLine_eq.symm
        have := sizeLine_eq
        omega
      rw [guard_pos _ hle]
      exact fun W2 v2 H2 l2 S2 r2 => kk W2 v2 H2 (l1.trans l2) S2 r2
end
end SS
end PT_SM
section PT_SN
set_option Elab.async false
set_option linter.all false
set_option maxRecDepth 100000
set_option maxHeartbeats 2000000
/-! What a def hears: a lambda called, its end told. -/
namespace SS
open PySem PySem.Spec PyProof.Rows L2
theorem un_old {fs ex : List Addr} {H H1 H2 : Hp} {h h1 h2 : Heap} {b0 : Addr} (a : Un fs ex H H1 h h1) (b : Un (b0 :: fs) ex H1 H2 h1 h2) (hn : h.get? b0 = none) : Un fs ex H H2 h h2 := by
  have ne : ∀ {c : Addr} {o : Obj}, h.get? c = some o → c ≠ b0 := fun e z => by rw [z, hn] at e; cases e
  refine ⟨fun c o e n hb hx => ?_, fun c o e n hb hx => ?_, fun c o e n hx => ?_, fun c o e hx => ?_, fun c xs e => b.tups _ _ (a.tups _ _ e), fun c o u e => b.frzs _ _ _ (a.frzs _ _ _ e), fun c ps e => ?_⟩
  · exact b.keep c o (a.keep c o e n hb hx) (a.free c o e n hx) (fun z => (List.mem_cons.mp z).elim (ne e) hb) hx
  · obtain ⟨sl, e1⟩ := a.slot c o e n hb hx
    obtain ⟨sl2, e2⟩ := b.slot c _ e1 (a.free c o e n hx) (List.mem_cons_of_mem _ hb) hx
    exact ⟨sl2, e2⟩
  · obtain ⟨sl, e1⟩ := a.any e n hx
    exact b.free c _ e1 (a.free c o e n hx) hx
  · obtain ⟨o', e1⟩ := a.there c o e hx
    exact b.there c o' e1 hx
  · obtain ⟨m1, e1⟩ := a.tbls c ps e
    obtain ⟨m2, e2⟩ := b.tbls c _ e1
    exact ⟨m1 ++ m2, by rw [e2, Array.append_assoc]⟩
/-- fl() has the plain end r, wherever it is called with nothing changed -/
def CloAt (P : Pm) (prog : Program) (w : World) (mg : Str → Option Value) (base : Heap) (k : Nat) (fl : Addr) (fs : List Addr) (H : Hp) (h : Heap) (W : Wd) (r : R D) : Prop :=
  ∀ (A : Around) (outer : List PySem.Env) (s1 : Shared) (Ex : XK) (Q : VK), Room k A → Env0 prog w P.K mg base A outer s1 H → Un fs [] H H h s1.heap → Out P (VD P) W Ex r Q →
    PySem.W.FnAt fl s1.heap ∧ codeAny (model prog w) A (.call (.ref fl) ⟨[], []⟩) (CR (L2N.CX prog w) outer prog w H s1 Q Ex) s1
section
variable {P : Pm} {prog : Program} {w : World} {mg : Str → Option Value} {base : Heap} {k j n i : Nat} {fl : Addr} {fs : List Addr} {H : Hp} {h h1 : Heap} {W W' : Wd} {r : R D}
theorem CloAt.later {b0 : Addr} (c : CloAt P prog w mg base k fl fs H h W r) (u : Un fs [] H H h h1) (hn : h.get? b0 = none) : CloAt P prog w mg base k fl (b0 :: fs) H h1 W r := fun A outer s1 Ex Q hr e0 u1 => c A outer s1 Ex Q hr e0 (un_old u u1 hn)
theorem CloAt.same (c : CloAt P prog w mg base k fl fs H h W r) (u : Un fs [] H H h h1) : CloAt P prog w mg base k fl fs H h1 W r := fun A outer s1 Ex Q hr e0 u1 => c A outer s1 Ex Q hr e0 (u.trans u1)
theorem s_act {X : Cx} {wx : WX} {a : Str} {p1 p2 : Pos} (hK : X.K = P.K) (tk : L2N.Takes X wx) (hH : X.H_0 = H) (hex : X.ex = []) (c : CloAt P X.prog X.w X.mg X.base k fl X.fs H X.s_0.heap W r) (hr : Room k X.A) (hN : X.N[i]? = some a) (hv : Vis X.env.scope a)
    (hd : (a == ("__debug__" : Str)) = false) (hcd : (a == ("__classdict__" : Str)) = false) : PE X (.Call (.Name a p1) [] [] p2) (fun σ H' Q => σ[i]? = some (some (.ref fl)) ∧ H' = H ∧ Out P (VD P) W (fun c d H2 => wx c d σ H2) r Q) := by
  refine ⟨fun pins s σ H1 Q I ⟨h0, e1, q⟩ => ?_⟩
  subst e1
  refine wpAny_Call_Name_kw (thn ((pe_var (pos := p1) hN hv hd hcd).run pins s σ H1 (fun v H' => v = .ref fl ∧ H' = H1) I ⟨.ref fl, h0, rfl, rfl⟩) fun u s1 ⟨v, H2, I1, r1, q1, q2⟩ => ?_)
  subst q1 q2
  cases r1
  have e0 := I1.env0
  have un := I1.base
  rw [hH, hex] at un
  rw [hK] at e0
  obtain ⟨hf, rc⟩ := c X.A X.stack s1 (fun c d H2 => wx c d σ H2) Q hr e0 un q
  refine PySem.W.callWith_F0 hf (wpAny_call (codeAny_mono rc fun r s' hq => ?_))
  cases r with
  | error e => exact tk e s' (L2N.XE.of_call I1 (fun _ _ _ h => h) hq)
  | ok fl =>
    cases fl with
    | ret u => exact I1.after hq
    | next => exact False.elim hq
    | brk => exact False.elim hq
    | cont => exact False.elim hq
end
structure ExcAll (P : Pm) (mg : Str → Option Value) (CS : Addr) (ns : List Str) : Prop where
  nd : ns.Nodup
  short : ∀ n ∈ ns, n.length ≤ 1000
  len : ns.length ≤ 1000
  all : ∀ c C, P.ca c = some C → c ∈ ns ∧ ThrC P.K C ∧ PySem.W.findIn P.K (.ref C) "what" = some none ∧ PySem.W.exmOne P.K (.ref C) (.ref CS) = some true ∧ ∀ n ∈ ns, ∃ Da, mg n = some (.ref Da) ∧ PySem.W.kitOne P.K (.ref C) (.ref Da) = some (n == c)
theorem namesOf_one {c : Str} : ∀ {ns : List Str}, ns.Nodup → c ∈ ns → namesOf c ns = [c]
  | [], _, h => by cases h
  | n :: r, nd, h => by
    obtain ⟨h1, h2⟩ := List.nodup_cons.mp nd
    unfold namesOf
    rw [List.filter_cons]
    by_cases e : n = c
    · subst e
      have z : r.filter (· == n) = [] := List.filter_eq_nil_iff.mpr fun b hb q => h1 (by rw [← beq_iff_eq.mp q]; exact hb)
      simp [z]
    · have e' : (n == c) = false := by simp [e]
      have ih := namesOf_one h2 ((List.mem_cons.mp h).resolve_left fun z => e z.symm)
      unfold namesOf at ih
      rw [e']
      exact ih
/-- what the suite is to reach: a the caught thing -/
def tsX (P : Pm) (i : Nat) (a : Addr) (cls : Value) (d : Option Addr) : TS := fun D σ H => ∃ (c : Str) (C dx : Addr) (fs : List (Str × V)) (x : SS.D) (v : V) (W : Wd) (M : Mem), P.ca c = some C ∧ cls = .ref C ∧ d = some dx ∧ σ[i]? = some (some (.ref a)) ∧ Sim P W M H ∧ W.G dx = some (.xd fs) ∧
  fs.lookup ("what" : Str) = some v ∧ VD P W x v ∧ ∀ W' u H', Le W W' → Sim P W' M H' → VD P W' (.tuple [.str c, x]) u → D.rt u H'
section
variable {P : Pm} {Z : Cx} {a CS : Addr} {oe : Obj} {cls : Value} {d : Option Addr} {pn : List (Addr × Obj)} {i j k kc n : Nat} {rn ln x : Str} {f : Addr} {ns : List Str} {q1 q2 q3 q4 q5 q6 q7 q8 q9 q10 q11 q12 q13 q14 q15 q16 q17 q18 : Pos} {k1 k2 k3 k4 : Nat} {scope : Scope}
theorem s_caught (hK : Z.K = P.K) (EA : ExcAll P Z.mg CS ns) (hz : L2N.Zn cls d oe) (hf : ∃ vs, oe.data = .fields vs) (hr : L2H.RoomH kc Z.A)
    (hcls : ∀ (C dx : Addr) (fs : List (Str × V)) (c : Str), P.ca c = some C → Zc (.ref C) (some dx) oe → FnP Z.prog Z.w Z.K Z.mg Z.base kc f (a, oe) (Rcl P c ns dx fs)) (hk : PySem.W.keepIn Z.K (.ref f) = true) (hg : Gl Z x) (hm : Z.mg x = some (.ref f)) (hdb : (x == ("__debug__" : Str)) = false)
    (hN : Z.N[i]? = some rn) (hv : Vis Z.env.scope rn) (hd : (rn == ("__debug__" : Str)) = false) (hcd : (rn == ("__classdict__" : Str)) = false) (nd : Z.N.Nodup) (hj : Z.N[j]? = some ln) (ok : BlkOk Z.N Z.env.scope scope [(ln, j)]) (hlo : scope.names.lookup ln = some .local)
    (hd2 : (ln == ("__debug__" : Str)) = false) (hcd2 : (ln == ("__classdict__" : Str)) = false) (hline : (q8.endLine == q9.line) = true) :
    PSs (Z.suite a ((a, oe) :: pn)) [.Return (some (.Tuple [.Call (.Attribute (.Constant (.str " ") k1 q7) "join" q8) [.ListComp (.Subscript (.Name ln q1) (.Constant (.int 0) k2 q2) q3) [⟨.Name ln q4, .Call (.Name x q5) [.Name rn q6] [] q10, [.Subscript (.Name ln q11) (.Constant (.int 1) k3 q12) q13], 0⟩] scope q14] [] q9, .Attribute (.Name rn q15) "what" q16] k4 q17)) q18]
      (tsX P i a cls d) := by
  refine ⟨fun pins s σ H En I ⟨c, C, dx, fs, xd, v, W, M, hc, e1, e2, h0, S, g, lw, rv, kk⟩ => ?_⟩
  subst e1 e2
  obtain ⟨hin, T, fw, _, hns⟩ := EA.all c C hc
  have zc : Zc (.ref C) (some dx) oe := hz.zc
  have hot : L2H.Hot1 (Z.suite a ((a, oe) :: pn)).A (a, oe) := ⟨rfl, by
    obtain ⟨vs, hv⟩ := hf
    exact ⟨vs, hv, hz.2.2 vs hv⟩⟩
  have hrS : L2H.RoomH kc (Z.suite a ((a, oe) :: pn)).A := ⟨hr.dp, hr.un⟩
  have fx : Fx P 0 (Z.suite a ((a, oe) :: pn)) := ⟨hK, nd, fun z => absurd rfl z, fun z => absurd rfl z, hrS.mono (Nat.zero_le _)⟩
  have pn1 := x_names (P := P) (X := Z.suite a ((a, oe) :: pn)) (a := a) (oe := oe) (dx := dx) (fs := fs) (i := i) (c := c) (ns := ns) (p1 := q1) (p2 := q2) (p3 := q3) (p4 := q4) (p5 := q5) (p6 := q6) (p7 := q10) (p8 := q11) (p9 := q12) (p10 := q13) (pos := q14) (k1 := k2) (k2 := k3) hK List.mem_cons_self hot hrS (hcls C dx fs c hc zc) hk hg hm hdb hN hv hd hcd nd hj ok hlo hd2 hcd2 EA.len
  have pj := pe_mG (X := Z.suite a ((a, oe) :: pn)) (r := fun x vs H Q => ∃ r, MtR (Z.suite a ((a, oe) :: pn)) (meI .join) r ∧ r x vs H Q) (me_tyOk .join) (me_pa .join) (me_slot .join) (me_ty .join) (fun pins s σ H x xs v us Q I rx rs ⟨r, h, q⟩ => h pins s σ H x xs v us Q I rx rs q) (pe_str (x := " ") (j := k1) (pos := q7)) (pa_cons pn1 pa_nil rfl) (apos := q8) (cpos := q9) rfl rfl hline rfl rfl
  have pw := pe_xf (X := Z) (pn := pn) (pos := q16) (by rw [hK]; exact T.x) (by rw [hK]; exact fw) zc hf (pe_var (X := Z.suite a ((a, oe) :: pn)) (pos := q15) hN hv hd hcd)
  refine (pss_one (ps_ret (pos := q18) (pe_tupF (pos := q17) (k := k4) (pa_cons pj (pa_cons pw pa_nil rfl) rfl)))).run pins s σ H En I ?_
  have hc1 : c.length ≤ 1000 := EA.short c hin
  have hme : ∀ M : Mem, meD false .join (PyData.str " ") [PyData.list [PyData.str c]] M = .ok (PyData.str c) M := fun M => by
    show guard (([c].map (·.length)).sum + [c].length * (" " : Str).length ≤ line) (.ok (PyData.str (Txt.join " " [c])) M) = _
    rw [guard_pos _ (by
      have : line = sizeLine := sizeLine_eq.symm
      have := sizeLine_eq
      have e1 : ([c].map (·.length)).sum = c.length := by simp
      have e2 : (" " : Str).length = 1 := by decide
      rw [e1, e2]
      simp only [List.length_cons, List.length_nil]
      omega)]
    rfl
  refine ⟨go_ty fx S .join (A := PyData.str " ") rfl rfl, h0, W, M, S, g, fun W1 vl H1 l1 S1 r1 => ?_⟩
  rw [namesOf_one EA.nd hin] at r1
  refine go_me (wy := fun _ _ _ => False) (fz := false) fx S1 .join (VD.str " ") (.cons r1 .nil) ?_
  show Out P (VD P) W1 _ (meD false .join (PyData.str " ") [PyData.list [PyData.str c]] M) _
  rw [hme]
  intro W2 v1 H2 l2 S2 r2
  cases r2
  refine ⟨.ref a, h0, rfl, rfl, dx, fs, v, rfl, S2.sub _ _ (l2.g _ _ (l1.g _ _ g)), lw, by show 2 ≤ sizeLine; rw [sizeLine_eq]; decide, fun p o hp ho => ?_⟩
  have l3 := (l1.trans l2).trans (S2.leDat (o := .frz o (.tup [.str c, v])) hp)
  exact kk _ _ _ l3 (S2.dat hp) (.tup (.inl ⟨o, ho, upd_same⟩) (.cons (.str c) (.cons (rv.up l3) .nil)))
end
/-- the def that hears -/
def FnHd (P : Pm) (prog : Program) (w : World) (mg : Str → Option Value) (base : Heap) (k j : Nat) (ha : Addr) : Prop :=
  ∀ (A : Around) (outer : List PySem.Env) (s : Shared) (H : Hp) (fl : Addr) (W : Wd) (M : Mem) (r : R D) (Q : VK) (Ex : XK), Room k A → Env0 prog w P.K mg base A outer s H → Sim P W M H → CloAt P prog w mg base j fl (frs outer) H s.heap W r → Out P (VD P) W Ex (said r) Q →
    codeAny (model prog w) A (.call (.ref ha) ⟨[.ref fl], []⟩) (CR (L2N.CX prog w) outer prog w H s Q Ex) s
abbrev bodyH (dn rn ln x en : Str) (scope : Scope) (k0 k1 k2 k3 k4 k5 : Nat) (q1 q2 q3 q4 q5 q6 q7 q8 q9 q10 q11 q12 q13 q14 q15 q16 q17 q18 p1 p2 p3 p4 p5 p6 p7 p8 : Pos) : List Stmt :=
  [.Try [.Return (some (.Tuple [.Constant (.str "told") k0 p1, .Call (.Name dn p2) [] [] p3] k5 p4)) p5] [.ExceptHandler (some (.Name en p6)) (some rn)
    [.Return (some (.Tuple [.Call (.Attribute (.Constant (.str " ") k1 q7) "join" q8) [.ListComp (.Subscript (.Name ln q1) (.Constant (.int 0) k2 q2) q3) [⟨.Name ln q4, .Call (.Name x q5) [.Name rn q6] [] q10, [.Subscript (.Name ln q11) (.Constant (.int 1) k3 q12) q13], 0⟩] scope q14] [] q9, .Attribute (.Name rn q15) "what" q16] k4 q17)) q18] p7] [] [] p8]
theorem heard_fn {P : Pm} {prog : Program} {w : World} {mg : Str → Option Value} {base : Heap} {k kc j : Nat} {ha f CS : Addr} {name qual dn rn ln x en : Str} {ns : List Str} {params : Arguments} {sc scope : Scope} {dV kV doc pm cdv ct oc : Value} {an od : Option Addr} {osl : Array (Option Value)}
    {k0 k1 k2 k3 k4 k5 : Nat} {q1 q2 q3 q4 q5 q6 q7 q8 q9 q10 q11 q12 q13 q14 q15 q16 q17 q18 p1 p2 p3 p4 p5 p6 p7 p8 : Pos}
    (lk : P.K.lookup ha = some ⟨oc, od, .func (PySem.W.fnOf name qual params (bodyH dn rn ln x en scope k0 k1 k2 k3 k4 k5 q1 q2 q3 q4 q5 q6 q7 q8 q9 q10 q11 q12 q13 q14 q15 q16 q17 q18 p1 p2 p3 p4 p5 p6 p7 p8) sc dV kV doc pm an cdv ct), osl⟩) (hcd : PySem.W.codeIn P.K cdv qual = true)
    (S : FnScope [dn, rn, ln] [dn] sc) (hb : Binds P.K (PySem.W.fnOf name qual params (bodyH dn rn ln x en scope k0 k1 k2 k3 k4 k5 q1 q2 q3 q4 q5 q6 q7 q8 q9 q10 q11 q12 q13 q14 q15 q16 q17 q18 p1 p2 p3 p4 p5 p6 p7 p8) sc dV kV doc pm an cdv ct) [dn] []) (EA : ExcAll P mg CS ns)
    (hcls : ∀ (a : Addr) (oe : Obj) (C dx : Addr) (fs : List (Str × V)) (c : Str), P.ca c = some C → Zc (.ref C) (some dx) oe → (∃ vs, oe.data = .fields vs) → FnP prog w P.K mg base kc f (a, oe) (Rcl P c ns dx fs)) (hkc : kc ≤ k) (hkj : j ≤ k)
    (hk : PySem.W.keepIn P.K (.ref f) = true) (hg : sc.names.lookup x = some .globalImplicit) (hm : mg x = some (.ref f)) (hge : sc.names.lookup en = some .globalImplicit) (hme : mg en = some (.ref CS)) (hrn : sc.names.lookup rn = some .local) (ok : BlkOk [dn, rn, ln] sc scope [(ln, 2)]) (hlo : scope.names.lookup ln = some .local)
    (hdb : ([x, en, dn, rn, ln].all fun y => !(y == ("__debug__" : Str)) && !(y == ("__classdict__" : Str))) = true) (hline : (q8.endLine == q9.line) = true) : FnHd P prog w mg base (k + 1) j ha := by
  simp only [List.all_cons, List.all_nil, Bool.and_eq_true, Bool.not_eq_true', Bool.and_true] at hdb
  obtain ⟨⟨d1, _⟩, ⟨d2, _⟩, ⟨d3, c3⟩, ⟨d4, c4⟩, ⟨d5, c5⟩⟩ := hdb
  intro A outer s H fl W M r Q Ex hr e0 Sm clo h
  refine LamX.run_ofS (N := [dn, rn, ln]) (ps := [dn]) (us := [.ref fl]) (vs := [.ref fl]) lk hcd S hr e0 (hb s [.ref fl] (e0.mod.kin.keeps fun b o e => (e0.bs b o e).1) rfl) (.cons rfl .nil) rfl fun hr' => ?_
  have visd : Vis sc dn := (S.par dn (by simp)).elim .inl fun q => .inr (.inl q)
  refine ⟨_, pss_one (L2N.ps_try_as (X := cxOf (L2N.CX prog w) prog w P.K mg base [dn, rn, ln] qual sc ha cdv A outer s H Ex) (i := 1) (n := rn) (x := en) (c := .ref CS) (Wout := fun c d _ H' => Ex c d H')
    (tb := fun Wx D σ H' => σ[0]? = some (some (.ref fl)) ∧ H' = H ∧ Out P (VD P) W (fun c d H2 => Wx c d σ H2) r fun v H2 => ∀ p o, H2 p = none → o.dict = none → D.rt (.ref p) (upd H2 p (.frz o (.tup [.str "told", v]))))
    (ts := tsX P 1) rfl rfl S.nd rfl hrn ⟨hge, d2, .inl hme⟩ (L2N.takes_of rfl rfl rfl rfl) (fun Wx pn xe tk _ => ?_) (fun a oe cls d pn hz hf => ?_)), ?_⟩
  · refine ⟨fun pins s' σ H' D I ⟨h0, e1, h1⟩ => ?_⟩
    have pa := s_act (P := P) (X := (cxOf (L2N.CX prog w) prog w P.K mg base [dn, rn, ln] qual sc ha cdv A outer s H Ex).tr pn xe) (wx := Wx) (a := dn) (i := 0) (p1 := p2) (p2 := p3) rfl tk rfl rfl clo (hr'.mono hkj) rfl visd d3 c3
    refine (pss_one (ps_ret (pos := p5) (pe_tupF (pos := p4) (k := k5) (pa_cons (pe_str (x := "told") (j := k0) (pos := p1)) (pa_cons pa pa_nil rfl) rfl)))).run pins s' σ H' D I ?_
    refine ⟨h0, e1, h1.imp fun v H2 q => ⟨by show 2 ≤ sizeLine; rw [sizeLine_eq]; decide, q⟩⟩
  · exact s_caught (Z := cxOf (L2N.CX prog w) prog w P.K mg base [dn, rn, ln] qual sc ha cdv A outer s H Ex) (CS := CS) (ns := ns) rfl EA hz hf ⟨(hr'.mono hkc).dp, (hr'.mono hkc).un⟩ (fun C dx fs c hc zc => hcls a oe C dx fs c hc zc hf) hk hg hm d1 rfl (.inl hrn) d4 c4 S.nd rfl ok hlo d5 c5 hline
  · refine ⟨rfl, rfl, ?_⟩
    cases r with
    | no => exact h.elim
    | ok d m => exact fun W1 v H1 l1 S1 r1 p o hp ho => h (W1.dat p (.frz o (.tup [.str "told", v]))) _ _ (l1.trans (S1.leDat hp)) (S1.dat hp) (.tup (.inl ⟨o, ho, upd_same⟩) (.cons (.str "told") (.cons (r1.up (S1.leDat hp)) .nil)))
    | ex c xd m =>
      rintro W1 H1 cls d l1 S1 ⟨C, dx, fs, v, hc, rfl, rfl, g, lw, rv⟩
      refine ⟨true, (EA.all c C hc).2.2.2.1, fun _ a na => ⟨c, C, dx, fs, xd, v, W1, m, hc, rfl, rfl, rfl, S1, g, lw, rv, fun W2 u H2 l2 S2 r2 => ?_⟩, fun z => nomatch z⟩
      exact h W2 u H2 (l1.trans l2) S2 r2
end SS
end PT_SN
section PT_SO
set_option Elab.async false
set_option linter.all false
set_option maxRecDepth 100000
set_option maxHeartbeats 2000000
/-! Lambdas handed to the def that hears. -/
namespace SS
open PySem PySem.Spec PyProof.Rows L2
/-- the context of a lambda's body; its exceptions leave as L2N has it -/
def lamN (X : Cx) (A : Around) (outer : List PySem.Env) (s : Shared) (H : Hp) (Ex : XK) (scope : Scope) (f c' : Addr) : Cx :=
  (LamX.lamCx X A outer s H Ex scope f c').tr [] fun e s' => wpAny (model X.prog X.w) (A.deeper (LamX.lamEnv X scope s.heap.objs.size f c')) (leaving (LamX.lamEnv X scope s.heap.objs.size f c') e) (fun _ s'' => L2N.CX X.prog X.w outer H s Ex e s'') (fun e' s'' => L2N.CX X.prog X.w outer H s Ex e' s'') s'
theorem lamN_takes {X : Cx} {A : Around} {outer : List PySem.Env} {s : Shared} {H : Hp} {Ex : XK} {scope : Scope} {f c' : Addr} : L2N.Takes (lamN X A outer s H Ex scope f c') (fun cls d _ H => Ex cls d H) := L2N.takes_of rfl rfl rfl rfl
/-- a lambda's code has its place -/
structure LamAt (P : Pm) (X : Cx) (params : Arguments) (body : Expr) (scope : Scope) : Prop where
  tab : ∃ c Pt, LamX.TabB X.base X.mg c Pt ∧ X.env.code = .ref c ∧ (Pt, X.env.qual ++ "<lambda>") ∈ P.T ∧ ∀ p ∈ P.T, p.1 = Pt → p.2 = X.env.qual ++ "<lambda>"
  sc : LamX.LamS X.env.scope scope
  df : defaultsOf params X.env = ([], [])
  bd : ∀ (q : Str) (cl : List (Str × Addr)) (pm cv ctv : Value), bindArgs (PySem.W.kla_fn "<lambda>" q params body scope cl pm cv ctv) ⟨[], []⟩ = pure []
section
variable {P : Pm} {F : Fns} {same : Nat} {wx : WX} {X : Cx} {n k i : Nat} {a : E} {params : Arguments} {body : Expr} {scope : Scope} {lpos : Pos}
/-- a lambda that stands has the plain end of its body -/
theorem clo_of {pins : List (Addr × Obj)} {s : Shared} {σ : L2.St} {H : Hp} {W : Wd} {M : Mem} {sd : Env} {f c' : Addr} {pm ctv : Value} (hK : X.K = P.K) (L : LamAt P X params body scope) (I : Inv X pins σ H s) (S : Sim P W M H) (Rl : Rels P W sd σ)
    (hf : s.heap.get? f = some (PySem.W.kla_obj "<lambda>" (X.env.qual ++ "<lambda>") params body scope (LamX.lamEnv X scope 0 f c').cells pm c' ctv)) (hfn : H f = none) (hfr : f ∉ frs X.stack) (hco : H c' = some (LamX.CodeO c' (X.env.qual ++ "<lambda>")))
    (hb : ∀ (A : Around) (outer : List PySem.Env) (s : Shared) (H : Hp) (Ex : XK) (f c' : Addr), Room k (A.deeper (LamX.lamEnv X scope s.heap.objs.size f c')) → PE (lamN X A outer s H Ex scope f c') body (tE P F same (fun cls d _ H' => Ex cls d H') a)) :
    CloAt P X.prog X.w X.mg X.base (k + 1) f (frs X.stack) H s.heap W (evE F same a sd M) := by
  intro A outer s1 Ex Q hr e0 un q
  have of1 := un.keep f _ hf hfn hfr (fun z => nomatch (show f ∈ ([] : List Addr) from z))
  refine ⟨⟨_, _, _, _, of1⟩, ?_⟩
  obtain ⟨⟨oc, vs, t, hoc, hdc, hvc⟩, _, _⟩ := e0.hok c' _ hco
  have lim : s1.heap.NoLimit := e0.mod.nolimit.keeps fun b o e => (e0.bs b o e).1
  refine PySem.W.kla_callFunE hr.depth of1 rfl L.sc.co L.sc.gen rfl ⟨c', oc, vs, t, rfl, hoc, hdc, hvc⟩ ?_
  rw [L.bd]
  refine wpAny_pure (wpAny_newFunctionEnv (fun y hy => (L.sc.own y hy).2) (fun y hy => absurd hy (by simp)) (fun h₁ hns hsb => ⟨lim.fresh _ hsb, ?_⟩) L.sc.kind)
  show codeAny _ _ (.expr body (LamX.lamEnv X scope s1.heap.objs.size f c')) _ _
  have kp : ∀ b o, s1.heap.get? b = some o → h₁.get? b = some o := fun b o e => hsb.extBut b o (Nat.ne_of_lt (Heap.lt_size e)) (Heap.get?_push_of_some _ e)
  rw [← hK] at e0
  have J0 := LamX.lam_start2 (E := Ex) (f := f) (c' := c') (tk := s1.toks + ([] : List (Str × Value)).length) I L.sc e0 hr.hd un hns kp
  have J : Inv (lamN X A outer s1 H Ex scope f c') [] σ H { s1 with heap := h₁, toks := s1.toks + ([] : List (Str × Value)).length } := J0.toTry _
  refine PySem.W.kla_codeExpr (wpAny_mono ((hb A outer s1 H Ex f c' (hr.deeper _)).run [] _ _ H Q J ⟨W, M, sd, S, Rl, q⟩) (fun v s2 hq => ?_) fun e s2 hq => hq)
  obtain ⟨w', H', J', rv, q'⟩ := hq
  exact ⟨w', H', J'.os, J'.bare, J'.base, J'.hok, rv, q'⟩
/-- the lambda is made: it has the plain end of its body -/
theorem lam_clo {pins : List (Addr × Obj)} {s : Shared} {σ : L2.St} {H : Hp} {W : Wd} {M : Mem} {sd : Env} {Ee : Value → Shared → Prop} {Q : Value → Shared → Prop} (hK : X.K = P.K) (L : LamAt P X params body scope) (I : Inv X pins σ H s) (S : Sim P W M H) (Rl : Rels P W sd σ)
    (hb : ∀ (A : Around) (outer : List PySem.Env) (s : Shared) (H : Hp) (Ex : XK) (f c' : Addr), Room k (A.deeper (LamX.lamEnv X scope s.heap.objs.size f c')) → PE (lamN X A outer s H Ex scope f c') body (tE P F same (fun cls d _ H' => Ex cls d H') a))
    (h : ∀ (f c' : Addr) (o : Obj) (H1 : Hp) (s' : Shared), Inv X pins σ H1 s' → Sim P W M H1 → s'.heap.get? f = some o → (∀ v, o.data ≠ .cell v) → (∀ m, ¬ s'.heap.Ns f m) → H1 f = none → f ∉ frs X.stack → H1 c' = some (LamX.CodeO c' (X.env.qual ++ "<lambda>")) →
      (∀ (pins2 : List (Addr × Obj)) (s2 : Shared) (H2 : Hp) (W2 : Wd) (M2 : Mem), Inv X pins2 σ H2 s2 → Sim P W2 M2 H2 → Rels P W2 sd σ → s2.heap.get? f = some o → H2 f = none → H2 c' = some (LamX.CodeO c' (X.env.qual ++ "<lambda>")) → CloAt P X.prog X.w X.mg X.base (k + 1) f (frs X.stack) H2 s2.heap W2 (evE F same a sd M2)) → Q (.ref f) s') :
    wpAny (model X.prog X.w) X.A (eval (.Lambda params body scope lpos) X.env) Q Ee s := by
  obtain ⟨c, Pt, TB, hcode, hmT, hu⟩ := L.tab
  refine LamX.lam_make2 I TB hcode hmT hu S.tabs L.df (L.sc.has I.ok) fun f c' pm ctv H1 s' I1 eN T1 hf hfn hfr hco => h f c' _ H1 s' I1 (S.ext eN T1) hf (fun v z => by cases z) (fun m hn => ?_) hfn hfr hco fun pins2 s2 H2 W2 M2 I2 S2 R2 hf2 hn2 hc2 => clo_of hK L I2 S2 R2 hf2 hn2 hfr hc2 hb
  obtain ⟨od, es, ep, ho, hd, _⟩ := hn
  rw [hf] at ho
  cases ho
  cases hd
theorem s_heard {x : Str} {ha : Addr} {kh : Nat} {p pos : Pos} (fx : Fx P n X) (hz : n ≠ 0) (tk : L2N.Takes X wx) (L : LamAt P X params body scope) (hd : FnHd P X.prog X.w X.mg X.base kh (k + 1) ha) (hk : kh ≤ n) (hkeep : PySem.W.keepIn P.K (.ref ha) = true) (hg : Gl X x) (hm : X.mg x = some (.ref ha)) (hdb : (x == ("__debug__" : Str)) = false)
    (hb : ∀ (A : Around) (outer : List PySem.Env) (s : Shared) (H : Hp) (Ex : XK) (f c' : Addr), Room k (A.deeper (LamX.lamEnv X scope s.heap.objs.size f c')) → PE (lamN X A outer s H Ex scope f c') body (tE P F same (fun cls d _ H' => Ex cls d H') a)) :
    PE X (.Call (.Name x p) [.Lambda params body scope lpos] [] pos) (tE P F same wx (.heard i a)) := by
  refine ⟨fun pins s σ H Q I ⟨W, M, sd, S, Rl, h⟩ => ?_⟩
  simp only [evE] at h
  refine wpAny_Call_Name_kw (ld_glob I hg hm ?_ hdb)
  refine PySem.W.callWith_K (h₀ := X.base) I.ok.mod.kin (by rw [fx.K]; exact hkeep) ?_ (by rfl) (by rfl)
  show wpAny _ _ (spliced ((false, eval (.Lambda params body scope lpos) X.env) :: backTo pos (starEach [] X.env))) _ _ s
  refine Calls.spliced_cons (lam_clo fx.K L I S Rl hb fun f c' o H1 s' I1 S1 hf _ _ hfn hfr hco mk => ?_)
  refine Calls.spliced_nil ⟨I1.kIn, ?_⟩
  have clo := mk pins s' H1 W M I1 S1 Rl hf hfn hco
  have e0 := I1.env0
  rw [fx.K] at e0
  refine wpAny_call (codeAny_mono (hd X.A X.stack s' H1 f W M _ Q (fun c d H' => wx c d σ H') ((fx.room hz).mono hk) e0 S1 clo h) fun r s2 hq => ?_)
  cases r with
  | error e => exact tk e s2 (L2N.XE.of_call I1 (fun _ _ _ h => h) hq)
  | ok fl =>
    cases fl with
    | ret u => exact I1.after hq
    | next => exact False.elim hq
    | brk => exact False.elim hq
    | cont => exact False.elim hq
/-! ### a thing that stays, seen while arguments are read -/
theorem pin_more {pins : List (Addr × Obj)} {s : Shared} {σ : L2.St} {H : Hp} {f : Addr} {o : Obj} (I : Inv X pins σ H s) (e : s.heap.get? f = some o) (nc : ∀ v, o.data ≠ .cell v) (nn : ∀ m, ¬ s.heap.Ns f m) (n : H f = none) (nf : f ∉ frs X.stack) : Inv X (pins ++ [(f, o)]) σ H s := by
  refine ⟨I.ok, I.os, I.bare, I.base, I.loc, I.cell, I.free, I.freeC, fun p hp => ?_, I.hok, I.len⟩
  rw [← List.append_assoc] at hp
  rcases List.mem_append.mp hp with h | h
  · exact I.pin p h
  · rw [List.mem_singleton] at h
    subst h
    refine ⟨e, n, fun z => ?_, fun z => ?_, nc⟩
    · obtain ⟨m, hm, _⟩ := I.loc
      have z : f = X.env.locals := z
      rw [← z] at hm
      exact nn m hm
    · rcases I.ok.stk with h | ⟨h, _⟩
      · rw [h] at nf
        exact nf z
      · rw [h] at nf
        obtain ⟨ev, h1, h2⟩ := List.mem_filterMap.mp z
        exact nf (List.mem_filterMap.mpr ⟨ev, List.mem_cons_of_mem _ h1, h2⟩)
theorem pin_less {pins more : List (Addr × Obj)} {s : Shared} {σ : L2.St} {H : Hp} (I : Inv X (pins ++ more) σ H s) : Inv X pins σ H s :=
  ⟨I.ok, I.os, I.bare, I.base, I.loc, I.cell, I.free, I.freeC, fun p hp => I.pin p (by
    rcases List.mem_append.mp hp with h | h
    · exact List.mem_append_left _ h
    · exact List.mem_append_right _ (List.mem_append_left _ h)), I.hok, I.len⟩
end
/-- a def that hears and compares: (deed, ..) -/
def FnTl (P : Pm) (F : Fns) (same : Nat) (prog : Program) (w : World) (mg : Str → Option Value) (base : Heap) (k j : Nat) (ta : Addr) (m : Nat) (g : List D → List D) : Prop :=
  ∀ (A : Around) (outer : List PySem.Env) (s : Shared) (H : Hp) (fl : Addr) (W : Wd) (M : Mem) (us : List Value) (vs : List V) (ds : List D) (r : R D) (Q : VK) (Ex : XK), Room k A → Env0 prog w P.K mg base A outer s H → Sim P W M H → CloAt P prog w mg base j fl (frs outer) H s.heap W r → VDs P W ds vs → Vals vs us → ds.length = m →
    Out P (VD P) W Ex ((said r).bind fun x m => F same [x, .tuple (g ds)] m) Q → codeAny (model prog w) A (.call (.ref ta) ⟨.ref fl :: us, []⟩) (CR (L2N.CX prog w) outer prog w H s Q Ex) s
section
variable {P : Pm} {F : Fns} {same : Nat} {wx : WX} {X : Cx} {n k j i : Nat} {a : E} {params : Arguments} {body : Expr} {scope : Scope} {lpos : Pos}
/-- f(lambda: a, ..) -/
theorem run_tl {x : Str} {ta : Addr} {kh m : Nat} {p pos : Pos} {g : List D → List D} {e : Expr} {es : List Expr} {as : Es} {pins : List (Addr × Obj)} {s : Shared} {σ : L2.St} {H : Hp} {Q : VK} {W : Wd} {M : Mem} {sd : Env} (fx : Fx P n X) (hz : n ≠ 0) (tk : L2N.Takes X wx) (L : LamAt P X params body scope) (hd : FnTl P F same X.prog X.w X.mg X.base kh (k + 1) ta m g) (hk : kh ≤ n) (hkeep : PySem.W.keepIn P.K (.ref ta) = true) (hg : Gl X x) (hm : X.mg x = some (.ref ta)) (hdb : (x == ("__debug__" : Str)) = false)
    (hb : ∀ (A : Around) (outer : List PySem.Env) (s : Shared) (H : Hp) (Ex : XK) (f c' : Addr), Room k (A.deeper (LamX.lamEnv X scope s.heap.objs.size f c')) → PE (lamN X A outer s H Ex scope f c') body (tE P F same (fun cls d _ H' => Ex cls d H') a))
    (ha : PA X (e :: es) (tEs P F same wx as)) (I : Inv X pins σ H s) (S : Sim P W M H) (Rl : Rels P W sd σ) (hs : starEach (e :: es) X.env = (false, eval e X.env) :: starEach es X.env) (hpl : (backTo pos (starEach es X.env)).any (·.1) = false)
    (h : Out P (VD P) W (fun c d H' => wx c d σ H') ((evEs F same as sd M).bind fun ds M => guard (ds.length = m) ((said (evE F same a sd M)).bind fun x M => F same [x, .tuple (g ds)] M)) Q) :
    wpAny (model X.prog X.w) X.A (eval (.Call (.Name x p) (.Lambda params body scope lpos :: e :: es) [] pos) X.env) (EP X pins σ Q) X.xe s := by
  refine wpAny_Call_Name_kw (ld_glob I hg hm ?_ hdb)
  refine PySem.W.callWith_K (h₀ := X.base) I.ok.mod.kin (by rw [fx.K]; exact hkeep) ?_ (by rfl) (by rw [hs]; exact hpl)
  show wpAny _ _ (spliced ((false, eval (.Lambda params body scope lpos) X.env) :: backTo pos (starEach (e :: es) X.env))) _ _ s
  refine Calls.spliced_cons (lam_clo fx.K L I S Rl hb fun f c' o H1 s' I1 S1 hf nc nn hfn hfr hco mk => ?_)
  have Ip := pin_more I1 hf nc nn hfn hfr
  obtain ⟨S1', l1⟩ := S1.code hco
  have ht := at_Es (Q' := fun vs H2 => ∃ W2 ds M2, Sim P W2 M2 H2 ∧ VDs P W2 ds vs ∧ Rels P W2 sd σ ∧ W2.G c' = some (LamX.CodeO c' (X.env.qual ++ "<lambda>")) ∧ Out P (VD P) W2 (fun c d H' => wx c d σ H') (guard (ds.length = m) ((said (evE F same a sd M2)).bind fun x M => F same [x, .tuple (g ds)] M)) Q)
    S1' (Rl.up l1) (h.up l1) fun W2 ds M2 vs H2 S2 R2 l2 r2 h2 => ⟨W2, ds, M2, S2, r2, R2, l2.g _ _ upd_same, h2⟩
  refine thn (ha.run pos _ s' σ H1 _ Ip ht) fun us s2 ⟨vs, H2, I2, rv, W2, ds, M2, S2, r2, R2, gc, h2⟩ => ⟨I2.kIn, ?_⟩
  have zf := I2.pin (f, o) (List.mem_append_right _ (List.mem_append_right _ (List.mem_singleton.mpr rfl)))
  have clo := mk _ s2 H2 W2 M2 I2 S2 R2 zf.1 zf.2.1 (S2.sub _ _ gc)
  have e0 := I2.env0
  rw [fx.K] at e0
  obtain ⟨hl, h3⟩ := h2.guard
  refine wpAny_call (codeAny_mono (hd X.A X.stack s2 H2 f W2 M2 us vs ds _ Q (fun c d H' => wx c d σ H') ((fx.room hz).mono hk) e0 S2 clo r2 rv hl h3) fun r s3 hq => ?_)
  cases r with
  | error e => exact tk e s3 (L2N.XE.of_call I2 (fun _ _ _ h => h) hq)
  | ok fl =>
    cases fl with
    | ret u =>
      obtain ⟨v, H3, I3, q3⟩ := I2.after hq
      exact ⟨v, H3, pin_less I3, q3⟩
    | next => exact False.elim hq
    | brk => exact False.elim hq
    | cont => exact False.elim hq
def gTells (ds : List D) : List D := .str "told" :: ds
def gRef (ds : List D) : List D := ds
variable {b c : E} {eb ec : Expr}
theorem s_tells {x : Str} {ta : Addr} {kh : Nat} {p pos : Pos} (fx : Fx P n X) (hz : n ≠ 0) (tk : L2N.Takes X wx) (L : LamAt P X params body scope) (hd : FnTl P F same X.prog X.w X.mg X.base kh (k + 1) ta 1 gTells) (hk : kh ≤ n) (hkeep : PySem.W.keepIn P.K (.ref ta) = true) (hg : Gl X x) (hm : X.mg x = some (.ref ta)) (hdb : (x == ("__debug__" : Str)) = false)
    (hb : ∀ (A : Around) (outer : List PySem.Env) (s : Shared) (H : Hp) (Ex : XK) (f c' : Addr), Room k (A.deeper (LamX.lamEnv X scope s.heap.objs.size f c')) → PE (lamN X A outer s H Ex scope f c') body (tE P F same (fun cls d _ H' => Ex cls d H') a))
    (h1 : PE X eb (tE P F same wx b)) (hs : starEach [eb] X.env = (false, eval eb X.env) :: starEach [] X.env) : PE X (.Call (.Name x p) [.Lambda params body scope lpos, eb] [] pos) (tE P F same wx (.tells i a b)) := by
  refine ⟨fun pins s σ H Q I ⟨W, M, sd, S, Rl, h⟩ => run_tl (as := .cons b .nil) fx hz tk L hd hk hkeep hg hm hdb hb (s_cons h1 s_nil hs) I S Rl hs rfl ?_⟩
  simp only [evE] at h
  simpa only [evEs, bind_assoc, bind_ok, guard_pos _ (show [(_ : D)].length = 1 from rfl), gTells] using h
theorem s_refuses {x : Str} {ta : Addr} {kh : Nat} {p pos : Pos} (fx : Fx P n X) (hz : n ≠ 0) (tk : L2N.Takes X wx) (L : LamAt P X params body scope) (hd : FnTl P F same X.prog X.w X.mg X.base kh (k + 1) ta 2 gRef) (hk : kh ≤ n) (hkeep : PySem.W.keepIn P.K (.ref ta) = true) (hg : Gl X x) (hm : X.mg x = some (.ref ta)) (hdb : (x == ("__debug__" : Str)) = false)
    (hb : ∀ (A : Around) (outer : List PySem.Env) (s : Shared) (H : Hp) (Ex : XK) (f c' : Addr), Room k (A.deeper (LamX.lamEnv X scope s.heap.objs.size f c')) → PE (lamN X A outer s H Ex scope f c') body (tE P F same (fun cls d _ H' => Ex cls d H') a))
    (h1 : PE X eb (tE P F same wx b)) (h2 : PE X ec (tE P F same wx c)) (hs : starEach [eb, ec] X.env = (false, eval eb X.env) :: starEach [ec] X.env) (hs2 : starEach [ec] X.env = (false, eval ec X.env) :: starEach [] X.env) : PE X (.Call (.Name x p) [.Lambda params body scope lpos, eb, ec] [] pos) (tE P F same wx (.refuses i a b c)) := by
  refine ⟨fun pins s σ H Q I ⟨W, M, sd, S, Rl, h⟩ => run_tl (as := .cons b (.cons c .nil)) fx hz tk L hd hk hkeep hg hm hdb hb (s_cons h1 (s_cons h2 s_nil hs2) hs) I S Rl hs (by rw [hs2]; rfl) ?_⟩
  simp only [evE] at h
  simpa only [evEs, bind_assoc, bind_ok, guard_pos _ (show [(_ : D), (_ : D)].length = 2 from rfl), gRef] using h
end
end SS
end PT_SO
section PT_SP
set_option Elab.async false
set_option linter.all false
set_option maxRecDepth 100000
set_option maxHeartbeats 2000000
/-! The defs that hear and compare. -/
namespace SS
open PySem PySem.Spec PyProof.Rows L2
section
variable {P : Pm} {F : Fns} {same : Nat} {wx : WX} {X : Cx} {n k j i : Nat} {H : Hp} {W : Wd} {M : Mem} {r : R D} {fl : Addr}
/-- heard(deed), deed a def's first parameter -/
theorem s_hcall {x dn : Str} {ha : Addr} {kh : Nat} {p1 p2 pos : Pos} (fx : Fx P n X) (hz : n ≠ 0) (tk : L2N.Takes X wx) (hst : X.stack = X.env :: X.outer) (hfr : X.env.frame = some X.env.locals) (hH : X.H_0 = H) (hex : X.ex = []) (S : Sim P W M H) (clo : CloAt P X.prog X.w X.mg X.base j fl X.fs H X.s_0.heap W r) (hd : FnHd P X.prog X.w X.mg X.base kh j ha) (hk : kh ≤ n)
    (hkeep : PySem.W.keepIn P.K (.ref ha) = true) (hg : Gl X x) (hm : X.mg x = some (.ref ha)) (hdb : (x == ("__debug__" : Str)) = false) (hN : X.N[i]? = some dn) (hv : Vis X.env.scope dn) (hdd : (dn == ("__debug__" : Str)) = false) (hcd : (dn == ("__classdict__" : Str)) = false) :
    PE X (.Call (.Name x p1) [.Name dn p2] [] pos) (fun σ H' Q => σ[i]? = some (some (.ref fl)) ∧ H' = H ∧ Out P (VD P) W (fun c d H2 => wx c d σ H2) (said r) Q) := by
  refine ⟨fun pins s σ H1 Q I ⟨h0, e1, q⟩ => ?_⟩
  subst e1
  refine wpAny_Call_Name_kw (ld_glob I hg hm ?_ hdb)
  have pa : PA X [.Name dn p2] _ := pa_cons (pe_var hN hv hdd hcd) pa_nil rfl
  refine PySem.W.callWith_K (h₀ := X.base) I.ok.mod.kin (by rw [fx.K]; exact hkeep) (thn (pa.run pos pins s σ H1 (fun vs H' => vs = [.ref fl] ∧ H' = H1) I ⟨.ref fl, h0, rfl, rfl⟩) fun us s1 ⟨vs, H2, I1, rv, q1, q2⟩ => ⟨I1.kIn, ?_⟩) rfl rfl
  subst q1 q2
  cases rv with
  | cons ra rt =>
    cases ra
    cases rt
    have un := I1.base
    rw [hH, hex] at un
    have hn : X.s_0.heap.get? X.env.locals = none := by
      cases e : X.s_0.heap.get? X.env.locals with
      | none => rfl
      | some o => exact absurd (Heap.lt_size e) (Nat.not_lt.mpr I1.ok.above)
    have clo2 : CloAt P X.prog X.w X.mg X.base j fl (frs X.stack) H2 s1.heap W r := by
      have ef : frs X.stack = X.env.locals :: X.fs := by
        rw [hst]
        exact List.filterMap_cons_some hfr
      rw [ef]
      exact clo.later un hn
    have e0 := I1.env0
    rw [fx.K] at e0
    refine wpAny_call (codeAny_mono (hd X.A X.stack s1 H2 fl W M r Q (fun c d H' => wx c d σ H') ((fx.room hz).mono hk) e0 S clo2 q) fun r s' hq => ?_)
    cases r with
    | error e => exact tk e s' (L2N.XE.of_call I1 (fun _ _ _ h => h) hq)
    | ok fl =>
      cases fl with
      | ret u => exact I1.after hq
      | next => exact False.elim hq
      | brk => exact False.elim hq
      | cont => exact False.elim hq
/-- a def called, whatever reads the arguments -/
theorem s_callG {x : Str} {fa : Addr} {f kf : Nat} {e : Expr} {es : List Expr} {p pos : Pos} {t : TA} (fx : Fx P n X) (hz : n ≠ 0) (tk : L2N.Takes X wx) (hF : FnS P F X.prog X.w X.mg X.base kf f) (hk : kf ≤ n) (hfa : P.fa f = some fa) (hkeep : PySem.W.keepIn P.K (.ref fa) = true) (hg : Gl X x) (hm : X.mg x = some (.ref fa)) (hd : (x == ("__debug__" : Str)) = false)
    (ha : PA X (e :: es) t) (he : starEach (e :: es) X.env = (false, eval e X.env) :: starEach es X.env) (hpl : (backTo pos (starEach es X.env)).any (·.1) = false) :
    PE X (.Call (.Name x p) (e :: es) [] pos) (fun σ H Q => t σ H fun vs H1 => ∃ W' ds M', Sim P W' M' H1 ∧ VDs P W' ds vs ∧ Out P (VD P) W' (fun c d H' => wx c d σ H') (F f ds M') Q) := by
  refine ⟨fun pins s σ H Q I ht => ?_⟩
  refine wpAny_Call_Name_kw (ld_glob I hg hm ?_ hd)
  refine PySem.W.callWith_K (h₀ := X.base) I.ok.mod.kin (by rw [fx.K]; exact hkeep) (thn (ha.run pos pins s σ H _ I ht) fun us s1 ⟨vs, H1, I1, r, W1, ds, M1, S1, rs, h1⟩ => ⟨I1.kIn, ?_⟩) he hpl
  obtain ⟨a, h2, _, h3⟩ := run_call fx hz tk hF hk I1 r S1 rs h1
  rw [hfa] at h2
  cases h2
  exact h3
end
theorem rels_start {P : Pm} {W : Wd} {fl : Addr} {N : List Str} {ds : List D} {vs : List V} (r : VDs P W ds vs) (hl : N.length = ds.length + 1) : Rels P W (none :: ds.map some) (L2.start N (.ref fl :: vs)) := by
  have e : L2.start N (V.ref fl :: vs) = some (.ref fl) :: vs.map some := by
    unfold L2.start
    have := r.length
    rw [show N.length - (V.ref fl :: vs).length = 0 by simp; omega]
    simp
  rw [e]
  refine ⟨by simp [r.length], fun q d h => ?_⟩
  cases q with
  | zero => simp at h
  | succ q =>
    have h : (ds.map some)[q]? = some (some d) := by simpa using h
    rw [List.getElem?_map] at h
    cases e2 : ds[q]? with
    | none => rw [e2] at h; cases h
    | some d2 =>
      rw [e2] at h
      cases h
      obtain ⟨v, e3, rv⟩ := r.get e2
      exact ⟨v, by simp [e3], rv⟩
abbrev bodyT (sx hx dn : Str) (es : List Expr) (k0 : Nat) (p1 p2 p3 p4 p5 p6 p7 : Pos) : List Stmt := [.Return (some (.Call (.Name sx p1) [.Call (.Name hx p2) [.Name dn p3] [] p4, .Tuple es k0 p5] [] p6)) p7]
theorem tl_fn {P : Pm} {F : Fns} {same : Nat} {prog : Program} {w : World} {mg : Str → Option Value} {base : Heap} {k kh ks j m : Nat} {ta ha sa : Addr} {name qual sx hx dn : Str} {ons : List Str} {es : List Expr} {as : Es} {g : List D → List D} {params : Arguments} {sc : Scope} {dV kV doc pm cdv ct oc : Value} {an od : Option Addr} {osl : Array (Option Value)}
    {k0 : Nat} {p1 p2 p3 p4 p5 p6 p7 : Pos} (lk : P.K.lookup ta = some ⟨oc, od, .func (PySem.W.fnOf name qual params (bodyT sx hx dn es k0 p1 p2 p3 p4 p5 p6 p7) sc dV kV doc pm an cdv ct), osl⟩) (hcd : PySem.W.codeIn P.K cdv qual = true) (S : FnScope (dn :: ons) (dn :: ons) sc)
    (hb : Binds P.K (PySem.W.fnOf name qual params (bodyT sx hx dn es k0 p1 p2 p3 p4 p5 p6 p7) sc dV kV doc pm an cdv ct) (dn :: ons) []) (hd : FnHd P prog w mg base kh j ha) (hkh : kh ≤ k) (hF : FnS P F prog w mg base ks same) (hks : ks ≤ k) (hk0 : k ≠ 0) (hsa : P.fa same = some sa)
    (hkeep : PySem.W.keepIn P.K (.ref ha) = true) (hkeep2 : PySem.W.keepIn P.K (.ref sa) = true) (hg : sc.names.lookup hx = some .globalImplicit) (hm : mg hx = some (.ref ha)) (hg2 : sc.names.lookup sx = some .globalImplicit) (hm2 : mg sx = some (.ref sa)) (hm1 : ons.length = m)
    (hdb : ([hx, sx, dn].all fun y => !(y == ("__debug__" : Str)) && !(y == ("__classdict__" : Str))) = true) (hg0 : ∀ ds : List D, ds.length = m → (g ds).length ≤ 100 ∧ ∀ M, evEs F same as (none :: ds.map some) M = .ok (g ds) M)
    (hes : ∀ (X : Cx) (wx : WX), X.N = dn :: ons → X.env.scope = sc → PA X es (tEs P F same wx as)) : FnTl P F same prog w mg base (k + 1) j ta m g := by
  simp only [List.all_cons, List.all_nil, Bool.and_eq_true, Bool.not_eq_true', Bool.and_true] at hdb
  obtain ⟨⟨d1, _⟩, ⟨d2, _⟩, ⟨d3, c3⟩⟩ := hdb
  intro A outer s H fl W M us vs ds r Q Ex hr e0 Sm clo rd rv hl h
  have l1 : us.length = ons.length := by rw [← rv.length, rd.length, hl, hm1]
  have l2 : vs.length = ons.length := by rw [rd.length, hl, hm1]
  have KX := e0.mod.kin.keeps fun b o e => (e0.bs b o e).1
  have b1 : BindsTo s (PySem.W.fnOf name qual params (bodyT sx hx dn es k0 p1 p2 p3 p4 p5 p6 p7) sc dV kV doc pm an cdv ct) ⟨.ref fl :: us, []⟩ ((dn :: ons).zip (.ref fl :: us)) := by
    have z := hb s (.ref fl :: us) KX (by simp [l1])
    rw [List.append_nil] at z
    exact z
  refine LamX.run_ofS (N := dn :: ons) (ps := dn :: ons) (us := .ref fl :: us) (vs := .ref fl :: vs) lk hcd S hr e0 b1 (.cons rfl rv) (by simp [l2]) fun hr' => ?_
  have fx : Fx P k (cxOf (L2N.CX prog w) prog w P.K mg base (dn :: ons) qual sc ta cdv A outer s H Ex) := ⟨rfl, S.nd, fun _ => rfl, fun _ => hr', L2H.roomH_of hr'⟩
  have tk : L2N.Takes (cxOf (L2N.CX prog w) prog w P.K mg base (dn :: ons) qual sc ta cdv A outer s H Ex) (fun c d _ H' => Ex c d H') := L2N.takes_of rfl rfl rfl rfl
  have visd : Vis sc dn := (S.par dn (by simp)).elim .inl fun q => .inr (.inl q)
  have ph := s_hcall (X := cxOf (L2N.CX prog w) prog w P.K mg base (dn :: ons) qual sc ta cdv A outer s H Ex) (i := 0) (p1 := p2) (p2 := p3) (pos := p4) fx hk0 tk rfl rfl rfl rfl Sm clo hd hkh hkeep hg hm d1 rfl visd d3 c3
  have pt := s_tup (k := k0) (pos := p5) (hes (cxOf (L2N.CX prog w) prog w P.K mg base (dn :: ons) qual sc ta cdv A outer s H Ex) (fun c d _ H' => Ex c d H') rfl rfl)
  have pc := s_callG (p := p1) (pos := p6) fx hk0 tk hF hks hsa hkeep2 hg2 hm2 d2 (pa_cons ph (pa_cons pt pa_nil rfl) rfl) rfl rfl
  refine ⟨_, pss_one (ps_ret (pos := p7) pc), rfl, rfl, ?_⟩
  refine (h.bind (VD P)).imp fun xv H1 ⟨W1, x, m1, l1', S1, r1, h1⟩ => ?_
  refine ⟨W1, m1, none :: ds.map some, S1, rels_start (rd.up l1') (by simp [hl, hm1]), ?_⟩
  obtain ⟨g1, g2⟩ := hg0 ds hl
  have hle : (g ds).length ≤ line := by
    have : line = sizeLine := sizeLine_eq.symm
    have := sizeLine_eq
    omega
  simp only [evE, g2, bind_ok, guard_pos _ hle]
  exact fun W2 tv H2 l2 S2 r2 => ⟨W2, [x, .tuple (g ds)], m1, S2, .cons (r1.up l2) (.cons r2 .nil), h1.up l2⟩
end SS
end PT_SP
section PT_SQ
set_option Elab.async false
set_option linter.all false
set_option maxRecDepth 100000
set_option maxHeartbeats 2000000
/-! A def keeps what its body keeps. -/
namespace SS
open PySem PySem.Spec PyProof.Rows L2
mutual
/-- no name of a cell within: the cells do not matter -/
theorem nl_vd {P : Pm} {W W' : Wd} (e : W.G = W'.G) : ∀ {d : D} {v : V}, nl d = true → VD P W d v → VD P W' d v
  | _, _, _, .non => .non
  | _, _, _, .bl b => .bl b
  | _, _, _, .int i => .int i
  | _, _, _, .str x => .str x
  | _, _, h, .lst a b => .lst (by rw [← e]; exact a) (nl_vds e (by simpa only [nl] using h) b)
  | _, _, h, .tup a b => .tup (by rw [← e]; exact a) (nl_vds e (by simpa only [nl] using h) b)
  | _, _, h, .loc a => by simp [nl] at h
  | _, _, h, .fnv a => .fnv a
theorem nl_vds {P : Pm} {W W' : Wd} (e : W.G = W'.G) : ∀ {ds : List D} {vs : List V}, nlAll ds = true → VDs P W ds vs → VDs P W' ds vs
  | _, _, _, .nil => .nil
  | _, _, h, .cons a b => by
    simp only [nlAll, Bool.and_eq_true] at h
    exact .cons (nl_vd e h.1 a) (nl_vds e h.2 b)
end
theorem nl_kvd {κ : Type} {P : Pm} {W W' : Wd} (e : W.G = W'.G) {kvs : List (κ × D)} {ws : List (κ × V)} (h : KVD P W kvs ws) (n : (kvs.all fun p => nl p.2) = true) : KVD P W' kvs ws := by
  induction h with
  | nil => exact .nil
  | cons r t ih =>
    simp only [List.all_cons, Bool.and_eq_true] at n
    exact .cons ⟨r.1, nl_vd e n.1 r.2⟩ (ih n.2)
theorem nl_cell {P : Pm} {W W' : Wd} (e : W.G = W'.G) {o : O} {u : HO} (n : nlO o = true) (h : CellOk P W o u) : CellOk P W' o u := by
  cases o <;> cases u <;> first | exact h.elim | skip
  · exact nl_vds e (by simpa only [nlO] using n) h
  · exact nl_kvd e h (by simpa only [nlO] using n)
  · exact nl_kvd e h (by simpa only [nlO] using n)
section
variable {P : Pm} {W W' : Wd} {M m : Mem} {H : Hp}
abbrev Wd.cut (W' : Wd) (β : List Addr) : Wd := ⟨W'.G, W'.R, β⟩
theorem cut_le (l : Le W W') : Le W (W'.cut W.β) := ⟨l.g, l.r, List.prefix_refl _⟩
theorem Sim.cut (S : Sim P W' m H) (l : Le W W') (hn : W.β.length ≤ m.length) (hl : ((m.take W.β.length).all nlO) = true) : Sim P (W'.cut W.β) (m.take W.β.length) H := by
  have sub : ∀ {i : Nat} {a : Addr}, W.β[i]? = some a → W'.β[i]? = some a := fun e => l.at e
  have mem : ∀ a ∈ W.β, a ∈ W'.β := fun a ha => l.b.subset ha
  refine ⟨S.sub, fun a o e => ?_, (by show W.β.length = _; rw [List.length_take]; omega), S.nd.sublist l.b.sublist, fun i a o e1 e2 => ?_, S.tabs, S.nt, S.nc⟩
  · obtain ⟨h1, h2, h3⟩ := S.held a o e
    exact ⟨h1, h2, fun z => h3 (mem a z)⟩
  · have ho : nlO o = true := List.all_eq_true.mp hl o (List.mem_of_getElem? e2)
    have hi : i < W.β.length := (List.getElem?_eq_some_iff.mp e1).1
    rw [List.getElem?_take_of_lt hi] at e2
    obtain ⟨g, u, h1, h2⟩ := S.cell i a o (sub e1) e2
    exact ⟨g, u, h1, nl_cell (W := W') (W' := W'.cut W.β) rfl ho h2⟩
theorem Sim.cut1 (S : Sim P W' m H) (l : Le W W') (hn : W.β.length ≤ m.length) (hl : ((m.take W.β.length).all nlO) = true) {k : Nat} {a : Addr} {o : O} (hk : ¬ k < W.β.length) (e : W'.β[k]? = some a) (em : m[k]? = some o) (ho : nlO o = true) : Sim P (W'.cut (W.β ++ [a])) (m.take W.β.length ++ [o]) H ∧ Le W (W'.cut (W.β ++ [a])) := by
  have S0 := S.cut l hn hl
  have ha : a ∈ W'.β := List.mem_of_getElem? e
  refine ⟨⟨S.sub, fun b u q => ?_, ?_, ?_, fun i b u e1 e2 => ?_, S.tabs, S.nt, S.nc⟩, ⟨l.g, l.r, List.prefix_append _ _⟩⟩
  · obtain ⟨h1, h2, h3⟩ := S.held b u q
    refine ⟨h1, h2, fun z => ?_⟩
    rcases List.mem_append.mp z with z | z
    · exact h3 (l.b.subset z)
    · rw [List.mem_singleton] at z
      rw [z] at h3
      exact h3 ha
  · show (W.β ++ [a]).length = _
    rw [List.length_append, List.length_append, List.length_take]
    simp
    omega
  · refine List.nodup_append.mpr ⟨S.nd.sublist l.b.sublist, by simp, fun b hb c hc z => ?_⟩
    rw [List.mem_singleton] at hc
    subst hc z
    obtain ⟨i, hi, q⟩ := List.mem_iff_getElem.mp hb
    have e3 : W'.β[i]? = some b := l.at (by rw [List.getElem?_eq_getElem hi, q])
    have := (List.getElem?_inj (List.getElem?_eq_some_iff.mp e3).1 S.nd).mp (e3.trans e.symm)
    omega
  · have e1 : (W.β ++ [a])[i]? = some b := e1
    by_cases hi : i < W.β.length
    · rw [List.getElem?_append_left hi] at e1
      rw [List.getElem?_append_left (by rw [List.length_take]; omega)] at e2
      obtain ⟨g, v, h1, h2⟩ := S0.cell i b u e1 e2
      exact ⟨g, v, h1, CellOk.upG (W := W'.cut W.β) (W' := W'.cut (W.β ++ [a])) (fun _ _ z => z) (fun j c z => by
        have z : W.β[j]? = some c := z
        show (W.β ++ [a])[j]? = some c
        rw [List.getElem?_append_left (List.getElem?_eq_some_iff.mp z).1]
        exact z) h2⟩
    · have hi' : i = W.β.length := by
        have := (List.getElem?_eq_some_iff.mp e1).1
        simp at this
        omega
      subst hi'
      rw [List.getElem?_append_right (Nat.le_refl _)] at e1
      rw [List.getElem?_append_right (by rw [List.length_take]; omega)] at e2
      have z : W.β.length - (m.take W.β.length).length = 0 := by rw [List.length_take]; omega
      rw [z] at e2
      simp at e1 e2
      subst e1 e2
      obtain ⟨g, v, h1, h2⟩ := S.cell k a o e em
      exact ⟨g, v, h1, nl_cell (W := W') (W' := W'.cut (W.β ++ [a])) rfl ho h2⟩
/-- behind a call -/
theorem out_trim {wx : WY} {Q : VK} {r : R D} (h : Out P (VD P) W wx (trim W.β.length r) Q) : Out P (VD P) W wx r Q := by
  cases r with
  | no => exact h
  | ok d m =>
    intro W1 v H1 l S r1
    unfold trim at h
    dsimp only at h
    split at h
    · rename_i hh
      obtain ⟨h1, h2⟩ := Bool.and_eq_true_iff.mp hh
      have h2 := of_decide_eq_true h2
      split at h
      · rename_i hd
        exact h _ v H1 (cut_le l) (S.cut l h2 h1) (nl_vd (W := W1) (W' := W1.cut W.β) rfl hd r1)
      · split at h
        · rename_i k ek
          have hv : ∃ a, v = .ref a ∧ W1.β[k]? = some a ∧ d = loc k := by
            cases r1 with
            | @loc i a q => 
              have : locOf (loc i) = some k := ek
              rw [locOf_loc] at this
              cases this
              exact ⟨a, rfl, q, rfl⟩
            | fnv q => simp [locOf] at ek
            | _ => cases ek
          obtain ⟨a, rfl, ea, rfl⟩ := hv
          split at h
          · rename_i hk
            refine h _ _ H1 (cut_le l) (S.cut l h2 h1) (.loc ?_)
            have e2 := ea
            obtain ⟨t, et⟩ := l.b
            rw [← et, List.getElem?_append_left hk] at e2
            exact e2
          · rename_i hk
            split at h
            · rename_i o eo
              split at h
              · rename_i ho
                obtain ⟨S2, l2⟩ := S.cut1 l h2 h1 hk ea eo ho
                refine h _ _ H1 l2 S2 (.loc ?_)
                show (W.β ++ [a])[W.β.length]? = some a
                rw [List.getElem?_append_right (Nat.le_refl _)]
                simp
              · exact h W1 _ H1 l S r1
            · exact h W1 _ H1 l S r1
        · exact h W1 v H1 l S r1
    · exact h W1 v H1 l S r1
  | ex c x m =>
    intro W1 H1 cls dd l S e
    unfold trim at h
    dsimp only at h
    split at h
    · rename_i hh
      obtain ⟨h12, h3⟩ := Bool.and_eq_true_iff.mp hh
      obtain ⟨h1, h2⟩ := Bool.and_eq_true_iff.mp h12
      obtain ⟨C, dx, fs, v, c1, c2, c3, c4, c5, c6⟩ := e
      exact h _ H1 cls dd (cut_le l) (S.cut l (of_decide_eq_true h2) h1) ⟨C, dx, fs, v, c1, c2, c3, c4, c5, nl_vd (W := W1) (W' := W1.cut W.β) rfl h3 c6⟩
    · exact h W1 H1 cls dd l S e
end
theorem rels_args {P : Pm} {W : Wd} {N : List Str} {ds : List D} {vs : List V} {k : Nat} (r : VDs P W ds vs) (hk : k = N.length - ds.length) : Rels P W (ds.map some ++ List.replicate k none) (L2.start N vs) := by
  have hl := r.length
  unfold L2.start
  refine ⟨by simp [hl, hk], fun j d e => ?_⟩
  by_cases hj : j < ds.length
  · rw [List.getElem?_append_left (by simpa using hj), List.getElem?_map] at e
    cases e2 : ds[j]? with
    | none => rw [e2] at e; cases e
    | some d2 =>
      rw [e2] at e
      cases e
      obtain ⟨v, e3, rv⟩ := r.get e2
      exact ⟨v, by rw [List.getElem?_append_left (by simp [hl, hj]), List.getElem?_map, e3]; rfl, rv⟩
  · rw [List.getElem?_append_right (by simpa using Nat.not_lt.mp hj), List.getElem?_replicate] at e
    split at e <;> cases e
/-- a def keeps what the plain one does -/
theorem fn_s {P : Pm} {tab : Nat → Option Fn} {same : Nat} {prog : Program} {w : World} {mg : Str → Option Value} {base : Heap} {k n f : Nat} {a : Addr} {g : Fn} {name qual : Str} {params : Arguments} {body : List Stmt} {sc : Scope} {dV kV doc pm cdv ct oc : Value} {an od : Option Addr} {osl : Array (Option Value)} {N ps : List Str}
    (hfa : P.fa f = some a) (hkeep : PySem.W.keepIn P.K (.ref a) = true) (ht : tab f = some g) (lk : P.K.lookup a = some ⟨oc, od, .func (PySem.W.fnOf name qual params body sc dV kV doc pm an cdv ct), osl⟩) (hcd : PySem.W.codeIn P.K cdv qual = true) (S : FnScope N ps sc) (hb : Binds P.K (PySem.W.fnOf name qual params body sc dV kV doc pm an cdv ct) ps [])
    (hnn : g.nn = N.length) (hnp : g.np = ps.length)
    (hbody : ∀ (A : Around) (outer : List PySem.Env) (s : Shared) (H : Hp) (Ex : XK), Room k (A.deeper (envOfC qual sc s.heap.objs.size a cdv)) → PSs (cxOf (L2N.CX prog w) prog w P.K mg base N qual sc a cdv A outer s H Ex) body (tSs P (fnsN tab same n) same (fun c d H' => Ex c d H') g.body)) :
    FnS P (fnsN tab same (n + 1)) prog w mg base (k + 1) f := by
  intro A outer s H us vs ds W M Q Ex hr e0 rv Sm rd h
  refine ⟨a, hfa, hkeep, ?_⟩
  have e1 : fnsN tab same (n + 1) f ds M = runF (fnsN tab same n) same g ds M := by
    show (match tab f with
      | some g => runF (fnsN tab same n) same g ds M
      | none => .no) = _
    rw [ht]
  rw [e1] at h
  unfold runF at h
  split at h
  · rename_i hl
    rw [← Sm.len] at h
    have h := out_trim h
    have l1 : us.length = ps.length := by rw [← rv.length, rd.length, hl, hnp]
    have l2 : vs.length = ps.length := by rw [rd.length, hl, hnp]
    have b1 : BindsTo s (PySem.W.fnOf name qual params body sc dV kV doc pm an cdv ct) ⟨us, []⟩ (ps.zip us) := by
      have z := hb s us (e0.mod.kin.keeps fun b o e => (e0.bs b o e).1) (by rw [List.append_nil]; exact l1)
      rw [List.append_nil] at z
      exact z
    refine LamX.run_ofS (N := N) (ps := ps) (us := us) (vs := vs) lk hcd S hr e0 b1 rv l2 fun hr' => ⟨_, hbody A outer s H Ex hr', W, M, _, Sm, rels_args rd (k := g.nn - g.np) (by omega), ?_⟩
    cases q : evSs (fnsN tab same n) same g.body (ds.map some ++ List.replicate (g.nn - g.np) none) M with
    | no => rw [q] at h; exact h.elim
    | ex c x m => rw [q] at h; exact h
    | ok p m =>
      obtain ⟨fl, sd'⟩ := p
      rw [q] at h
      intro W1 H1 l S1
      cases fl with
      | nx => exact fun σ' R' => h W1 _ H1 l S1 .non
      | brk => exact h.elim
      | cont => exact h.elim
      | ret d => exact fun v r1 => h W1 v H1 l S1 r1
  · exact h.elim
end SS
end PT_SQ
section PT_SR
set_option Elab.async false
set_option linter.all false
set_option maxRecDepth 100000
set_option maxHeartbeats 2000000
/-! What the checker looks at: small tests on the syntax. -/
namespace SS
open PySem PySem.Spec PyProof.Rows L2
def notStar : Expr → Bool
  | .Starred .. => false
  | _ => true
theorem starEach_cons {e : Expr} (h : notStar e = true) (es : List Expr) (env : PySem.Env) : starEach (e :: es) env = (false, eval e env) :: starEach es env := by
  cases e <;> first | rfl | cases h
theorem starEach_any : ∀ {es : List Expr}, es.all notStar = true → ∀ (pos : Pos) (env : PySem.Env), (backTo pos (starEach es env)).any (·.1) = false
  | [], _, _, _ => rfl
  | e :: es, h, pos, env => by
    simp only [List.all_cons, Bool.and_eq_true] at h
    rw [starEach_cons h.1]
    exact starEach_any h.2 pos env
/-- an index that is read as it is written -/
def plainIx : Expr → Bool
  | .Name .. => true
  | .Constant .. => true
  | .BinOp .. => true
  | .UnaryOp .. => true
  | .Subscript .. => true
  | .Call .. => true
  | .IfExp .. => true
  | _ => false
theorem plainIx_ok {e : Expr} (h : plainIx e = true) : PlainIx e := by
  cases e <;> first | (cases h; done) | exact fun _ _ => rfl
/-- a test whose truth is asked of its value -/
def plainT : Expr → Bool
  | .Name .. => true
  | .Subscript .. => true
  | .Call .. => true
  | .Attribute .. => true
  | .BinOp .. => true
  | .List .. => true
  | .Tuple .. => true
  | _ => false
theorem plainT_ok {e : Expr} (h : plainT e = true) (env : PySem.Env) : ∀ whole, isTrue e env whole = (do let v ← whole; standAt e.pos; holding [v] (truthy v)) := by
  cases e <;> first | (cases h; done) | exact fun _ => rfl
/-- an object whose method is called as written -/
def plainM : Expr → Bool
  | .Name .. => true
  | .Constant .. => true
  | .Subscript .. => true
  | .BinOp .. => true
  | .List .. => true
  | _ => false
def visB (sc : Scope) (x : Str) : Bool := match sc.names.lookup x with
  | some .local => true
  | some .cell => true
  | some .free => true
  | _ => false
theorem visB_ok {sc : Scope} {x : Str} (h : visB sc x = true) : Vis sc x := by
  unfold visB at h
  split at h
  · exact .inl ‹_›
  · exact .inr (.inl ‹_›)
  · exact .inr (.inr ‹_›)
  · cases h
def locB (sc : Scope) (x : Str) : Bool := match sc.names.lookup x with
  | some .local => true
  | some .cell => true
  | _ => false
theorem locB_ok {sc : Scope} {x : Str} (h : locB sc x = true) : Loc sc x := by
  unfold locB at h
  split at h
  · exact .inl ‹_›
  · exact .inr ‹_›
  · cases h
def glB (sc : Scope) (x : Str) : Bool := match sc.names.lookup x with
  | some .globalImplicit => true
  | _ => false
theorem glB_ok {X : Cx} {x : Str} (h : glB X.env.scope x = true) : Gl X x := by
  unfold glB at h
  split at h
  · rename_i e
    exact e
  · cases h
/-- a name that is no odd one -/
def okN (x : Str) : Bool := !(x == ("__debug__" : Str)) && !(x == ("__classdict__" : Str)) && !(x == ("" : Str))
theorem okN_ok {x : Str} (h : okN x = true) : (x == ("__debug__" : Str)) = false ∧ (x == ("__classdict__" : Str)) = false := by
  unfold okN at h
  simp only [Bool.and_eq_true, Bool.not_eq_true'] at h
  exact h.1
theorem okN_e {x : Str} (h : okN x = true) : (x == ("" : Str)) = false := by
  unfold okN at h
  simp only [Bool.and_eq_true, Bool.not_eq_true'] at h
  exact h.2
/-- attribute of a plain thing -/
theorem plainM_ok {e : Expr} (h : plainM e = true) (n : Str) (env : PySem.Env) : attributeBase e n env (eval e env) = eval e env := by
  cases e <;> first | (cases h; done) | rfl
theorem fewArgs {es : List Expr} (h : es.all notStar = true) (hl : es.length < 29) (pos : Pos) (env : PySem.Env) : ((backTo pos (starEach es env)).all (fun x => !x.1) && (backToKw pos (keywordEach [] env)).all (fun x => x.1.isSome) && decide (es.length + ([] : List Keyword).length + (if ([] : List Keyword).isEmpty then 0 else 1) < 30)) = true := by
  have h1 : (backTo pos (starEach es env)).all (fun x => !x.1) = true := by
    have := starEach_any h pos env
    rw [List.any_eq_false] at this
    exact List.all_eq_true.mpr fun x hx => by simpa using this x hx
  rw [h1]
  show (true && true && decide (es.length + 0 + 0 < 30)) = true
  simp only [Bool.and_self, Bool.true_and, decide_eq_true_eq]
  omega
end SS
end PT_SR
section PT_SS1
set_option Elab.async false
set_option linter.all false
set_option maxRecDepth 100000
set_option maxHeartbeats 2000000
/-! The checker: the IR against the syntax. -/
namespace SS
open PySem PySem.Spec PyProof.Rows L2
/-- the names of a def, the scope that runs, the module's names -/
structure CC where
  N : List Str
  sc : Scope
  fns : List (Str × Nat)
  gls : List (Str × D)
  exs : List Str
  hd : Str
  tl : Str
  rf : Str
  lam : Bool
  fnc : Bool
/-- within a comprehension; within a lambda -/
abbrev CC.at (C : CC) (sc : Scope) : CC := { C with sc := sc, lam := false, fnc := false }
mutual
/-- equal data -/
def dEq : D → D → Bool
  | .none, .none => true
  | .bool a, .bool b => a == b
  | .int a, .int b => decide (a = b)
  | .str a, .str b => decide (a = b)
  | .tuple a, .tuple b => dEqs a b
  | .list a, .list b => dEqs a b
  | _, _ => false
def dEqs : List D → List D → Bool
  | [], [] => true
  | a :: as, b :: bs => dEq a b && dEqs as bs
  | _, _ => false
end
mutual
theorem dEq_ok : ∀ {a b : D}, dEq a b = true → a = b
  | .none, b, h => by cases b <;> first | rfl | exact Bool.noConfusion (show false = true from h)
  | .bool a, b, h => by
    cases b <;> first | exact Bool.noConfusion (show false = true from h) | skip
    exact congrArg _ (beq_iff_eq.mp (show (a == _) = true from h))
  | .int a, b, h => by
    cases b <;> first | exact Bool.noConfusion (show false = true from h) | skip
    exact congrArg _ (of_decide_eq_true (show decide (a = _) = true from h))
  | .str a, b, h => by
    cases b <;> first | exact Bool.noConfusion (show false = true from h) | skip
    exact congrArg _ (of_decide_eq_true (show decide (a = _) = true from h))
  | .tuple a, b, h => by
    cases b <;> first | exact Bool.noConfusion (show false = true from h) | skip
    exact congrArg _ (dEqs_ok (show dEqs a _ = true from h))
  | .list a, b, h => by
    cases b <;> first | exact Bool.noConfusion (show false = true from h) | skip
    exact congrArg _ (dEqs_ok (show dEqs a _ = true from h))
  | .dict a, b, h => by cases b <;> exact Bool.noConfusion (show false = true from h)
theorem dEqs_ok : ∀ {a b : List D}, dEqs a b = true → a = b
  | [], [], _ => rfl
  | [], _ :: _, h => Bool.noConfusion (show false = true from h)
  | _ :: _, [], h => Bool.noConfusion (show false = true from h)
  | a :: as, b :: bs, h => by
    have h : (dEq a b && dEqs as bs) = true := h
    simp only [Bool.and_eq_true] at h
    rw [dEq_ok h.1, dEqs_ok h.2]
end
def glHas (C : CC) (x : Str) (d : D) : Bool := C.gls.any fun p => decide (p.1 = x) && dEq p.2 d
theorem glHas_ok {C : CC} {x : Str} {d : D} (h : glHas C x d = true) : (x, d) ∈ C.gls := by
  unfold glHas at h
  obtain ⟨p, hp, q⟩ := List.any_eq_true.mp h
  simp only [Bool.and_eq_true, decide_eq_true_eq] at q
  have e := dEq_ok q.2
  obtain ⟨p1, p2⟩ := p
  obtain ⟨q1, _⟩ := q
  simp only at q1 e
  subst q1
  subst e
  exact hp
/-- a lambda without parameters -/
def noArgs (a : Arguments) : Bool := a.posonlyargs.isEmpty && a.args.isEmpty && a.vararg.isNone && a.kwonlyargs.isEmpty && a.kw_defaults.isEmpty && a.kwarg.isNone && a.defaults.isEmpty
theorem noArgs_ok {a : Arguments} (h : noArgs a = true) : a = ⟨[], [], none, [], [], none, []⟩ := by
  obtain ⟨a, b, c, d, e, f, g⟩ := a
  simp only [noArgs, Bool.and_eq_true, List.isEmpty_iff, Option.isNone_iff_eq_none] at h
  obtain ⟨⟨⟨⟨⟨⟨rfl, rfl⟩, rfl⟩, rfl⟩, rfl⟩, rfl⟩, rfl⟩ := h
  rfl
/-- a call whose first argument is a lambda -/
def lamView : Expr → Option (Str × Arguments × Expr × Scope × List Expr)
  | .Call (.Name x _) (.Lambda pr b scope _ :: ys) [] _ => some (x, pr, b, scope, ys)
  | _ => none
theorem lamView_ok {e b : Expr} {x : Str} {pr : Arguments} {scope : Scope} {ys : List Expr} (h : lamView e = some (x, pr, b, scope, ys)) : ∃ p lp pos, e = .Call (.Name x p) (.Lambda pr b scope lp :: ys) [] pos := by
  unfold lamView at h
  split at h
  · cases h
    exact ⟨_, _, _, rfl⟩
  · cases h
def isTupE : Expr → Bool
  | .Tuple .. => true
  | _ => false
/-- no display of a set -/
def noSet : Expr → Bool
  | .Set .. => false
  | _ => true
theorem noSet_ok {e : Expr} (h : noSet e = true) (env : PySem.Env) : ∀ x, foldedSetIterable e env x = pure x := by
  intro x
  cases e <;> first | rfl | cases h
def ownN (C : CC) (own : List Nat) : List (Str × Nat) := own.filterMap fun j => (C.N[j]?).map fun n => (n, j)
def isName (i : Nat) (C : CC) (x : Str) : Bool := decide (C.N[i]? = some x) && visB C.sc x && okN x
def isFn (C : CC) (x : Str) (f : Nat) : Bool := C.fns.contains (x, f) && glB C.sc x && okN x
def isBi (C : CC) (x b : Str) : Bool := decide (x = b) && glB C.sc x
def bopB : Bop → Operator → Bool
  | .add, .Add => true
  | .sub, .Sub => true
  | .mul, .Mult => true
  | .fdiv, .FloorDiv => true
  | .mod, .Mod => true
  | .pow, .Pow => true
  | .shl, .LShift => true
  | .shr, .RShift => true
  | .band, .BitAnd => true
  | .bor, .BitOr => true
  | _, _ => false
def copB : Cop → CmpOp → Bool
  | .eq, .Eq => true
  | .ne, .NotEq => true
  | .lt, .Lt => true
  | .le, .LtE => true
  | .gt, .Gt => true
  | .ge, .GtE => true
  | .isin, .In => true
  | .notin, .NotIn => true
  | .is, .Is => true
  | .isnot, .IsNot => true
  | _, _ => false
theorem bopB_ok {o : Bop} {p : Operator} (h : bopB o p = true) : p = bopOf o := by
  cases o <;> cases p <;> first | rfl | cases h
theorem copB_ok {o : Cop} {p : CmpOp} (h : copB o p = true) : p = copOf o := by
  cases o <;> cases p <;> first | rfl | cases h
def k1B : K1 → Const → Bool
  | .non, .none => true
  | .bl b, .bool c => b == c
  | .int i, .int j => decide (i = j)
  | .str x, .str y => decide (x = y)
  | _, _ => false
mutual
/-- a target -/
def chkG (C : CC) : Tg → Expr → Bool
  | .nm i, .Name x _ => decide (C.N[i]? = some x) && (decide (C.sc.names.lookup x = some .local) || (C.fnc && locB C.sc x))
  | .tup ts, .Tuple xs _ _ => chkGs C ts xs
  | _, _ => false
def chkGs (C : CC) : Tgs → List Expr → Bool
  | .nil, [] => true
  | .cons t ts, x :: xs => notStar x && chkG C t x && chkGs C ts xs
  | _, _ => false
end
mutual
/-- an expression -/
def chkE (t : Bool) (C : CC) : E → Expr → Bool
  | .c k, .Constant c _ _ => !t && k1B k c
  | .v i, .Name x _ => isName i C x
  | .tup es, .Tuple xs _ _ => chkEs C es xs
  | .lst _ es, .List xs _ => chkEs C es xs
  | .bin _ o a b, .BinOp x p y _ => bopB o p && chkE false C a x && chkE false C b y
  | .neg a, .UnaryOp .USub x _ => !t && chkE false C a x
  | .nt a, .UnaryOp .Not x _ => chkE t C a x
  | .an a b, .BoolOp .And [x, y] _ => chkE t C a x && chkE t C b y
  | .an a b, .BoolOp .And (x :: y :: z :: r) p => chkE t C a x && chkE t C b (.BoolOp .And (y :: z :: r) p)
  | .orr a b, .BoolOp .Or [x, y] _ => chkE t C a x && chkE t C b y
  | .orr a b, .BoolOp .Or (x :: y :: z :: r) p => chkE t C a x && chkE t C b (.BoolOp .Or (y :: z :: r) p)
  | .ite c a b, .IfExp z x y _ => !t && chkE true C c z && chkE false C a x && chkE false C b y
  | .cmp o a b, .Compare x [p] [y] _ => copB o p && chkE false C a x && chkE false C b y && !behindInMarks p y
  | .chain o o' a b c, .Compare x [p, p'] [y, z] _ => copB o p && copB o' p' && chkE false C a x && chkE false C b y && chkE false C c z && !behindInMarks p y && !behindInMarks p' z && !lastMarks [p, p'] [y, z]
  | .ix a b, .Subscript x y _ => chkE false C a x && chkE false C b y && plainIx y
  | .sl _ a lo hi, .Subscript x (.Slice l h none _) _ => chkE false C a x && chkO C lo l && chkO C hi h
  | .call _ f es, .Call (.Name x _) xs [] _ => isFn C x f && chkEs C es xs
  | .callv i es, .Call (.Name x _) (y :: ys) [] _ => isName i C x && chkEs C es (y :: ys)
  | .bi _ _ b es, .Call (.Name x _) (y :: ys) [] _ => isBi C x (biN b) && chkEs C es (y :: ys)
  | .me _ b a es, .Call (.Attribute x n ap) ys [] p => decide (n = meN b) && plainM x && (ap.endLine == p.line) && decide (ys.length < 29) && chkE false C a x && chkEs C es ys
  | .isi _ _ a t, .Call (.Name x _) [y, .Name z _] [] _ => isBi C x "isinstance" && isBi C z (tyN t) && notStar y && chkE false C a y
  | .g _ d, .Name x _ => glHas C x d && glB C.sc x && okN x
  | .fn _ f, .Name x _ => isFn C x f
  | .comp _ elt tg it ifs own, .ListComp x [⟨tt, i, fs, as⟩] scope _ => !t && decide (as = 0) && blkC C.N C.sc scope (ownN C own) && decide ((ownN C own).map (·.2) = own) && chkI C tt it i && tgIn own tg && noSet i && chkG (C.at (relS scope C.sc)) tg tt && chkF (C.at (relS scope C.sc)) ifs fs && chkE false (C.at (relS scope C.sc)) elt x
  | .heard _ a, e => (match lamView e with
    | some (x, pr, b, scope, []) => decide (x = C.hd) && glB C.sc x && okN x && noArgs pr && C.lam && LamX.lamSB C.sc scope && chkE false (C.at scope) a b
    | _ => false)
  | .tells _ a b, e => (match lamView e with
    | some (x, pr, z, scope, [y]) => decide (x = C.tl) && glB C.sc x && okN x && noArgs pr && C.lam && LamX.lamSB C.sc scope && chkE false (C.at scope) a z && chkE false C b y && notStar y
    | _ => false)
  | .refuses _ a b c, e => (match lamView e with
    | some (x, pr, z, scope, [y, u]) => decide (x = C.rf) && glB C.sc x && okN x && noArgs pr && C.lam && LamX.lamSB C.sc scope && chkE false (C.at scope) a z && chkE false C b y && chkE false C c u && notStar y && notStar u
    | _ => false)
  | _, _ => false
def chkO (C : CC) : Oe → Option Expr → Bool
  | .none, none => true
  | .some a, some x => chkE false C a x
  | _, _ => false
def chkF (C : CC) : Oe → List Expr → Bool
  | .none, [] => true
  | .some a, [x] => chkE true C a x
  | _, _ => false
def chkEs (C : CC) : Es → List Expr → Bool
  | .nil, [] => true
  | .cons a as, x :: xs => notStar x && chkE false C a x && chkEs C as xs
  | _, _ => false
def chkI (C : CC) (tt : Expr) : It → Expr → Bool
  | .e a, x => chkE false C a x
  | .range _ es, .Call (.Name x _) (y :: ys) [] _ => isBi C x "range" && chkEs C es (y :: ys)
  | .enum _ a, .Call (.Name x _) [y] [] _ => isTupE tt && isBi C x "enumerate" && notStar y && chkE false C a y
  | .zip _ a b, .Call (.Name x _) [y, z] [] _ => isTupE tt && isBi C x "zip" && notStar y && notStar z && chkE false C a y && chkE false C b z
  | _, _ => false
end
end SS
end PT_SS1
section PT_SS2
set_option Elab.async false
set_option linter.all false
set_option maxRecDepth 100000
set_option maxHeartbeats 2000000
/-! The checker is sound (begun). -/
namespace SS
open PySem PySem.Spec PyProof.Rows L2
def biNames : List Str := ["len", "int", "str", "list", "tuple", "max", "min", "sum", "any", "all", "isinstance", "range", "enumerate", "zip", "bool"]
/-- what the law's head must give; r: the room of a def's call -/
structure LW (P : Pm) (F : Fns) (same : Nat) (C : CC) (prog : Program) (w : World) (mg : Str → Option Value) (base : Heap) (r : Nat) : Prop where
  call : ∀ x f, C.fns.contains (x, f) = true → ∃ a, P.fa f = some a ∧ mg x = some (.ref a)
  fns : ∀ f a, P.fa f = some a → PySem.W.keepIn P.K (.ref a) = true ∧ FnS P F prog w mg base r f
  bi : ∀ x ∈ biNames, mg x = none
  gl : ∀ x d, (x, d) ∈ C.gls → ∃ v u, mg x = some u ∧ RelV v u ∧ ∀ W, VD P W d v
  hd : ∃ ha, mg C.hd = some (.ref ha) ∧ PySem.W.keepIn P.K (.ref ha) = true ∧ FnHd P prog w mg base (r + 2) (r + 1) ha
  tl : (C.tl == "") = false → ∃ ha, mg C.tl = some (.ref ha) ∧ PySem.W.keepIn P.K (.ref ha) = true ∧ FnTl P F same prog w mg base (r + 3) (r + 1) ha 1 gTells
  rf : (C.rf == "") = false → ∃ ha, mg C.rf = some (.ref ha) ∧ PySem.W.keepIn P.K (.ref ha) = true ∧ FnTl P F same prog w mg base (r + 3) (r + 1) ha 2 gRef
  r1 : 1 ≤ r
  exs : ∀ c ∈ C.exs, ∃ k, k + 1 ≤ r ∧ ExcIn P prog w mg base k c
theorem LW.at {P : Pm} {F : Fns} {same : Nat} {C : CC} {prog : Program} {w : World} {mg : Str → Option Value} {base : Heap} {r : Nat} (L : LW P F same C prog w mg base r) (sc : Scope) : LW P F same (C.at sc) prog w mg base r := ⟨L.call, L.fns, L.bi, L.gl, L.hd, L.tl, L.rf, L.r1, L.exs⟩
structure XOk (P : Pm) (wx : WX) (C : CC) (r n : Nat) (X : Cx) : Prop where
  fx : Fx P n X
  nz : n ≠ 0
  rn : r ≤ n
  N : X.N = C.N
  sc : X.env.scope = C.sc
  tk : L2N.Takes X wx
  fnc : C.fnc = true → ∀ x, X.fn x = true
  lam : C.lam = true → r + 3 ≤ n ∧ ∃ c Pt, LamX.TabB X.base X.mg c Pt ∧ X.env.code = .ref c ∧ (Pt, X.env.qual ++ "<lambda>") ∈ P.T ∧ ∀ p ∈ P.T, p.1 = Pt → p.2 = X.env.qual ++ "<lambda>"
section
variable {P : Pm} {F : Fns} {same : Nat} {wx : WX} {X : Cx} {C : CC} {r n : Nat}
theorem k1B_ok {k : K1} {c : Const} {j : Nat} {p : Pos} (h : k1B k c = true) : PE X (.Constant c j p) (tE P F same wx (.c k)) := by
  cases k <;> cases c <;> first | (cases h; done) | skip
  · exact s_non
  · have e := beq_iff_eq.mp h
    subst e
    exact s_bl
  · have e := of_decide_eq_true h
    subst e
    exact s_int
  · have e := of_decide_eq_true h
    subst e
    exact s_str
theorem name_ok {i : Nat} {x : Str} {p : Pos} (O : XOk P wx C r n X) (h : isName i C x = true) : PE X (.Name x p) (tE P F same wx (.v i)) := by
  unfold isName at h
  simp only [Bool.and_eq_true, decide_eq_true_eq] at h
  obtain ⟨⟨h1, h2⟩, h3⟩ := h
  exact s_var (by rw [O.N]; exact h1) (by rw [O.sc]; exact visB_ok h2) (okN_ok h3).1 (okN_ok h3).2
theorem blk_ok {s : Shared} {H : Hp} {Ca : Addr} {cl : List (Str × Addr)} {fp : List Addr} {scope : Scope} (O : XOk P wx C r n X) : XOk P fx0 (C.at (relS scope C.sc)) r n (X.blk s H scope (compEnvC scope cl Ca X.env) fp) :=
  ⟨⟨O.fx.K, O.fx.nd, O.fx.calm, O.fx.room, O.fx.roomH⟩, O.nz, O.rn, O.N, by
    show relabel scope X.env = relS scope C.sc
    rw [← O.sc]
    rfl, fun u s' x => by
    obtain ⟨_, _, _, _, _, _, _, _, _, _, _, _, _, _, _, _, z⟩ := x
    exact z.elim, fun z => (by cases z), fun z => (by cases z)⟩
theorem lam_ok {A : Around} {outer : List PySem.Env} {s : Shared} {H : Hp} {Ex : XK} {scope : Scope} {f c' : Addr} (O : XOk P wx C r n X) (hr1 : 1 ≤ r) (hr : Room r (A.deeper (LamX.lamEnv X scope s.heap.objs.size f c'))) : XOk P (fun cls d _ H' => Ex cls d H') (C.at scope) r r (lamN X A outer s H Ex scope f c') :=
  ⟨⟨O.fx.K, O.fx.nd, fun _ => rfl, fun _ => hr, L2H.roomH_of hr⟩, by omega, Nat.le_refl _, O.N, rfl, lamN_takes, fun z => (by cases z), fun z => (by cases z)⟩
theorem lamAt_ok {params : Arguments} {body : Expr} {scope : Scope} (O : XOk P wx C r n X) (hl : C.lam = true) (h1 : noArgs params = true) (h2 : LamX.lamSB C.sc scope = true) : LamAt P X params body scope := by
  have e := noArgs_ok h1
  subst e
  obtain ⟨_, c, Pt, a1, a2, a3, a4⟩ := O.lam hl
  refine ⟨⟨c, Pt, a1, a2, a3, a4⟩, by rw [O.sc]; exact LamX.lamS_by h2, rfl, fun _ _ _ _ _ => rfl⟩
theorem tgs_each : ∀ {ts : Tgs} {es : List Expr} {C : CC} (env : PySem.Env), chkGs C ts es = true → (assignEach es env).length = tgN ts ∧ (assignEach es env).findIdx? (·.1) = none
  | .nil, es, C, env, h => by
    cases es <;> first | exact Bool.noConfusion (show false = true from h) | exact ⟨rfl, rfl⟩
  | .cons t ts, es, C, env, h => by
    cases es with
    | nil => exact Bool.noConfusion (show false = true from h)
    | cons e es =>
      have h : (notStar e && chkG C t e && chkGs C ts es) = true := h
      simp only [Bool.and_eq_true] at h
      obtain ⟨i1, i2⟩ := tgs_each env h.2
      have e1 : assignEach (e :: es) env = (false, assign e env) :: assignEach es env := by
        cases e <;> first | rfl | exact Bool.noConfusion (show false = true from h.1.1)
      rw [e1]
      exact ⟨by simp [tgN, i1], by simp [List.findIdx?_cons, i2]⟩
mutual
theorem snd_G : ∀ (g : Tg) {t : Expr} {X : Cx} {C : CC} {wx : WX} {n : Nat}, XOk P wx C r n X → chkG C g t = true → PG X t (gT P.K g)
  | .nm i, t, X, C, wx, n, O, h => by
    cases t <;> first | exact Bool.noConfusion (show false = true from h) | skip
    rename_i x p
    have h : (decide (C.N[i]? = some x) && (decide (C.sc.names.lookup x = some .local) || (C.fnc && locB C.sc x))) = true := h
    simp only [Bool.and_eq_true, Bool.or_eq_true, decide_eq_true_eq] at h
    refine pg_name O.fx.nd (by rw [O.N]; exact h.1) (by rw [O.sc]; exact h.2.elim .inl fun z => locB_ok z.2) ?_
    rw [O.sc]
    exact h.2.elim .inr fun z => .inl (O.fnc z.1 x)
  | .tup ts, t, X, C, wx, n, O, h => by
    cases t <;> first | exact Bool.noConfusion (show false = true from h) | skip
    rename_i es k p
    have h : chkGs C ts es = true := h
    obtain ⟨h1, h2⟩ := tgs_each X.env h
    have q := pg_tup (k := k) (pos := p) (O.fx.calm O.nz) (snd_Gs ts O h) h1 h2
    rw [O.fx.K] at q
    exact q
theorem snd_Gs : ∀ (g : Tgs) {t : List Expr} {X : Cx} {C : CC} {wx : WX} {n : Nat}, XOk P wx C r n X → chkGs C g t = true → PGs X t (gTs P.K g)
  | .nil, t, X, C, wx, n, O, h => by
    cases t <;> first | exact Bool.noConfusion (show false = true from h) | exact pgs_nil
  | .cons g gs, t, X, C, wx, n, O, h => by
    cases t with
    | nil => exact Bool.noConfusion (show false = true from h)
    | cons e es =>
      have h : (notStar e && chkG C g e && chkGs C gs es) = true := h
      simp only [Bool.and_eq_true] at h
      refine pgs_cons (snd_G g O h.1.2) (snd_Gs gs O h.2) ?_
      cases e <;> first | rfl | exact Bool.noConfusion (show false = true from h.1.1)
end
theorem tg_tup {C : CC} {g : Tg} {t : Expr} (h : chkG C g t = true) (q : isTupE t = true) : isTup g = true := by
  cases g <;> cases t <;> first | rfl | exact Bool.noConfusion (show false = true from h) | exact Bool.noConfusion (show false = true from q)
end
end SS
end PT_SS2
section PT_SS2b
set_option Elab.async false
set_option linter.all false
set_option maxRecDepth 100000
set_option maxHeartbeats 4000000
namespace SS
open PySem PySem.Spec PyProof.Rows L2
section
variable {C : CC} {ea : Expr}
theorem ct_call {i f : Nat} {es : Es} : chkE true C (.call i f es) ea = chkE false C (.call i f es) ea := by
  cases ea <;> first | rfl | skip
  rename_i fn xs kws p
  cases fn <;> cases kws <;> first | rfl | (cases xs <;> rfl)
theorem ct_callv {i : Nat} {es : Es} : chkE true C (.callv i es) ea = chkE false C (.callv i es) ea := by
  cases ea <;> first | rfl | skip
  rename_i fn xs kws p
  cases fn <;> cases kws <;> cases xs <;> rfl
theorem ct_bi {i : Nat} {fz : Bool} {b : BI} {es : Es} : chkE true C (.bi i fz b es) ea = chkE false C (.bi i fz b es) ea := by
  cases ea <;> first | rfl | skip
  rename_i fn xs kws p
  cases fn <;> cases kws <;> cases xs <;> rfl
theorem ct_me {fz : Bool} {m : ME} {a : E} {es : Es} : chkE true C (.me fz m a es) ea = chkE false C (.me fz m a es) ea := by
  cases ea <;> first | rfl | skip
  rename_i fn xs kws p
  cases fn <;> cases kws <;> rfl
theorem ct_isi {i j : Nat} {a : E} {t : Ty} : chkE true C (.isi i j a t) ea = chkE false C (.isi i j a t) ea := by
  cases ea <;> first | rfl | skip
  rename_i fn xs kws p
  rcases xs with _ | ⟨y, _ | ⟨z, _ | ⟨z2, r⟩⟩⟩ <;> cases fn <;> cases kws <;> first | rfl | (cases z <;> rfl)
theorem ct_tells {i : Nat} {a b : E} : chkE true C (.tells i a b) ea = chkE false C (.tells i a b) ea := rfl
theorem ct_refuses {i : Nat} {a b c : E} : chkE true C (.refuses i a b c) ea = chkE false C (.refuses i a b c) ea := rfl
theorem ct_sl {fz : Bool} {a : E} {lo hi : Oe} : chkE true C (.sl fz a lo hi) ea = chkE false C (.sl fz a lo hi) ea := by
  cases ea <;> first | rfl | skip
  rename_i x y p
  cases y <;> first | rfl | skip
  rename_i l u st p2
  cases st <;> rfl
theorem ct_heard {i : Nat} {a : E} : chkE true C (.heard i a) ea = chkE false C (.heard i a) ea := rfl
theorem ct_comp {fz : Bool} {elt : E} {g : Tg} {it : It} {io : Oe} {own : List Nat} : chkE true C (.comp fz elt g it io own) ea = false := by
  cases ea <;> first | rfl | skip
  rename_i x gens sc p
  rcases gens with _ | ⟨⟨tt, i, fs, as⟩, _ | ⟨g2, r⟩⟩ <;> rfl
section
variable {P : Pm} {F : Fns} {same n : Nat} {wx : WX} {X : Cx} {a b c : E} {ea eb ec : Expr} {pos : Pos}
theorem s_tchain (fx : Fx P n X) (o o' : Cop) (ha : PE X ea (tE P F same wx a)) (hb : PE X eb (tE P F same wx b)) (hc : PE X ec (tE P F same wx c)) (h1 : behindInMarks (copOf o) eb = false) (h2 : behindInMarks (copOf o') ec = false)
    (hm : lastMarks [copOf o, copOf o'] [eb, ec] = false) : PT X (.Compare ea [copOf o, copOf o'] [eb, ec] pos) (tT P F same wx (.chain o o' a b c)) :=
  PT_imp (pt_chain op_goes op_goes ha hb hc hm) fun σ H Q ⟨W, M, sd, S, Rl, h⟩ => by
    unfold evT at h
    simp only [evE, bind_assoc] at h
    exact at_E S Rl h fun W1 d m1 v H1 S1 R1 _ r1 h1 => at_E S1 R1 h1 fun W2 e m2 w H2 S2 R2 l r2 h2 => by
      refine go_cmp' fx S2 o (S2.rd (r1.up l)) (S2.rd r2) (S2.dr r2) (h2.bind RB) fun b H' ⟨W3, c', m3, l3, S3, e3, h3⟩ => ⟨b, rfl, ?_⟩
      have e3 : c' = b := e3
      subst e3
      cases c' with
      | false => exact ⟨false, rfl, h3.val S3 rfl⟩
      | true =>
        have h3 : Out P RB W3 (fun c d H' => wx c d σ H') ((evE F same c sd m3).bind fun z m => (cop o' e z m).bind fun k m => truth (.bool k) m) Q := by
          simpa only [if_true, bind_assoc, bind_ok] using h3
        refine at_E S3 (R2.up l3) h3 fun W4 z m4 q H4 S4 R4 l4 r4 h4 => ?_
        refine go_cmp' fx S4 o' (S4.rd ((r2.up l3).up l4)) (S4.rd r4) (S4.dr r4) (h4.bind RB) fun b H' ⟨W5, c5, m5, l5, S5, e5, h5⟩ => ?_
        have e5 : c5 = b := e5
        subst e5
        exact ⟨_, rfl, h5.val S5 rfl⟩
end
end
end SS
end PT_SS2b
section PT_SS3
set_option Elab.async false
set_option linter.all false
set_option maxRecDepth 100000
set_option maxHeartbeats 4000000
namespace SS
open PySem PySem.Spec PyProof.Rows L2
theorem chkEs_star {C : CC} : ∀ {as : Es} {es : List Expr}, chkEs C as es = true → es.all notStar = true
  | as, [], _ => rfl
  | .nil, _ :: _, h => Bool.noConfusion (show false = true from h)
  | .cons a as, x :: xs, h => by
    have h : (notStar x && chkE false C a x && chkEs C as xs) = true := h
    simp only [Bool.and_eq_true] at h
    simp only [List.all_cons, Bool.and_eq_true]
    exact ⟨h.1.1, chkEs_star h.2⟩
theorem call_heard {C : CC} {i : Nat} {a : E} {ea : Expr} (h : chkE false C (.heard i a) ea = true) : ∃ p xs pos, ea = .Call p xs [] pos := by
  have h : (match lamView ea with
    | some (x, pr, b, scope, []) => decide (x = C.hd) && glB C.sc x && okN x && noArgs pr && C.lam && LamX.lamSB C.sc scope && chkE false (C.at scope) a b
    | _ => false) = true := h
  split at h
  · rename_i hv
    obtain ⟨p, lp, pos, rfl⟩ := lamView_ok hv
    exact ⟨_, _, _, rfl⟩
  · cases h
theorem call_tells {C : CC} {i : Nat} {a b : E} {ea : Expr} (h : chkE false C (.tells i a b) ea = true) : ∃ p xs pos, ea = .Call p xs [] pos := by
  have h : (match lamView ea with
    | some (x, pr, z, scope, [y]) => decide (x = C.tl) && glB C.sc x && okN x && noArgs pr && C.lam && LamX.lamSB C.sc scope && chkE false (C.at scope) a z && chkE false C b y && notStar y
    | _ => false) = true := h
  split at h
  · rename_i hv
    obtain ⟨p, lp, pos, rfl⟩ := lamView_ok hv
    exact ⟨_, _, _, rfl⟩
  · cases h
theorem call_refuses {C : CC} {i : Nat} {a b c : E} {ea : Expr} (h : chkE false C (.refuses i a b c) ea = true) : ∃ p xs pos, ea = .Call p xs [] pos := by
  have h : (match lamView ea with
    | some (x, pr, z, scope, [y, u]) => decide (x = C.rf) && glB C.sc x && okN x && noArgs pr && C.lam && LamX.lamSB C.sc scope && chkE false (C.at scope) a z && chkE false C b y && chkE false C c u && notStar y && notStar u
    | _ => false) = true := h
  split at h
  · rename_i hv
    obtain ⟨p, lp, pos, rfl⟩ := lamView_ok hv
    exact ⟨_, _, _, rfl⟩
  · cases h
mutual
theorem snd_E {P : Pm} {F : Fns} {same r n : Nat} : ∀ (a : E) {ea : Expr} {X : Cx} {C : CC} {wx : WX}, LW P F same C X.prog X.w X.mg X.base r → XOk P wx C r n X → chkE false C a ea = true → PE X ea (tE P F same wx a)
  | .c k, ea, X, C, wx, L, O, h => by
    cases ea <;> first | exact Bool.noConfusion (show false = true from h) | skip
    exact k1B_ok h
  | .v i, ea, X, C, wx, L, O, h => by
    cases ea <;> first | exact Bool.noConfusion (show false = true from h) | skip
    exact name_ok O h
  | .tup es, ea, X, C, wx, L, O, h => by
    cases ea <;> first | exact Bool.noConfusion (show false = true from h) | skip
    exact s_tup (snd_Es es L O h)
  | .lst fz es, ea, X, C, wx, L, O, h => by
    cases ea <;> first | exact Bool.noConfusion (show false = true from h) | skip
    exact s_lst (snd_Es es L O h)
  | .bin fz o a b, ea, X, C, wx, L, O, h => by
    cases ea <;> first | exact Bool.noConfusion (show false = true from h) | skip
    rename_i x p y pos
    have h : (bopB o p && chkE false C a x && chkE false C b y) = true := h
    simp only [Bool.and_eq_true] at h
    rw [bopB_ok h.1.1]
    exact s_bin O.fx o (snd_E a L O h.1.2) (snd_E b L O h.2)
  | .ix a b, ea, X, C, wx, L, O, h => by
    cases ea <;> first | exact Bool.noConfusion (show false = true from h) | skip
    rename_i x y pos
    have h : (chkE false C a x && chkE false C b y && plainIx y) = true := h
    simp only [Bool.and_eq_true] at h
    exact s_ix O.fx (snd_E a L O h.1.1) (snd_E b L O h.1.2) (plainIx_ok h.2)
  | .neg a, ea, X, C, wx, L, O, h => by
    cases ea <;> first | exact Bool.noConfusion (show false = true from h) | skip
    rename_i op x pos
    cases op <;> first | exact Bool.noConfusion (show false = true from h) | skip
    exact s_neg (snd_E a L O h)
  | .nt a, ea, X, C, wx, L, O, h => by
    cases ea <;> first | exact Bool.noConfusion (show false = true from h) | skip
    rename_i op x pos
    cases op <;> first | exact Bool.noConfusion (show false = true from h) | skip
    exact s_nt O.fx (snd_E a L O h)
  | .an a b, ea, X, C, wx, L, O, h => by
    cases ea <;> first | exact Bool.noConfusion (show false = true from h) | skip
    rename_i op es pos
    cases op <;> first | exact Bool.noConfusion (show false = true from h) | skip
    rcases es with _ | ⟨x, _ | ⟨y, _ | ⟨z, r⟩⟩⟩ <;> first | exact Bool.noConfusion (show false = true from h) | skip
    · have h : (chkE false C a x && chkE false C b y) = true := h
      simp only [Bool.and_eq_true] at h
      exact s_and O.fx (snd_E a L O h.1) (s_one (snd_E b L O h.2))
    · have h : (chkE false C a x && chkE false C b (.BoolOp .And (y :: z :: r) pos)) = true := h
      simp only [Bool.and_eq_true] at h
      exact s_and O.fx (snd_E a L O h.1) (snd_E b L O h.2)
  | .orr a b, ea, X, C, wx, L, O, h => by
    cases ea <;> first | exact Bool.noConfusion (show false = true from h) | skip
    rename_i op es pos
    cases op <;> first | exact Bool.noConfusion (show false = true from h) | skip
    rcases es with _ | ⟨x, _ | ⟨y, _ | ⟨z, r⟩⟩⟩ <;> first | exact Bool.noConfusion (show false = true from h) | skip
    · have h : (chkE false C a x && chkE false C b y) = true := h
      simp only [Bool.and_eq_true] at h
      exact s_or O.fx (snd_E a L O h.1) (s_one (snd_E b L O h.2))
    · have h : (chkE false C a x && chkE false C b (.BoolOp .Or (y :: z :: r) pos)) = true := h
      simp only [Bool.and_eq_true] at h
      exact s_or O.fx (snd_E a L O h.1) (snd_E b L O h.2)
  | .cmp o a b, ea, X, C, wx, L, O, h => by
    cases ea <;> first | exact Bool.noConfusion (show false = true from h) | skip
    rename_i x ops ys pos
    rcases ops with _ | ⟨p, _ | ⟨p2, r⟩⟩ <;> rcases ys with _ | ⟨y, _ | ⟨y2, r2⟩⟩ <;> first | exact Bool.noConfusion (show false = true from h) | skip
    have h : (copB o p && chkE false C a x && chkE false C b y && !behindInMarks p y) = true := h
    simp only [Bool.and_eq_true, Bool.not_eq_true'] at h
    obtain ⟨⟨⟨h1, h2⟩, h3⟩, h4⟩ := h
    have e := copB_ok h1
    subst e
    exact s_cmp O.fx o (snd_E a L O h2) (snd_E b L O h3) h4
  | .call i f es, ea, X, C, wx, L, O, h => by
    cases ea <;> first | exact Bool.noConfusion (show false = true from h) | skip
    rename_i fn xs kws pos
    cases fn <;> first | exact Bool.noConfusion (show false = true from h) | skip
    cases kws <;> first | exact Bool.noConfusion (show false = true from h) | skip
    rename_i x p
    have h : (isFn C x f && chkEs C es xs) = true := h
    unfold isFn at h
    simp only [Bool.and_eq_true] at h
    obtain ⟨⟨⟨h1, h2⟩, h3⟩, h4⟩ := h
    obtain ⟨fa, e1, e2⟩ := L.call x f h1
    obtain ⟨k1, k2⟩ := L.fns f fa e1
    have hrn := O.rn
    have hg : Gl X x := glB_ok (by rw [O.sc]; exact h2)
    cases xs with
    | nil =>
      cases es <;> first | exact Bool.noConfusion (show false = true from h4) | skip
      exact s_call0 O.fx O.nz O.tk k2 O.rn e1 k1 hg e2 (okN_ok h3).1
    | cons y ys =>
      have hs := chkEs_star h4
      simp only [List.all_cons, Bool.and_eq_true] at hs
      exact s_call O.fx O.nz O.tk k2 O.rn e1 k1 hg e2 (okN_ok h3).1 (snd_Es es L O h4) (starEach_cons hs.1 _ _) (starEach_any hs.2 _ _)
  | .sl fz a lo hi, ea, X, C, wx, L, O, h => by
    cases ea <;> first | exact Bool.noConfusion (show false = true from h) | skip
    rename_i x y pos
    cases y <;> first | exact Bool.noConfusion (show false = true from h) | skip
    rename_i l u st p2
    cases st <;> first | exact Bool.noConfusion (show false = true from h) | skip
    have h : (chkE false C a x && chkO C lo l && chkO C hi u) = true := h
    simp only [Bool.and_eq_true] at h
    exact s_sl O.fx (snd_E a L O h.1.1) (snd_O lo L O h.1.2) (snd_O hi L O h.2)
  | .callv i es, ea, X, C, wx, L, O, h => by
    cases ea <;> first | exact Bool.noConfusion (show false = true from h) | skip
    rename_i fn xs kws pos
    cases fn <;> first | exact Bool.noConfusion (show false = true from h) | skip
    cases kws <;> cases xs <;> first | exact Bool.noConfusion (show false = true from h) | skip
    rename_i x p y ys
    have h : (isName i C x && chkEs C es (y :: ys)) = true := h
    unfold isName at h
    simp only [Bool.and_eq_true, decide_eq_true_eq] at h
    obtain ⟨⟨⟨h1, h2⟩, h3⟩, h4⟩ := h
    have hs := chkEs_star h4
    simp only [List.all_cons, Bool.and_eq_true] at hs
    exact s_callv O.fx O.nz O.tk (fun f hf => (L.fns f _ (Option.get_mem hf |> fun z => z)).2) (fun f a e => (L.fns f a e).1) O.rn (by rw [O.N]; exact h1) (by rw [O.sc]; exact visB_ok h2) (okN_ok h3).1 (okN_ok h3).2 (snd_Es es L O h4) (starEach_cons hs.1 _ _) (starEach_any hs.2 _ _)
  | .bi i fz b es, ea, X, C, wx, L, O, h => by
    cases ea <;> first | exact Bool.noConfusion (show false = true from h) | skip
    rename_i fn xs kws pos
    cases fn <;> first | exact Bool.noConfusion (show false = true from h) | skip
    cases kws <;> cases xs <;> first | exact Bool.noConfusion (show false = true from h) | skip
    rename_i x p y ys
    have h : (isBi C x (biN b) && chkEs C es (y :: ys)) = true := h
    unfold isBi at h
    simp only [Bool.and_eq_true, decide_eq_true_eq] at h
    obtain ⟨⟨h1, h2⟩, h4⟩ := h
    subst h1
    have hs := chkEs_star h4
    simp only [List.all_cons, Bool.and_eq_true] at hs
    exact s_bi O.fx O.nz b (glB_ok (by rw [O.sc]; exact h2)) (L.bi _ (by cases b <;> decide)) (snd_Es es L O h4) (starEach_cons hs.1 _ _) (starEach_any hs.2 _ _)
  | .isi i j a ty, ea, X, C, wx, L, O, h => by
    cases ea <;> first | exact Bool.noConfusion (show false = true from h) | skip
    rename_i fn xs kws pos
    cases fn <;> first | exact Bool.noConfusion (show false = true from h) | skip
    rcases xs with _ | ⟨y, _ | ⟨z, _ | ⟨z2, r⟩⟩⟩ <;> first | exact Bool.noConfusion (show false = true from h) | skip
    · cases z <;> cases kws <;> first | exact Bool.noConfusion (show false = true from h) | skip
      rename_i x p z p2
      have h : (isBi C x "isinstance" && isBi C z (tyN ty) && notStar y && chkE false C a y) = true := h
      unfold isBi at h
      simp only [Bool.and_eq_true, decide_eq_true_eq] at h
      obtain ⟨⟨⟨⟨h1, h2⟩, h3, h4⟩, h5⟩, h6⟩ := h
      subst h1 h3
      exact s_isi O.fx ty (glB_ok (by rw [O.sc]; exact h2)) (L.bi _ (by decide)) (glB_ok (by rw [O.sc]; exact h4)) (L.bi _ (by cases ty <;> decide)) (snd_E a L O h6) (starEach_cons h5 _ _)
    · cases z <;> cases kws <;> exact Bool.noConfusion (show false = true from h)
  | .me fz b a es, ea, X, C, wx, L, O, h => by
    cases ea <;> first | exact Bool.noConfusion (show false = true from h) | skip
    rename_i fn ys kws p
    cases fn <;> cases kws <;> first | exact Bool.noConfusion (show false = true from h) | skip
    rename_i x nm ap
    have h : (decide (nm = meN b) && plainM x && (ap.endLine == p.line) && decide (ys.length < 29) && chkE false C a x && chkEs C es ys) = true := h
    simp only [Bool.and_eq_true, decide_eq_true_eq] at h
    obtain ⟨⟨⟨⟨⟨h1, h2⟩, h3⟩, h4⟩, h5⟩, h6⟩ := h
    subst h1
    cases ys with
    | nil =>
      cases es <;> first | exact Bool.noConfusion (show false = true from h6) | skip
      exact s_me0 O.fx b (snd_E a L O h5) (plainM_ok h2 _ _) h3
    | cons y ys =>
      have hs := chkEs_star h6
      have hs2 := hs
      simp only [List.all_cons, Bool.and_eq_true] at hs2
      exact s_me O.fx b (snd_E a L O h5) (snd_Es es L O h6) (plainM_ok h2 _ _) (fewArgs hs h4 _ _) h3 (starEach_cons hs2.1 _ _) (starEach_any hs2.2 _ _)
  | .ite c a b, ea, X, C, wx, L, O, h => by
    cases ea <;> first | exact Bool.noConfusion (show false = true from h) | skip
    rename_i z x y pos
    have h : (chkE true C c z && chkE false C a x && chkE false C b y) = true := h
    simp only [Bool.and_eq_true] at h
    exact s_ite (snd_T c L O h.1.1) (snd_E a L O h.1.2) (snd_E b L O h.2)
  | .g i d, ea, X, C, wx, L, O, h => by
    cases ea <;> first | exact Bool.noConfusion (show false = true from h) | skip
    rename_i x p
    have h : (glHas C x d && glB C.sc x && okN x) = true := h
    simp only [Bool.and_eq_true] at h
    obtain ⟨v, u, e1, e2, e3⟩ := L.gl x d (glHas_ok h.1.1)
    exact s_g (glB_ok (by rw [O.sc]; exact h.1.2)) e1 e2 (okN_ok h.2).1 e3
  | .fn i f, ea, X, C, wx, L, O, h => by
    cases ea <;> first | exact Bool.noConfusion (show false = true from h) | skip
    rename_i x p
    have h : isFn C x f = true := h
    unfold isFn at h
    simp only [Bool.and_eq_true] at h
    obtain ⟨a, e1, e2⟩ := L.call x f h.1.1
    exact PE_imp (C8.pe_gc (v := .ref a) (glB_ok (by rw [O.sc]; exact h.1.2)) ⟨_, e2, rfl⟩ (okN_ok h.2).1) fun σ H Q ⟨W, M, sd, S, Rl, h⟩ => h.val S (.fnv e1)
  | .chain o o' a b c, ea, X, C, wx, L, O, h => by
    cases ea <;> first | exact Bool.noConfusion (show false = true from h) | skip
    rename_i x ops ys pos
    rcases ops with _ | ⟨p, _ | ⟨p2, _ | ⟨p3, r⟩⟩⟩ <;> rcases ys with _ | ⟨y, _ | ⟨y2, _ | ⟨y3, r2⟩⟩⟩ <;> first | exact Bool.noConfusion (show false = true from h) | skip
    have h : (copB o p && copB o' p2 && chkE false C a x && chkE false C b y && chkE false C c y2 && !behindInMarks p y && !behindInMarks p2 y2 && !lastMarks [p, p2] [y, y2]) = true := h
    simp only [Bool.and_eq_true, Bool.not_eq_true'] at h
    obtain ⟨⟨⟨⟨⟨⟨⟨h1, h2⟩, h3⟩, h4⟩, h5⟩, h6⟩, h7⟩, h8⟩ := h
    have e := copB_ok h1
    subst e
    have e := copB_ok h2
    subst e
    exact s_chain O.fx o o' (snd_E a L O h3) (snd_E b L O h4) (snd_E c L O h5) h6 h7 fun t u tc r r' q1 q2 q3 q4 q5 => pe_chain q1 q2 q3 q4 q5 h8
  | .comp fz elt g it io own, ea, X, C, wx, L, O, h => by
    cases ea <;> first | exact Bool.noConfusion (show false = true from h) | skip
    rename_i x gens scope pos
    obtain ⟨tt, i, fs, hi, hg, hf, he, hs, hown, ok, hpr, q⟩ := snd_C fz elt g it io own L O h
    obtain ⟨rfl, hq⟩ := q
    have z := s_comp (fz := fz) (pos := pos) (a := elt) O.fx O.nz hi ok hpr hown hg hf he hs
    rw [hq] at z
    exact z
  | .heard i a, ea, X, C, wx, L, O, h => by
    have g : (match lamView ea with
      | some (x, pr, b, scope, []) => decide (x = C.hd) && glB C.sc x && okN x && noArgs pr && C.lam && LamX.lamSB C.sc scope && chkE false (C.at scope) a b
      | _ => false) = true := h
    split at g
    · rename_i x pr b scope hv
      obtain ⟨p, lp, pos, rfl⟩ := lamView_ok hv
      simp only [Bool.and_eq_true, decide_eq_true_eq] at g
      obtain ⟨⟨⟨⟨⟨⟨rfl, h2⟩, h3⟩, h4⟩, h5⟩, h6⟩, h7⟩ := g
      obtain ⟨ha, e1, e2, e3⟩ := L.hd
      have q := (O.lam h5).1
      exact s_heard (n := n) O.fx O.nz O.tk (lamAt_ok O h5 h4 h6) e3 (by omega) e2 (glB_ok (by rw [O.sc]; exact h2)) e1 (okN_ok h3).1 fun A outer s H Ex f c' hr => snd_E a (L.at scope) (lam_ok O L.r1 hr) h7
    · cases g
  | .tells i a b, ea, X, C, wx, L, O, h => by
    have g : (match lamView ea with
      | some (x, pr, z, scope, [y]) => decide (x = C.tl) && glB C.sc x && okN x && noArgs pr && C.lam && LamX.lamSB C.sc scope && chkE false (C.at scope) a z && chkE false C b y && notStar y
      | _ => false) = true := h
    split at g
    · rename_i x pr bb scope z hv
      obtain ⟨p, lp, pos, rfl⟩ := lamView_ok hv
      simp only [Bool.and_eq_true, decide_eq_true_eq] at g
      obtain ⟨⟨⟨⟨⟨⟨⟨⟨h1, h2⟩, h3⟩, h4⟩, h5⟩, h6⟩, h7⟩, h8⟩, h9⟩ := g
      obtain ⟨ha, e1, e2, e3⟩ := L.tl (by rw [← h1]; exact okN_e h3)
      rw [← h1] at e1
      have q := (O.lam h5).1
      exact s_tells (n := n) O.fx O.nz O.tk (lamAt_ok O h5 h4 h6) e3 (by omega) e2 (glB_ok (by rw [O.sc]; exact h2)) e1 (okN_ok h3).1 (fun A outer s H Ex f c' hr => snd_E a (L.at scope) (lam_ok O L.r1 hr) h7) (snd_E b L O h8) (starEach_cons h9 _ _)
    · cases g
  | .refuses i a b c, ea, X, C, wx, L, O, h => by
    have g : (match lamView ea with
      | some (x, pr, z, scope, [y, u]) => decide (x = C.rf) && glB C.sc x && okN x && noArgs pr && C.lam && LamX.lamSB C.sc scope && chkE false (C.at scope) a z && chkE false C b y && chkE false C c u && notStar y && notStar u
      | _ => false) = true := h
    split at g
    · rename_i x pr bb scope z z2 hv
      obtain ⟨p, lp, pos, rfl⟩ := lamView_ok hv
      simp only [Bool.and_eq_true, decide_eq_true_eq] at g
      obtain ⟨⟨⟨⟨⟨⟨⟨⟨⟨⟨h1, h2⟩, h3⟩, h4⟩, h5⟩, h6⟩, h7⟩, h8⟩, h9⟩, h10⟩, h11⟩ := g
      obtain ⟨ha, e1, e2, e3⟩ := L.rf (by rw [← h1]; exact okN_e h3)
      rw [← h1] at e1
      have q := (O.lam h5).1
      exact s_refuses (n := n) O.fx O.nz O.tk (lamAt_ok O h5 h4 h6) e3 (by omega) e2 (glB_ok (by rw [O.sc]; exact h2)) e1 (okN_ok h3).1 (fun A outer s H Ex f c' hr => snd_E a (L.at scope) (lam_ok O L.r1 hr) h7) (snd_E b L O h8) (snd_E c L O h9) (starEach_cons h10 _ _) (starEach_cons h11 _ _)
    · cases g
  | .dcomp k v g it own, ea, X, C, wx, L, O, h => by
    cases ea <;> exact Bool.noConfusion (show false = true from h)
termination_by a => (sizeOf a, 0)
theorem snd_T {P : Pm} {F : Fns} {same r n : Nat} : ∀ (a : E) {ea : Expr} {X : Cx} {C : CC} {wx : WX}, LW P F same C X.prog X.w X.mg X.base r → XOk P wx C r n X → chkE true C a ea = true → PT X ea (tT P F same wx a)
  | .nt a, ea, X, C, wx, L, O, h => by
    cases ea <;> first | exact Bool.noConfusion (show false = true from h) | skip
    rename_i op x pos
    cases op <;> first | exact Bool.noConfusion (show false = true from h) | skip
    exact s_tnot (snd_T a L O h)
  | .an a b, ea, X, C, wx, L, O, h => (snd_W (.an a b) L O (.inl ⟨a, b, rfl⟩) h).pt
  | .orr a b, ea, X, C, wx, L, O, h => (snd_W (.orr a b) L O (.inr ⟨a, b, rfl⟩) h).pt
  | .cmp o a b, ea, X, C, wx, L, O, h => by
    cases ea <;> first | exact Bool.noConfusion (show false = true from h) | skip
    rename_i x ops ys pos
    rcases ops with _ | ⟨p, _ | ⟨p2, r⟩⟩ <;> rcases ys with _ | ⟨y, _ | ⟨y2, r2⟩⟩ <;> first | exact Bool.noConfusion (show false = true from h) | skip
    have h : (copB o p && chkE false C a x && chkE false C b y && !behindInMarks p y) = true := h
    simp only [Bool.and_eq_true, Bool.not_eq_true'] at h
    obtain ⟨⟨⟨h1, h2⟩, h3⟩, h4⟩ := h
    have e := copB_ok h1
    subst e
    exact s_tcmp O.fx o (snd_E a L O h2) (snd_E b L O h3) h4
  | .v i, ea, X, C, wx, L, O, h => by
    cases ea <;> first | exact Bool.noConfusion (show false = true from h) | skip
    exact s_tval O.fx (snd_E _ L O h) fun _ => rfl
  | .bin fz o a b, ea, X, C, wx, L, O, h => by
    cases ea <;> first | exact Bool.noConfusion (show false = true from h) | skip
    exact s_tval O.fx (snd_E _ L O h) fun _ => rfl
  | .ix a b, ea, X, C, wx, L, O, h => by
    cases ea <;> first | exact Bool.noConfusion (show false = true from h) | skip
    exact s_tval O.fx (snd_E _ L O h) fun _ => rfl
  | .call i f es, ea, X, C, wx, L, O, h => by
    have h : chkE false C (.call i f es) ea = true := ct_call.symm.trans h
    cases ea <;> first | exact Bool.noConfusion (show false = true from h) | skip
    exact s_tval O.fx (snd_E _ L O h) fun _ => rfl
  | .callv i es, ea, X, C, wx, L, O, h => by
    have h : chkE false C (.callv i es) ea = true := ct_callv.symm.trans h
    cases ea <;> first | exact Bool.noConfusion (show false = true from h) | skip
    exact s_tval O.fx (snd_E _ L O h) fun _ => rfl
  | .bi i fz b es, ea, X, C, wx, L, O, h => by
    have h : chkE false C (.bi i fz b es) ea = true := ct_bi.symm.trans h
    cases ea <;> first | exact Bool.noConfusion (show false = true from h) | skip
    exact s_tval O.fx (snd_E _ L O h) fun _ => rfl
  | .me fz b a es, ea, X, C, wx, L, O, h => by
    have h : chkE false C (.me fz b a es) ea = true := ct_me.symm.trans h
    cases ea <;> first | exact Bool.noConfusion (show false = true from h) | skip
    exact s_tval O.fx (snd_E _ L O h) fun _ => rfl
  | .isi i j a ty, ea, X, C, wx, L, O, h => by
    have h : chkE false C (.isi i j a ty) ea = true := ct_isi.symm.trans h
    cases ea <;> first | exact Bool.noConfusion (show false = true from h) | skip
    exact s_tval O.fx (snd_E _ L O h) fun _ => rfl
  | .chain o o' a b c, ea, X, C, wx, L, O, h => by
    cases ea <;> first | exact Bool.noConfusion (show false = true from h) | skip
    rename_i x ops ys pos
    rcases ops with _ | ⟨p, _ | ⟨p2, _ | ⟨p3, r⟩⟩⟩ <;> rcases ys with _ | ⟨y, _ | ⟨y2, _ | ⟨y3, r2⟩⟩⟩ <;> first | exact Bool.noConfusion (show false = true from h) | skip
    have h : (copB o p && copB o' p2 && chkE false C a x && chkE false C b y && chkE false C c y2 && !behindInMarks p y && !behindInMarks p2 y2 && !lastMarks [p, p2] [y, y2]) = true := h
    simp only [Bool.and_eq_true, Bool.not_eq_true'] at h
    obtain ⟨⟨⟨⟨⟨⟨⟨h1, h2⟩, h3⟩, h4⟩, h5⟩, h6⟩, h7⟩, h8⟩ := h
    have e := copB_ok h1
    subst e
    have e := copB_ok h2
    subst e
    exact s_tchain O.fx o o' (snd_E a L O h3) (snd_E b L O h4) (snd_E c L O h5) h6 h7 h8
  | .tells i a b, ea, X, C, wx, L, O, h => by
    have h2 : chkE false C (.tells i a b) ea = true := h
    obtain ⟨p, xs, pos, rfl⟩ : ∃ p xs pos, ea = .Call p xs [] pos := call_tells h2
    exact s_tval O.fx (snd_E _ L O h2) fun _ => rfl
  | .refuses i a b c, ea, X, C, wx, L, O, h => by
    have h2 : chkE false C (.refuses i a b c) ea = true := h
    obtain ⟨p, xs, pos, rfl⟩ : ∃ p xs pos, ea = .Call p xs [] pos := call_refuses h2
    exact s_tval O.fx (snd_E _ L O h2) fun _ => rfl
  | .g i d, ea, X, C, wx, L, O, h => by
    cases ea <;> first | exact Bool.noConfusion (show false = true from h) | skip
    exact s_tval O.fx (snd_E _ L O h) fun _ => rfl
  | .tup es, ea, X, C, wx, L, O, h => by
    cases ea <;> first | exact Bool.noConfusion (show false = true from h) | skip
    exact s_tval O.fx (snd_E _ L O h) fun _ => rfl
  | .lst fz es, ea, X, C, wx, L, O, h => by
    cases ea <;> first | exact Bool.noConfusion (show false = true from h) | skip
    exact s_tval O.fx (snd_E _ L O h) fun _ => rfl
  | .sl fz a lo hi, ea, X, C, wx, L, O, h => by
    have h2 : chkE false C (.sl fz a lo hi) ea = true := ct_sl.symm.trans h
    cases ea <;> first | exact Bool.noConfusion (show false = true from h) | skip
    exact s_tval O.fx (snd_E _ L O h2) fun _ => rfl
  | .c k, ea, X, C, wx, L, O, h => by
    cases ea <;> exact Bool.noConfusion (show false = true from h)
  | .fn i f, ea, X, C, wx, L, O, h => by
    cases ea <;> first | exact Bool.noConfusion (show false = true from h) | skip
    exact s_tval O.fx (snd_E _ L O h) fun _ => rfl
  | .neg a, ea, X, C, wx, L, O, h => by
    cases ea <;> first | exact Bool.noConfusion (show false = true from h) | skip
    rename_i op x pos
    cases op <;> exact Bool.noConfusion (show false = true from h)
  | .ite c a b, ea, X, C, wx, L, O, h => by
    cases ea <;> exact Bool.noConfusion (show false = true from h)
  | .heard i a, ea, X, C, wx, L, O, h => by
    have h2 : chkE false C (.heard i a) ea = true := h
    obtain ⟨p, xs, pos, rfl⟩ : ∃ p xs pos, ea = .Call p xs [] pos := call_heard h2
    exact s_tval O.fx (snd_E _ L O h2) fun _ => rfl
  | .comp fz elt g it io own, ea, X, C, wx, L, O, h => Bool.noConfusion (show false = true from ct_comp.symm.trans h)
  | .dcomp k v g it own, ea, X, C, wx, L, O, h => by
    cases ea <;> exact Bool.noConfusion (show false = true from h)
termination_by a => (sizeOf a, 1)
theorem snd_W {P : Pm} {F : Fns} {same r n : Nat} : ∀ (a : E) {ea : Expr} {X : Cx} {C : CC} {wx : WX}, LW P F same C X.prog X.w X.mg X.base r → XOk P wx C r n X → ((∃ x y, a = .an x y) ∨ ∃ x y, a = .orr x y) → chkE true C a ea = true → PW X ea (tT P F same wx a) := by
  intro a0 ea X C wx L O g h
  rcases g with ⟨a, b, rfl⟩ | ⟨a, b, rfl⟩
  ·
    cases ea <;> first | exact Bool.noConfusion (show false = true from h) | skip
    rename_i op es pos
    cases op <;> first | exact Bool.noConfusion (show false = true from h) | skip
    rcases es with _ | ⟨x, _ | ⟨y, _ | ⟨z, r⟩⟩⟩ <;> first | exact Bool.noConfusion (show false = true from h) | skip
    · have h : (chkE true C a x && chkE true C b y) = true := h
      simp only [Bool.and_eq_true] at h
      exact s_tand (snd_T a L O h.1) (s_tone (.inl rfl) (snd_T b L O h.2))
    · have h : (chkE true C a x && chkE true C b (.BoolOp .And (y :: z :: r) pos)) = true := h
      simp only [Bool.and_eq_true] at h
      refine s_tand (snd_T a L O h.1) (snd_W b L O ?_ h.2)
      cases b <;> first | exact Bool.noConfusion (show false = true from h.2) | exact .inl ⟨_, _, rfl⟩ | exact .inr ⟨_, _, rfl⟩
  ·
    cases ea <;> first | exact Bool.noConfusion (show false = true from h) | skip
    rename_i op es pos
    cases op <;> first | exact Bool.noConfusion (show false = true from h) | skip
    rcases es with _ | ⟨x, _ | ⟨y, _ | ⟨z, r⟩⟩⟩ <;> first | exact Bool.noConfusion (show false = true from h) | skip
    · have h : (chkE true C a x && chkE true C b y) = true := h
      simp only [Bool.and_eq_true] at h
      exact s_tor (snd_T a L O h.1) (s_tone (.inr rfl) (snd_T b L O h.2))
    · have h : (chkE true C a x && chkE true C b (.BoolOp .Or (y :: z :: r) pos)) = true := h
      simp only [Bool.and_eq_true] at h
      refine s_tor (snd_T a L O h.1) (snd_W b L O ?_ h.2)
      cases b <;> first | exact Bool.noConfusion (show false = true from h.2) | exact .inl ⟨_, _, rfl⟩ | exact .inr ⟨_, _, rfl⟩
termination_by a0 => (sizeOf a0, 0)
theorem snd_Es {P : Pm} {F : Fns} {same r n : Nat} : ∀ (as : Es) {es : List Expr} {X : Cx} {C : CC} {wx : WX}, LW P F same C X.prog X.w X.mg X.base r → XOk P wx C r n X → chkEs C as es = true → PA X es (tEs P F same wx as)
  | .nil, es, X, C, wx, L, O, h => by
    cases es <;> first | exact Bool.noConfusion (show false = true from h) | skip
    exact s_nil
  | .cons a as, es, X, C, wx, L, O, h => by
    cases es <;> first | exact Bool.noConfusion (show false = true from h) | skip
    rename_i x xs
    have h : (notStar x && chkE false C a x && chkEs C as xs) = true := h
    simp only [Bool.and_eq_true] at h
    exact s_cons (snd_E a L O h.1.2) (snd_Es as L O h.2) (starEach_cons h.1.1 _ _)
termination_by a => (sizeOf a, 0)
theorem snd_O {P : Pm} {F : Fns} {same r n : Nat} : ∀ (a : Oe) {ea : Option Expr} {X : Cx} {C : CC} {wx : WX}, LW P F same C X.prog X.w X.mg X.base r → XOk P wx C r n X → chkO C a ea = true → PO X ea (tO P F same wx a)
  | .none, ea, X, C, wx, L, O, h => by
    cases ea <;> first | exact Bool.noConfusion (show false = true from h) | skip
    exact s_onone
  | .some a, ea, X, C, wx, L, O, h => by
    cases ea <;> first | exact Bool.noConfusion (show false = true from h) | skip
    exact s_osome (snd_E a L O h)
termination_by a => (sizeOf a, 0)
theorem snd_F {P : Pm} {F : Fns} {same r n : Nat} : ∀ (a : Oe) {fs : List Expr} {X : Cx} {C : CC}, LW P F same C X.prog X.w X.mg X.base r → XOk P fx0 C r n X → chkF C a fs = true → PTs X fs (tIf? P F same a)
  | .none, fs, X, C, L, O, h => by
    cases fs <;> first | exact Bool.noConfusion (show false = true from h) | skip
    exact s_ifs0
  | .some a, fs, X, C, L, O, h => by
    rcases fs with _ | ⟨x, _ | ⟨y, r⟩⟩ <;> first | exact Bool.noConfusion (show false = true from h) | skip
    exact s_ifs1 (snd_T a L O h)
termination_by a => (sizeOf a, 0)
theorem snd_I {P : Pm} {F : Fns} {same r n : Nat} : ∀ (it : It) {tt e : Expr} {X : Cx} {C : CC} {wx : WX}, LW P F same C X.prog X.w X.mg X.base r → XOk P wx C r n X → chkI C tt it e = true → PI X tt e (tI P F same wx it.pr it) ∧ (it.pr = true → isTupE tt = true)
  | .e a, tt, e, X, C, wx, L, O, h => ⟨s_iter O.fx (snd_E a L O h), fun z => (by cases z)⟩
  | .range i es, tt, e, X, C, wx, L, O, h => by
    cases e <;> first | exact Bool.noConfusion (show false = true from h) | skip
    rename_i fn xs kws pos
    cases fn <;> cases kws <;> cases xs <;> first | exact Bool.noConfusion (show false = true from h) | skip
    rename_i x p y ys
    have h : (isBi C x "range" && chkEs C es (y :: ys)) = true := h
    unfold isBi at h
    simp only [Bool.and_eq_true, decide_eq_true_eq] at h
    obtain ⟨⟨h1, h2⟩, h4⟩ := h
    subst h1
    have hs := chkEs_star h4
    simp only [List.all_cons, Bool.and_eq_true] at hs
    exact ⟨s_range (glB_ok (by rw [O.sc]; exact h2)) (L.bi _ (by decide)) (snd_Es es L O h4) (starEach_cons hs.1 _ _) (starEach_any hs.2 _ _), fun z => (by cases z)⟩
  | .enum i a, tt, e, X, C, wx, L, O, h => by
    cases e <;> first | exact Bool.noConfusion (show false = true from h) | skip
    rename_i fn xs kws pos
    rcases xs with _ | ⟨y, _ | ⟨z, r⟩⟩ <;> cases fn <;> cases kws <;> first | exact Bool.noConfusion (show false = true from h) | skip
    rename_i x p
    have h : (isTupE tt && isBi C x "enumerate" && notStar y && chkE false C a y) = true := h
    unfold isBi at h
    simp only [Bool.and_eq_true, decide_eq_true_eq] at h
    obtain ⟨⟨⟨h0, h1, h2⟩, h3⟩, h4⟩ := h
    subst h1
    refine ⟨?_, fun _ => h0⟩
    cases tt <;> first | exact Bool.noConfusion (show false = true from h0) | skip
    exact s_enum O.fx (glB_ok (by rw [O.sc]; exact h2)) (L.bi _ (by decide)) (snd_E a L O h4) (starEach_cons h3 _ _)
  | .zip i a b, tt, e, X, C, wx, L, O, h => by
    cases e <;> first | exact Bool.noConfusion (show false = true from h) | skip
    rename_i fn xs kws pos
    rcases xs with _ | ⟨y, _ | ⟨z, _ | ⟨z2, r⟩⟩⟩ <;> cases fn <;> cases kws <;> first | exact Bool.noConfusion (show false = true from h) | skip
    rename_i x p
    have h : (isTupE tt && isBi C x "zip" && notStar y && notStar z && chkE false C a y && chkE false C b z) = true := h
    unfold isBi at h
    simp only [Bool.and_eq_true, decide_eq_true_eq] at h
    obtain ⟨⟨⟨⟨⟨h0, h1, h2⟩, h3⟩, h4⟩, h5⟩, h6⟩ := h
    subst h1
    refine ⟨?_, fun _ => h0⟩
    cases tt <;> first | exact Bool.noConfusion (show false = true from h0) | skip
    exact s_zip O.fx (glB_ok (by rw [O.sc]; exact h2)) (L.bi _ (by decide)) (snd_E a L O h5) (snd_E b L O h6) (starEach_cons h3 _ _) (starEach_cons h4 _ _) (starEach_any (by simp [h4]) _ _)
termination_by a => (sizeOf a, 0)
/-- a comprehension's parts -/
theorem snd_C {P : Pm} {F : Fns} {same r n : Nat} (fz : Bool) (elt : E) (g : Tg) (it : It) (io : Oe) (own : List Nat) {x : Expr} {gens : List Comprehension} {scope : Scope} {pos : Pos} {X : Cx} {C : CC} {wx : WX} (L : LW P F same C X.prog X.w X.mg X.base r) (O : XOk P wx C r n X) (h : chkE false C (.comp fz elt g it io own) (.ListComp x gens scope pos) = true) :
    ∃ (tt i : Expr) (fs : List Expr), PI X tt i (tI P F same wx it.pr it) ∧ (∀ (s : Shared) (H : Hp) (Ca : Addr) (cl : List (Str × Addr)) (fp : List Addr), PG (X.blk s H scope (compEnvC scope cl Ca X.env) fp) tt (gT P.K g)) ∧
      (∀ (s : Shared) (H : Hp) (Ca : Addr) (cl : List (Str × Addr)) (fp : List Addr), PTs (X.blk s H scope (compEnvC scope cl Ca X.env) fp) fs (tIf? P F same io)) ∧
      (∀ (s : Shared) (H : Hp) (Ca : Addr) (cl : List (Str × Addr)) (fp : List Addr), PE (X.blk s H scope (compEnvC scope cl Ca X.env) fp) x (tE P F same fx0 elt)) ∧ (∀ x, foldedSetIterable i X.env x = pure x) ∧ tgIn ((ownN C own).map (·.2)) g = true ∧
      BlkOk X.N X.env.scope scope (ownN C own) ∧ (it.pr = true → isTup g = true) ∧ gens = [⟨tt, i, fs, 0⟩] ∧ (ownN C own).map (·.2) = own := by
  rcases gens with _ | ⟨⟨tt, i, fs, as⟩, _ | ⟨g2, r⟩⟩ <;> first | exact Bool.noConfusion (show false = true from h) | skip
  by_cases has : as = 0
  · subst has
    have h : (!false && decide ((0 : Int) = 0) && blkC C.N C.sc scope (ownN C own) && decide ((ownN C own).map (·.2) = own) && chkI C tt it i && tgIn own g && noSet i && chkG (C.at (relS scope C.sc)) g tt && chkF (C.at (relS scope C.sc)) io fs && chkE false (C.at (relS scope C.sc)) elt x) = true := h
    simp only [Bool.and_eq_true, decide_eq_true_eq] at h
    obtain ⟨⟨⟨⟨⟨⟨⟨⟨_, h1⟩, h2⟩, h3⟩, h4⟩, h5⟩, h6⟩, h7⟩, h8⟩ := h
    obtain ⟨q1, q2⟩ := snd_I it L O h3
    exact ⟨tt, i, fs, q1, fun s H Ca cl fp => snd_G g (blk_ok (s := s) (H := H) (Ca := Ca) (cl := cl) (fp := fp) O) h6, fun s H Ca cl fp => snd_F io (L.at _) (blk_ok (s := s) (H := H) (Ca := Ca) (cl := cl) (fp := fp) O) h7,
      fun s H Ca cl fp => snd_E elt (L.at _) (blk_ok (s := s) (H := H) (Ca := Ca) (cl := cl) (fp := fp) O) h8, noSet_ok h5 _, by rw [h2]; exact h4, by rw [O.N, O.sc]; exact blkOk_by h1, fun z => tg_tup h6 (q2 z), rfl, h2⟩
  · exfalso
    have h : (!false && decide (as = 0) && blkC C.N C.sc scope (ownN C own) && decide ((ownN C own).map (·.2) = own) && chkI C tt it i && tgIn own g && noSet i && chkG (C.at (relS scope C.sc)) g tt && chkF (C.at (relS scope C.sc)) io fs && chkE false (C.at (relS scope C.sc)) elt x) = true := h
    rw [decide_eq_false has] at h
    simp at h
termination_by (sizeOf elt + sizeOf it + sizeOf io + 1, 0)
end
end SS
end PT_SS3
section PT_SS4
set_option Elab.async false
set_option linter.all false
set_option maxRecDepth 100000
set_option maxHeartbeats 4000000
/-! Statements: the checker, its soundness. -/
namespace SS
open PySem PySem.Spec PyProof.Rows L2
def isComp : Expr → Bool
  | .ListComp .. => true
  | .SetComp .. => true
  | .DictComp .. => true
  | _ => false
theorem swaps_none {e : Expr} (h : isComp e = false) (t : Option Expr) (l : Nat) (env : PySem.Env) : swapsWith e t l env = pure false := by
  cases e <;> first | rfl | cases h
def swB (sc : Scope) (t : Str) (p vp : Pos) (scope : Scope) : Bool := decide (sc.kind = .function) && decide (sc.names.lookup t = some .local) && (p.line == vp.line) && !(scope.names.any fun (n, k) => n == t && (k == .local || k == .cell))
theorem kindOf_def (env : PySem.Env) (t : Str) : env.kindOf t = env.scope.names.lookup t := rfl
theorem sw_true {env : PySem.Env} {t : Str} {p vp : Pos} {scope : Scope} (h : swB env.scope t p vp scope = true) : (env.blockKind == .function && env.kindOf t == some .local && p.line == vp.line && !(scope.names.any fun (n, k) => n == t && (k == .local || k == .cell))) = true := by
  unfold swB at h
  simp only [Bool.and_eq_true, decide_eq_true_eq] at h
  obtain ⟨⟨⟨h1, h2⟩, h3⟩, h4⟩ := h
  rw [kindOf_def, h2, h3, h4]
  unfold PySem.Env.blockKind
  rw [h1]
  rfl
theorem sw_lc {x : Expr} {gens : List Comprehension} {env : PySem.Env} {t : Str} {p vp : Pos} {l : Nat} {scope : Scope} (h : swB env.scope t p vp scope = true) : swapsWith (.ListComp x gens scope vp) (some (.Name t p)) l env = pure true := by
  have e := sw_true h
  show (do return (env.blockKind == .function && env.kindOf t == some .local && p.line == vp.line && !(scope.names.any fun (n, k) => n == t && (k == .local || k == .cell))) : Sem Bool) = _
  rw [e]
theorem sw_dc {k x : Expr} {gens : List Comprehension} {env : PySem.Env} {t : Str} {p vp : Pos} {l : Nat} {scope : Scope} (h : swB env.scope t p vp scope = true) : swapsWith (.DictComp k x gens scope vp) (some (.Name t p)) l env = pure true := by
  have e := sw_true h
  show (do return (env.blockKind == .function && env.kindOf t == some .local && p.line == vp.line && !(scope.names.any fun (n, k) => n == t && (k == .local || k == .cell))) : Sem Bool) = _
  rw [e]
theorem sw_cell {x : Expr} {gens : List Comprehension} {env : PySem.Env} {t : Str} {p vp : Pos} {l : Nat} {scope : Scope} (h : env.scope.names.lookup t = some .cell) : swapsWith (.ListComp x gens scope vp) (some (.Name t p)) l env = pure false := by
  show (do return (env.blockKind == .function && env.kindOf t == some .local && p.line == vp.line && !(scope.names.any fun (n, k) => n == t && (k == .local || k == .cell))) : Sem Bool) = _
  have e : (env.kindOf t == some NameKind.local) = false := by
    rw [kindOf_def, h]
    rfl
  rw [e, Bool.and_false, Bool.false_and, Bool.false_and]
/-- the names that are stored together -/
def swNames (sc : Scope) (ts : List Expr) : List Str := ts.filterMap fun
  | .Name id pos => if (sc.names.lookup id == some .local && pos.line == (ts.head?.map (·.pos.line)).getD 0) = true then some id else none
  | _ => none
def starB : Expr → Bool
  | .Starred .. => true
  | _ => false
theorem swp {env : PySem.Env} {ts vs : List Expr} {pt pt2 : Pos} {kt k2 : Nat} (hk : env.scope.kind = .function) (hs : vs.any starB = false) : swappedStores [.Tuple ts kt pt] (.Tuple vs k2 pt2) env =
    if (!(ts.length == 2 || ts.length == 3) || vs.length != ts.length) = true then pure none else
    if ((swNames env.scope ts).length != ts.length || (swNames env.scope ts).eraseDups.length != (swNames env.scope ts).length) = true then pure none else
    if (vs.all (foldedForSure 8)) = true then pure none else
    if (vs.all (constantsAlone 8)) = true then ((unsupported "assign.tuple-of-constant-expressions:order-of-the-stores" : Sem PUnit) >>= fun _ => pure (some (swNames env.scope ts))) else pure (some (swNames env.scope ts)) := by
  have hb : (env.blockKind != .function) = false := by
    unfold PySem.Env.blockKind
    rw [hk]
    rfl
  unfold swappedStores
  show (if ((!(ts.length == 2 || ts.length == 3) || vs.length != ts.length) || (env.blockKind != .function)) = true then pure none else _ : Sem (Option (List Str))) = _
  rw [hb, Bool.or_false]
  show (if _ then pure none else if (vs.any starB) = true then pure none else _ : Sem (Option (List Str))) = _
  rw [hs]
  rfl
/-- stored together: two or three names -/
def parB (sc : Scope) (ts vs : List Expr) (ns : List Str) : Bool := decide (sc.kind = .function) && !(vs.any starB) && (ts.length == 2 || ts.length == 3) && (vs.length == ts.length) && decide (swNames sc ts = ns) && (ns.length == ts.length) && (ns.eraseDups.length == ns.length) && !(vs.all (foldedForSure 8)) && !(vs.all (constantsAlone 8))
/-- stored one by one -/
def sepB (sc : Scope) (ts vs : List Expr) : Bool := decide (sc.kind = .function) && !(vs.any starB) && ((!(ts.length == 2 || ts.length == 3) || vs.length != ts.length) || ((swNames sc ts).length != ts.length || (swNames sc ts).eraseDups.length != (swNames sc ts).length) || vs.all (foldedForSure 8))
theorem par_ok {env : PySem.Env} {ts vs : List Expr} {ns : List Str} {pt pt2 : Pos} {kt k2 : Nat} (h : parB env.scope ts vs ns = true) : swappedStores [.Tuple ts kt pt] (.Tuple vs k2 pt2) env = pure (some ns) := by
  unfold parB at h
  simp only [Bool.and_eq_true, decide_eq_true_eq, Bool.not_eq_true'] at h
  obtain ⟨⟨⟨⟨⟨⟨⟨⟨h1, h2⟩, h3⟩, h4⟩, h5⟩, h6⟩, h7⟩, h8⟩, h9⟩ := h
  subst h5
  rw [swp h1 h2, h3, h8, h9]
  simp only [bne, h4, h6, h7]
  rfl
theorem sep_ok {env : PySem.Env} {ts vs : List Expr} {pt pt2 : Pos} {kt k2 : Nat} (h : sepB env.scope ts vs = true) : swappedStores [.Tuple ts kt pt] (.Tuple vs k2 pt2) env = pure none := by
  unfold sepB at h
  simp only [Bool.and_eq_true, decide_eq_true_eq, Bool.not_eq_true'] at h
  obtain ⟨⟨h1, h2⟩, h3⟩ := h
  rw [swp h1 h2]
  split
  · rfl
  · rename_i q1
    split
    · rfl
    · rename_i q2
      rw [Bool.not_eq_true] at q1 q2
      rw [q1, q2] at h3
      rw [if_pos (by simpa using h3)]
def isTupV : Expr → Option (List Expr)
  | .Tuple vs _ _ => some vs
  | _ => none
/-- one target, not a name: nothing is stored together -/
def sepT (sc : Scope) (t x : Expr) : Bool := !isComp x && notStar t && (match t, x with
  | .Name .., _ => false
  | .Tuple ts _ _, .Tuple vs _ _ => sepB sc ts vs
  | .Tuple _ _ _, _ => true
  | _, _ => false)
theorem sepT_ok {env : PySem.Env} {t x : Expr} (h : sepT env.scope t x = true) (l : Nat) : swapsWithSole [t] x l env = pure false ∧ swappedStores [t] x env = pure none ∧ (assignEach [t] env).map (·.2) = [assign t env] := by
  unfold sepT at h
  simp only [Bool.and_eq_true, Bool.not_eq_true'] at h
  obtain ⟨⟨h1, h2⟩, h3⟩ := h
  refine ⟨swaps_none h1 _ _ _, ?_, ?_⟩
  · split at h3
    · cases h3
    · exact sep_ok h3
    · rename_i hn
      cases x <;> first | rfl | exact (hn _ _ _ rfl).elim | exact (hn _ _ _ rfl rfl).elim | exact (hn _ _ _ _ _ _ rfl rfl).elim
    · cases h3
  · cases t <;> first | rfl | exact Bool.noConfusion (show false = true from h2)
end SS
end PT_SS4
section PT_SS5
set_option Elab.async false
set_option linter.all false
set_option maxRecDepth 100000
set_option maxHeartbeats 4000000
/-! Statements: the checker, its soundness. -/
namespace SS
open PySem PySem.Spec PyProof.Rows L2
def stoB (C : CC) (y : Str) : Bool := decide (C.sc.names.lookup y = some .local) || (C.fnc && locB C.sc y)
/-- a name's value: comprehensions apart -/
def chkSet (C : CC) (e : E) (y : Str) (py : Pos) : Expr → Bool
  | .DictComp kx vx [⟨tt, i, [], as⟩] scope vp => (match e with
    | .dcomp k v g it own => swB C.sc y py vp scope && decide (as = 0) && blkC C.N C.sc scope (ownN C own) && decide ((ownN C own).map (·.2) = own) && chkI C tt it i && tgIn own g && noSet i && chkG (C.at (relS scope C.sc)) g tt && chkE false (C.at (relS scope C.sc)) k kx && chkE false (C.at (relS scope C.sc)) v vx
    | _ => false)
  | .ListComp x gens scope vp => chkE false C e (.ListComp x gens scope vp) && (swB C.sc y py vp scope || decide (C.sc.names.lookup y = some .cell))
  | x => !isComp x && chkE false C e x
def callView : Expr → Option (Str × Expr)
  | .Call (.Name x _) [y] [] _ => some (x, y)
  | _ => none
mutual
def chkS (C : CC) : S → Stmt → Bool
  | .skip, .Pass _ => true
  | .doc, .Expr (.Constant (.str _) _ _) _ => true
  | .ex e, .Expr x _ => !isComp x && chkE false C e x
  | .set i e, .Assign [.Name y py] x _ => decide (C.N[i]? = some y) && stoB C y && chkSet C e y py x
  | .setT g e, .Assign [t] x _ => sepT C.sc t x && chkG C g t && chkE false C e x
  | .par i j a b, .Assign [.Tuple [.Name x px, .Name y py] _ _] (.Tuple [u, v] _ _) _ => decide (C.N[i]? = some x) && decide (C.N[j]? = some y) && decide (i ≠ j) && decide (C.sc.names.lookup x = some .local) && decide (C.sc.names.lookup y = some .local) && parB C.sc [.Name x px, .Name y py] [u, v] [x, y] && notStar u && notStar v && chkE false C a u && chkE false C b v
  | .setIx a b e, .Assign [.Subscript x y _] z _ => !isComp z && chkE false C a x && chkE false C b y && chkE false C e z && plainIx y
  | .aug i o e, .AugAssign (.Name x _) op y _ => bopB o op && decide (C.N[i]? = some x) && stoB C x && chkE false C e y
  | .ifs c a b, .If x xs ys _ => chkE true C c x && chkSs C a xs && chkSs C b ys
  | .whl c b, .While x xs [] _ => chkE true C c x && chkSs C b xs
  | .for_ g it b, .For t x xs [] _ => chkI C t it x && chkG C g t && noSet x && chkSs C b xs
  | .ret e, .Return (some x) _ => chkE false C e x
  | .retN, .Return none _ => true
  | .brk, .Break _ => true
  | .cont, .Continue _ => true
  | .rais _ c e, .Raise (some r) none _ => (match callView r with
    | some (x, y) => decide (x = c) && C.exs.contains c && glB C.sc c && notStar y && chkE false C e y
    | none => false)
  | _, _ => false
def chkSs (C : CC) : Ss → List Stmt → Bool
  | .nil, [] => true
  | .cons a as, x :: xs => chkS C a x && chkSs C as xs
  | _, _ => false
end
structure YOk (P : Pm) (wy : WY) (C : CC) (r n : Nat) (X : Cx) : Prop where
  x : XOk P (noσ wy) C r n X
  po : PassesOwn (model X.prog X.w) X.A X.env X.xe
theorem callView_ok {e y : Expr} {x : Str} (h : callView e = some (x, y)) : ∃ p pos, e = .Call (.Name x p) [y] [] pos := by
  unfold callView at h
  split at h
  · cases h
    exact ⟨_, _, rfl⟩
  · cases h
theorem stoB_ok {P : Pm} {wx : WX} {C : CC} {r n : Nat} {X : Cx} {y : Str} (O : XOk P wx C r n X) (h : stoB C y = true) : Loc X.env.scope y ∧ (X.fn y = true ∨ X.env.scope.names.lookup y = some .local) := by
  unfold stoB at h
  simp only [Bool.or_eq_true, Bool.and_eq_true, decide_eq_true_eq] at h
  rw [O.sc]
  rcases h with h | h
  · exact ⟨.inl h, .inr h⟩
  · exact ⟨locB_ok h.2, .inl (O.fnc h.1 y)⟩
section
variable {P : Pm} {F : Fns} {same r n : Nat} {X : Cx} {C : CC} {wy : WY}
theorem snd_Set {i : Nat} {e : E} {y : Str} {py pos : Pos} {x : Expr} (L : LW P F same C X.prog X.w X.mg X.base r) (O : YOk P wy C r n X) (hi : C.N[i]? = some y) (hs : stoB C y = true) (h : chkSet C e y py x = true) : PS X (.Assign [.Name y py] x pos) (tS P F same wy (.set i e)) := by
  obtain ⟨s1, s2⟩ := stoB_ok O.x hs
  have hN : X.N[i]? = some y := by rw [O.x.N]; exact hi
  unfold chkSet at h
  split at h
  · rename_i kx vx tt it0 as scope vp
    split at h
    · rename_i k v g it own
      simp only [Bool.and_eq_true, decide_eq_true_eq] at h
      obtain ⟨⟨⟨⟨⟨⟨⟨⟨⟨h0, h1⟩, h2⟩, h3⟩, h4⟩, h5⟩, h6⟩, h7⟩, h8⟩, h9⟩ := h
      subst h1
      obtain ⟨q1, q2⟩ := snd_I it L O.x h4
      have hl : X.env.scope.names.lookup y = some .local := by
        unfold swB at h0
        simp only [Bool.and_eq_true, decide_eq_true_eq] at h0
        rw [O.x.sc]
        exact h0.1.1.2
      have z := w_setDComp (wy := wy) (spos := pos) (a := k) (b := v) (F := F) (same := same) O.x.fx O.x.nz hN hl (sw_dc (by rw [O.x.sc]; exact h0)) q1 (by rw [O.x.N, O.x.sc]; exact blkOk_by h2) (fun z => tg_tup h7 (q2 z)) (by rw [h3]; exact h5)
        (fun s H Ca cl fp => snd_G g (blk_ok (s := s) (H := H) (Ca := Ca) (cl := cl) (fp := fp) O.x) h7)
        (fun s H Ca cl fp => snd_E k (L.at _) (blk_ok (s := s) (H := H) (Ca := Ca) (cl := cl) (fp := fp) O.x) h8)
        (fun s H Ca cl fp => snd_E v (L.at _) (blk_ok (s := s) (H := H) (Ca := Ca) (cl := cl) (fp := fp) O.x) h9) (noSet_ok h6 _)
      rw [h3] at z
      exact z
    · cases h
  · rename_i lx gens scope vp
    simp only [Bool.and_eq_true, Bool.or_eq_true, decide_eq_true_eq] at h
    rcases h.2 with hb | hb
    · have hl : X.env.scope.names.lookup y = some .local := by
        have hb := hb
        unfold swB at hb
        simp only [Bool.and_eq_true, decide_eq_true_eq] at hb
        rw [O.x.sc]
        exact hb.1.1.2
      have h1 := h.1
      cases e <;> first | exact Bool.noConfusion (show false = true from h1) | skip
      rename_i fz elt g it io own
      obtain ⟨tt, i0, fs, hi', hg, hf, he, hs', hown, ok, hpr, rfl, hq⟩ := snd_C fz elt g it io own L O.x h1
      have z := w_setComp (wy := wy) (spos := pos) (a := elt) (fz := fz) (F := F) (same := same) O.x.fx O.x.nz hN hl (sw_lc (by rw [O.x.sc]; exact hb)) hi' ok hpr hown hg hf he hs'
      rw [hq] at z
      exact z
    · exact w_set O.x.fx hN s1 s2 (snd_E e L O.x h.1) (sw_cell (by rw [O.x.sc]; exact hb))
  · simp only [Bool.and_eq_true, Bool.not_eq_true'] at h
    exact w_set O.x.fx hN s1 s2 (snd_E e L O.x h.2) (swaps_none h.1 _ _ _)
mutual
theorem snd_S : ∀ (s : S) {st : Stmt}, LW P F same C X.prog X.w X.mg X.base r → YOk P wy C r n X → chkS C s st = true → PS X st (tS P F same wy s)
  | .skip, st, L, O, h => by
    cases st <;> first | exact Bool.noConfusion (show false = true from h) | skip
    exact w_pass
  | .doc, st, L, O, h => by
    cases st <;> first | exact Bool.noConfusion (show false = true from h) | skip
    rename_i e p
    cases e <;> first | exact Bool.noConfusion (show false = true from h) | skip
    rename_i c j p
    cases c <;> first | exact Bool.noConfusion (show false = true from h) | skip
    exact w_doc
  | .ex e, st, L, O, h => by
    cases st <;> first | exact Bool.noConfusion (show false = true from h) | skip
    rename_i x p
    have h : (!isComp x && chkE false C e x) = true := h
    simp only [Bool.and_eq_true, Bool.not_eq_true'] at h
    exact w_ex (snd_E e L O.x h.2) (swaps_none h.1 _ _ _)
  | .set i e, st, L, O, h => by
    cases st <;> first | exact Bool.noConfusion (show false = true from h) | skip
    rename_i ts x p
    rcases ts with _ | ⟨t, _ | ⟨t2, r⟩⟩ <;> first | exact Bool.noConfusion (show false = true from h) | skip
    · cases t <;> first | exact Bool.noConfusion (show false = true from h) | skip
      rename_i y py
      have h : (decide (C.N[i]? = some y) && stoB C y && chkSet C e y py x) = true := h
      simp only [Bool.and_eq_true, decide_eq_true_eq] at h
      exact snd_Set L O h.1.1 h.1.2 h.2
    · cases t <;> exact Bool.noConfusion (show false = true from h)
  | .setT g e, st, L, O, h => by
    cases st <;> first | exact Bool.noConfusion (show false = true from h) | skip
    rename_i ts x p
    rcases ts with _ | ⟨t, _ | ⟨t2, r⟩⟩ <;> first | exact Bool.noConfusion (show false = true from h) | skip
    have h : (sepT C.sc t x && chkG C g t && chkE false C e x) = true := h
    simp only [Bool.and_eq_true] at h
    have q := sepT_ok (env := X.env) (by rw [O.x.sc]; exact h.1.1) p.line
    exact w_setT (snd_E e L O.x h.2) (snd_G g O.x h.1.2) q.1 q.2.1 q.2.2
  | .par i j a b, st, L, O, h => by
    cases st <;> first | exact Bool.noConfusion (show false = true from h) | skip
    rename_i ts w p
    rcases ts with _ | ⟨t, _ | ⟨t2, r⟩⟩ <;> first | exact Bool.noConfusion (show false = true from h) | skip
    · cases t <;> first | exact Bool.noConfusion (show false = true from h) | skip
      rename_i es k pt
      rcases es with _ | ⟨x, _ | ⟨y, _ | ⟨z, r⟩⟩⟩ <;> first | exact Bool.noConfusion (show false = true from h) | skip
      · cases x <;> exact Bool.noConfusion (show false = true from h)
      · cases x <;> first | exact Bool.noConfusion (show false = true from h) | skip
        cases y <;> first | exact Bool.noConfusion (show false = true from h) | skip
        cases w <;> first | exact Bool.noConfusion (show false = true from h) | skip
        rename_i x px y py us k2 pt2
        rcases us with _ | ⟨u, _ | ⟨v, _ | ⟨z, r⟩⟩⟩ <;> first | exact Bool.noConfusion (show false = true from h) | skip
        have h : (decide (C.N[i]? = some x) && decide (C.N[j]? = some y) && decide (i ≠ j) && decide (C.sc.names.lookup x = some .local) && decide (C.sc.names.lookup y = some .local) && parB C.sc [.Name x px, .Name y py] [u, v] [x, y] && notStar u && notStar v && chkE false C a u && chkE false C b v) = true := h
        simp only [Bool.and_eq_true, decide_eq_true_eq] at h
        obtain ⟨⟨⟨⟨⟨⟨⟨⟨⟨h1, h2⟩, h3⟩, h4⟩, h5⟩, h6⟩, h7⟩, h8⟩, h9⟩, h10⟩ := h
        have l1 : X.env.scope.names.lookup x = some .local := by rw [O.x.sc]; exact h4
        have l2 : X.env.scope.names.lookup y = some .local := by rw [O.x.sc]; exact h5
        exact w_par O.x.fx (by rw [O.x.N]; exact h1) (by rw [O.x.N]; exact h2) h3 l1 l2 (snd_E a L O.x h9) (snd_E b L O.x h10) (starEach_cons h7 _ _) (starEach_cons h8 _ _) fun ta hp => ps_par (O.x.fx.calm O.x.nz) O.x.fx.nd (by rw [O.x.N]; exact h1) (by rw [O.x.N]; exact h2) h3 l1 l2 hp (par_ok (by rw [O.x.sc]; exact h6))
      · cases x <;> first | exact Bool.noConfusion (show false = true from h) | (cases y <;> exact Bool.noConfusion (show false = true from h))
    · cases t <;> first | exact Bool.noConfusion (show false = true from h) | skip
      rename_i es k pt
      rcases es with _ | ⟨x, _ | ⟨y, _ | ⟨z, r⟩⟩⟩ <;> first | exact Bool.noConfusion (show false = true from h) | skip
      all_goals (cases x <;> first | exact Bool.noConfusion (show false = true from h) | (cases y <;> exact Bool.noConfusion (show false = true from h)))
  | .setIx a b e, st, L, O, h => by
    cases st <;> first | exact Bool.noConfusion (show false = true from h) | skip
    rename_i ts w p
    rcases ts with _ | ⟨t, _ | ⟨t2, r⟩⟩ <;> first | exact Bool.noConfusion (show false = true from h) | skip
    · cases t <;> first | exact Bool.noConfusion (show false = true from h) | skip
      rename_i x y p2
      have h : (!isComp w && chkE false C a x && chkE false C b y && chkE false C e w && plainIx y) = true := h
      simp only [Bool.and_eq_true, Bool.not_eq_true'] at h
      obtain ⟨⟨⟨⟨h1, h2⟩, h3⟩, h4⟩, h5⟩ := h
      have hsw : swapsWithSole [.Subscript x y p2] w p.line X.env = pure false := swaps_none h1 (some (.Subscript x y p2)) p.line X.env
      have has : ∀ v, assign (.Subscript x y p2) X.env v = (do
          let ov ← holding [v] (eval x X.env)
          let iv ← holding [v, ov] (eval y X.env)
          standAt p2
          holding [v, ov, iv] (setItem ov iv v)
          release [v, ov, iv] []) := by
        intro v
        cases y <;> first | rfl | exact Bool.noConfusion (show false = true from h5)
      exact w_setIx O.x.fx (snd_E a L O.x h2) (snd_E b L O.x h3) (snd_E e L O.x h4) fun t to ti tv q1 q2 q3 q4 => ps_asg q3 (pg_sub q1 q2 q4 has) hsw rfl rfl
    · cases t <;> exact Bool.noConfusion (show false = true from h)
  | .aug i o e, st, L, O, h => by
    cases st <;> first | exact Bool.noConfusion (show false = true from h) | skip
    rename_i t op y p
    cases t <;> first | exact Bool.noConfusion (show false = true from h) | skip
    rename_i x p2
    have h : (bopB o op && decide (C.N[i]? = some x) && stoB C x && chkE false C e y) = true := h
    simp only [Bool.and_eq_true, decide_eq_true_eq] at h
    obtain ⟨⟨⟨h1, h2⟩, h3⟩, h4⟩ := h
    have e1 := bopB_ok h1
    subst e1
    obtain ⟨s1, s2⟩ := stoB_ok O.x h3
    exact w_aug O.x.fx (by rw [O.x.N]; exact h2) s1 s2 (snd_E e L O.x h4)
  | .ifs c a b, st, L, O, h => by
    cases st <;> first | exact Bool.noConfusion (show false = true from h) | skip
    rename_i x xs ys p
    have h : (chkE true C c x && chkSs C a xs && chkSs C b ys) = true := h
    simp only [Bool.and_eq_true] at h
    exact w_ifs (snd_T c L O.x h.1.1) (snd_Ss a L O h.1.2) (snd_Ss b L O h.2)
  | .whl c b, st, L, O, h => by
    cases st <;> first | exact Bool.noConfusion (show false = true from h) | skip
    rename_i x xs ys p
    cases ys <;> first | exact Bool.noConfusion (show false = true from h) | skip
    have h : (chkE true C c x && chkSs C b xs) = true := h
    simp only [Bool.and_eq_true] at h
    exact w_while O.po (snd_T c L O.x h.1) (snd_Ss b L O h.2) fun tc tb h1 h2 => ps_while O.po h1 h2
  | .for_ g it b, st, L, O, h => by
    cases st <;> first | exact Bool.noConfusion (show false = true from h) | skip
    rename_i t x xs ys p
    cases ys <;> first | exact Bool.noConfusion (show false = true from h) | skip
    have h : (chkI C t it x && chkG C g t && noSet x && chkSs C b xs) = true := h
    simp only [Bool.and_eq_true] at h
    obtain ⟨⟨⟨h1, h2⟩, h3⟩, h4⟩ := h
    obtain ⟨q1, q2⟩ := snd_I it L O.x h1
    exact w_for O.x.fx O.x.nz O.po q1 (snd_G g O.x h2) (snd_Ss b L O h4) (fun z => tg_tup h2 (q2 z)) (noSet_ok h3 _)
  | .ret e, st, L, O, h => by
    cases st <;> first | exact Bool.noConfusion (show false = true from h) | skip
    rename_i x p
    cases x <;> first | exact Bool.noConfusion (show false = true from h) | skip
    exact w_ret (snd_E e L O.x h)
  | .retN, st, L, O, h => by
    cases st <;> first | exact Bool.noConfusion (show false = true from h) | skip
    rename_i x p
    cases x <;> first | exact Bool.noConfusion (show false = true from h) | skip
    exact w_retN
  | .brk, st, L, O, h => by
    cases st <;> first | exact Bool.noConfusion (show false = true from h) | skip
    exact w_break
  | .cont, st, L, O, h => by
    cases st <;> first | exact Bool.noConfusion (show false = true from h) | skip
    exact w_continue
  | .rais i c e, st, L, O, h => by
    cases st <;> first | exact Bool.noConfusion (show false = true from h) | skip
    rename_i x y p
    cases x <;> cases y <;> first | exact Bool.noConfusion (show false = true from h) | skip
    rename_i rx
    have g : (match callView rx with
      | some (x, y) => decide (x = c) && C.exs.contains c && glB C.sc c && notStar y && chkE false C e y
      | none => false) = true := h
    split at g
    · rename_i x y hv
      obtain ⟨p1, p2, rfl⟩ := callView_ok hv
      simp only [Bool.and_eq_true, decide_eq_true_eq] at g
      obtain ⟨⟨⟨⟨rfl, h2⟩, h3⟩, h4⟩, h5⟩ := g
      obtain ⟨k, hk, T⟩ := L.exs x (by simpa using h2)
      have := O.x.rn
      exact w_raise O.x.fx O.x.tk T (by omega) (glB_ok (by rw [O.x.sc]; exact h3)) (snd_E e L O.x h5) (starEach_cons h4 _ _)
    · cases g
termination_by a => sizeOf a
theorem snd_Ss : ∀ (s : Ss) {st : List Stmt}, LW P F same C X.prog X.w X.mg X.base r → YOk P wy C r n X → chkSs C s st = true → PSs X st (tSs P F same wy s)
  | .nil, st, L, O, h => by
    cases st <;> first | exact Bool.noConfusion (show false = true from h) | skip
    exact w_nil
  | .cons a as, st, L, O, h => by
    cases st <;> first | exact Bool.noConfusion (show false = true from h) | skip
    rename_i x xs
    have h : (chkS C a x && chkSs C as xs) = true := h
    simp only [Bool.and_eq_true] at h
    exact w_cons (snd_S a L O h.1) (snd_Ss as L O h.2)
termination_by a => sizeOf a
end
end
end SS
end PT_SS5
section PT_SS6
set_option Elab.async false
set_option linter.all false
set_option maxRecDepth 100000
set_option maxHeartbeats 4000000
/-! All defs, at every depth. -/
namespace SS
open PySem PySem.Spec PyProof.Rows L2
/-- how much room a def n calls deep wants -/
def rho (c0 n : Nat) : Nat := 4 * n + c0
/-- a def of the table, as the head tells it -/
def DefH (P : Pm) (tab : Nat → Option Fn) (C : CC) (mg : Str → Option Value) (base : Heap) (f : Nat) (a : Addr) : Prop :=
  ∃ (g : Fn) (name qual : Str) (params : Arguments) (body : List Stmt) (sc : Scope) (dV kV doc pm cdv ct oc : Value) (an od : Option Addr) (osl : Array (Option Value)) (N ps : List Str) (lam : Bool),
    tab f = some g ∧ PySem.W.keepIn P.K (.ref a) = true ∧ P.K.lookup a = some ⟨oc, od, .func (PySem.W.fnOf name qual params body sc dV kV doc pm an cdv ct), osl⟩ ∧ PySem.W.codeIn P.K cdv qual = true ∧ FnScope N ps sc ∧
      Binds P.K (PySem.W.fnOf name qual params body sc dV kV doc pm an cdv ct) ps [] ∧ g.nn = N.length ∧ g.np = ps.length ∧ chkSs { C with N := N, sc := sc, fnc := true, lam := lam } g.body body = true ∧
      (lam = true → ∃ c Pt, LamX.TabB base mg c Pt ∧ cdv = .ref c ∧ (Pt, (qual ++ ".<locals>." : Str) ++ "<lambda>") ∈ P.T ∧ ∀ p ∈ P.T, p.1 = Pt → p.2 = (qual ++ ".<locals>." : Str) ++ "<lambda>")
/-- the rest of what the head tells -/
structure HeadOk (P : Pm) (tab : Nat → Option Fn) (same : Nat) (C : CC) (prog : Program) (w : World) (mg : Str → Option Value) (base : Heap) (c0 : Nat) : Prop where
  defs : ∀ f a, P.fa f = some a → DefH P tab C mg base f a
  call : ∀ x f, C.fns.contains (x, f) = true → ∃ a, P.fa f = some a ∧ mg x = some (.ref a)
  bi : ∀ x ∈ biNames, mg x = none
  gl : ∀ x d, (x, d) ∈ C.gls → ∃ v u, mg x = some u ∧ RelV v u ∧ ∀ W, VD P W d v
  hd : ∀ r, c0 ≤ r → ∃ ha, mg C.hd = some (.ref ha) ∧ PySem.W.keepIn P.K (.ref ha) = true ∧ FnHd P prog w mg base (r + 2) (r + 1) ha
  tl : (C.tl == "") = false → ∀ F r, c0 ≤ r → FnS P F prog w mg base r same → ∃ ha, mg C.tl = some (.ref ha) ∧ PySem.W.keepIn P.K (.ref ha) = true ∧ FnTl P F same prog w mg base (r + 3) (r + 1) ha 1 gTells
  rf : (C.rf == "") = false → ∀ F r, c0 ≤ r → FnS P F prog w mg base r same → ∃ ha, mg C.rf = some (.ref ha) ∧ PySem.W.keepIn P.K (.ref ha) = true ∧ FnTl P F same prog w mg base (r + 3) (r + 1) ha 2 gRef
  c1 : 1 ≤ c0
  exs : ∀ c ∈ C.exs, ∃ k, k + 1 ≤ c0 ∧ ExcIn P prog w mg base k c
  same : ∃ a, P.fa same = some a
theorem all_fns {P : Pm} {tab : Nat → Option Fn} {same : Nat} {C : CC} {prog : Program} {w : World} {mg : Str → Option Value} {base : Heap} {c0 : Nat} (O : HeadOk P tab same C prog w mg base c0) : ∀ n f a, P.fa f = some a → PySem.W.keepIn P.K (.ref a) = true ∧ FnS P (fnsN tab same n) prog w mg base (rho c0 n) f
  | 0, f, a, e => by
    obtain ⟨g, name, qual, params, body, sc, dV, kV, doc, pm, cdv, ct, oc, an, od, osl, N, ps, lam, _, h2, _⟩ := O.defs f a e
    exact ⟨h2, fun A outer s H us vs ds W M Q Ex hr e0 rv Sm rd h => h.elim⟩
  | n + 1, f, a, e => by
    obtain ⟨g, name, qual, params, body, sc, dV, kV, doc, pm, cdv, ct, oc, an, od, osl, N, ps, lam, h1, h2, h3, h4, h5, h6, h7, h8, h9, h10⟩ := O.defs f a e
    have ih := all_fns O n
    refine ⟨h2, ?_⟩
    have hr0 : rho c0 (n + 1) = (rho c0 n + 3) + 1 := by unfold rho; omega
    have hc0 : c0 ≤ rho c0 n := by unfold rho; omega
    rw [hr0]
    obtain ⟨sa, hsa⟩ := O.same
    have hsame := (ih same sa hsa).2
    refine fn_s e h2 h1 h3 h4 h5 h6 h7 h8 fun A outer s H Ex hr => ?_
    have L : LW P (fnsN tab same n) same { C with N := N, sc := sc, fnc := true, lam := lam } prog w mg base (rho c0 n) :=
      ⟨O.call, fun f a e => ih f a e, O.bi, O.gl, O.hd _ hc0, fun z => O.tl z _ _ hc0 hsame, fun z => O.rf z _ _ hc0 hsame, by have := O.c1; omega, fun c hc => by
        obtain ⟨k, hk, T⟩ := O.exs c hc
        exact ⟨k, by omega, T⟩⟩
    refine snd_Ss g.body (X := cxOf (L2N.CX prog w) prog w P.K mg base N qual sc a cdv A outer s H Ex) (C := { C with N := N, sc := sc, fnc := true, lam := lam }) (wy := fun c d H' => Ex c d H') L ⟨⟨⟨rfl, h5.nd, fun _ => rfl, fun _ => hr, L2H.roomH_of hr⟩, by omega, by omega, rfl, rfl, L2N.takes_of rfl rfl rfl rfl, fun _ _ => rfl, fun z => ⟨Nat.le_refl _, h10 z⟩⟩, passes_of rfl⟩ h9
end SS
end PT_SS6
section PT_SS7
set_option Elab.async false
set_option linter.all false
set_option maxRecDepth 100000
set_option maxHeartbeats 4000000
/-! What the head tells of the exception classes. -/
namespace SS
open PySem PySem.Spec PyProof.Rows L2
abbrev Fr : Type := PySem.W.Frag
theorem two {a b : Bool} (h : (a && b) = true) : a = true ∧ b = true := by cases a <;> cases b <;> first | exact ⟨rfl, rfl⟩ | cases h
/-- a value that lies at a name, of the written part -/
def at? (K : Fr) (o : Option (Option Value)) : Addr := match o with
  | some (some (.ref a)) => a
  | _ => 0
def gAd (K : Fr) (x : Str) : Addr := at? K (PySem.W.nsIn K mainGlobals x)
def iAd (K : Fr) (C : Addr) : Addr := at? K (PySem.W.findIn K (.ref C) "__init__")
def isAt (o : Option (Option Value)) (v : Value) : Bool := decide (o = some (some v))
theorem isAt_ok {o : Option (Option Value)} {v : Value} (h : isAt o v = true) : o = some (some v) := of_decide_eq_true h
def hasAt (o : Option (Option Value)) : Bool := match o with
  | some (some (.ref _)) => true
  | _ => false
theorem hasAt_ok {K : Fr} {o : Option (Option Value)} (h : hasAt o = true) : o = some (some (.ref (at? K o))) := by
  unfold hasAt at h
  split at h
  · rfl
  · cases h
theorem gAd_ok {K : Fr} {h : Heap} {mg : Str → Option Value} (X : K.In h) (G : h.Ns mainGlobals mg) {x : Str} (c : hasAt (PySem.W.nsIn K mainGlobals x) = true) : mg x = some (.ref (gAd K x)) := PySem.W.mg_of X G (hasAt_ok (K := K) c)
/-- the class object -/
def oxB (K : Fr) (C : Addr) : Bool := match K.lookup C with
  | some ⟨ty, dd, .cls cd, sl⟩ => (match cd.mro, sl.toList with
    | .ref C' :: bm, [k0, k1, k2, k3, some (.builtin n), k5] => decide (ty = .type "type") && (decide (C' = C) && (decide (n = "ValueError.__new__") && (PySem.HandSPX.refsVE bm && (cd.hasDict && !cd.hasDel))))
    | _, _ => false)
  | _ => false
theorem oxB_ok {K : Fr} {C : Addr} (h : oxB K C = true) : ∃ nm q N bs bm sn sub ab col dd k0 k1 k2 k3 k5, K.lookup C = some (excClassObj nm q C N bs bm true sn sub ab col dd k0 k1 k2 k3 k5 "ValueError.__new__") ∧ PySem.HandSPX.refsVE bm = true := by
  unfold oxB at h
  split at h
  · rename_i ty dd cd sl ho
    split at h
    · rename_i C' bm k0 k1 k2 k3 n k5 e1 e2
      obtain ⟨h1, h⟩ := two h
      obtain ⟨h2, h⟩ := two h
      obtain ⟨h3, h⟩ := two h
      obtain ⟨h4, h⟩ := two h
      obtain ⟨h5, h6⟩ := two h
      have h1 := of_decide_eq_true h1
      have h2 := of_decide_eq_true h2
      have h3 := of_decide_eq_true h3
      obtain ⟨nm, bs, mro, N, q, hd, sn, sub, ab, col, del⟩ := cd
      simp only at e1 h5 h6
      rw [Bool.not_eq_true'] at h6
      obtain ⟨l⟩ := sl
      simp only at e2
      subst h1 h2 h3 e1 e2 h5 h6
      exact ⟨nm, q, N, bs, bm, sn, sub, ab, col, dd, k0, k1, k2, k3, k5, ho, h4⟩
    · cases h
  · cases h
def oexB (K : Fr) (C : Addr) : Bool := oxB K C && (isAt (PySem.W.findIn K (.ref C) "__setattr__") (.builtin "object.__setattr__") && (decide (PySem.W.subIn K (.ref C) (.type "BaseException") = some true) && (decide (PySem.W.typeIn K (.ref C) = some (.type "type")) && PySem.W.keepIn K (.ref C))))
theorem oexB_ok {K : Fr} {C : Addr} (h : oexB K C = true) : OexC K C := by
  obtain ⟨h1, h⟩ := two h
  obtain ⟨h2, h⟩ := two h
  obtain ⟨h3, h⟩ := two h
  obtain ⟨h4, h5⟩ := two h
  exact ⟨oxB_ok h1, isAt_ok h2, of_decide_eq_true h3, of_decide_eq_true h4, h5⟩
/-- an __init__ that says super(): name, qualified name, parameters, body, scope, code, cell -/
structure KsD where
  name : Str
  qual : Str
  params : Arguments
  body : List Stmt
  sc : Scope
  cd : Addr
  cc : Addr
  dV : Value
def ksOf (K : Fr) (f : Addr) : Option KsD := match K.lookup f with
  | some ⟨_, _, .func ⟨name, qual, params, .stmts body, sc, gl, [(cn, cc)], dV, _, _, _, _, .ref cd, _, bl⟩, _⟩ => if decide (gl = mainGlobals) && (decide (cn = "__class__") && decide (bl = builtinsNs)) then some ⟨name, qual, params, body, sc, cd, cc, dV⟩ else none
  | _ => none
theorem ksOf_ok {K : Fr} {f : Addr} {d : KsD} (h : ksOf K f = some d) : ∃ kV doc pm ct oc an od osl, K.lookup f = some ⟨oc, od, .func (PySem.W.ksFn d.name d.qual d.params d.body d.sc d.dV kV doc pm an (.ref d.cd) ct d.cc), osl⟩ := by
  unfold ksOf at h
  split at h
  · rename_i ho
    split at h
    · rename_i hc
      obtain ⟨h1, hc⟩ := two hc
      obtain ⟨h2, h3⟩ := two hc
      have h1 := of_decide_eq_true h1
      have h2 := of_decide_eq_true h2
      have h3 := of_decide_eq_true h3
      cases h
      subst h1 h2 h3
      exact ⟨_, _, _, _, _, _, _, _, ho⟩
    · cases h
  · cases h
def supB (ps : List Str) (sc : Scope) : Bool := decide (sc.kind = .function) && (!sc.isCoroutine && (!sc.isGenerator && (decide ps.Nodup && ((ps.all fun x => decide (sc.names.lookup x = some .local)) && ((sc.names.all fun y => !decide (y.2 = .cell) && (!decide (y.2 = .free) || decide (y.1 = "__class__"))) && (decide (sc.names.lookup ("super" : Str) = some .globalImplicit) && decide (sc.names.lookup ("__class__" : Str) = some .free)))))))
theorem supB_ok {ps : List Str} {sc : Scope} (h : supB ps sc = true) : SupScope ps ps sc := by
  obtain ⟨h1, h⟩ := two h
  obtain ⟨h2, h⟩ := two h
  obtain ⟨h3, h⟩ := two h
  obtain ⟨h4, h⟩ := two h
  obtain ⟨h5, h⟩ := two h
  obtain ⟨h6, h⟩ := two h
  obtain ⟨h7, h8⟩ := two h
  have h6 := List.all_eq_true.mp h6
  refine ⟨of_decide_eq_true h1, by simpa using h2, by simpa using h3, of_decide_eq_true h4, List.take_length, fun x hx => of_decide_eq_true (List.all_eq_true.mp h5 x hx), fun y hy e => ?_, fun y hy e => ?_, of_decide_eq_true h7, of_decide_eq_true h8⟩
  · have q := (two (h6 y hy)).1
    rw [e] at q
    cases q
  · have q := (two (h6 y hy)).2
    rw [e] at q
    simpa using q
/-- the parts of SupIn -/
def supInB (K : Fr) (prog : Program) (f D C : Addr) : Bool := match ksOf K f with
  | some d => (match d.params.posonlyargs ++ d.params.args with
    | ar :: _ => decide (ar.arg = "self")
    | _ => false) && ((match K.lookup d.cd with
    | some ⟨_, _, .fields vs, _⟩ => (match (vs[2]? : Option Value) with
      | some (.str file _) => (prog.main.file : Str) == file
      | _ => false)
    | _ => false) && ((match K.lookup d.cc with
    | some ⟨_, _, .cell (some (.ref D')), _⟩ => decide (D' = D)
    | _ => false) && ((PySem.W.clsIn K D).isSome && (decide (PySem.W.mroIn K C (.ref D) = some true) && ((PySem.W.clsIn K C).isSome && PySem.W.codeIn K (.ref d.cd) d.qual)))))
  | none => false
theorem supInB_ok {K : Fr} {prog : Program} {f D C : Addr} {mg : Str → Option Value} (h : supInB K prog f D C = true) (top : (prog.main.scope.names.lookup ("super" : Str)).isSome = false) (ms : mg "super" = none) (hop : PySem.W.nsIn K cStatics "thirdparty.any" = some none) :
    ∃ d, ksOf K f = some d ∧ PySem.W.codeIn K (.ref d.cd) d.qual = true ∧ (d.sc.names.lookup ("self" : Str) = some .local → SupIn K mg prog f d.cd d.cc D C "self" d.sc) := by
  unfold supInB at h
  split at h
  · rename_i d hd
    obtain ⟨h1, h⟩ := two h
    obtain ⟨h2, h⟩ := two h
    obtain ⟨h3, h⟩ := two h
    obtain ⟨h4, h⟩ := two h
    obtain ⟨h5, h⟩ := two h
    obtain ⟨h6, h7⟩ := two h
    refine ⟨d, hd, h7, fun hl => ?_⟩
    obtain ⟨kV, doc, pm, ct, oc, an, od, osl, lk⟩ := ksOf_ok hd
    refine ⟨?_, ?_, ?_, Option.isSome_iff_exists.mp h4, of_decide_eq_true h5, top, ms, hl, hop, Option.isSome_iff_exists.mp h6⟩
    · split at h1
      · rename_i ar r e
        refine ⟨oc, od, _, osl, ar, lk, ?_, of_decide_eq_true h1⟩
        show (d.params.posonlyargs ++ d.params.args).head? = some ar
        rw [e]
        rfl
      · cases h1
    · split at h2
      · rename_i a b vs c e
        split at h2
        · rename_i file tf e2
          exact ⟨a, b, vs, c, file, tf, e, e2, h2⟩
        · cases h2
      · cases h2
    · split at h3
      · rename_i a b D' c e
        have h3 := of_decide_eq_true h3
        subst h3
        exact ⟨a, b, c, e⟩
      · cases h3
  · cases h
def nextB (K : Fr) (C D : Addr) (v : Value) : Bool := match PySem.W.clsIn K C with
  | some cd => isAt (PySem.W.alongIn K "__init__" ((cd.mro.dropWhile (· != .ref D)).drop 1)) v
  | none => false
theorem nextB_ok {K : Fr} {C D : Addr} {v : Value} (h : nextB K C D v = true) : NextIs K C D v := by
  unfold nextB at h
  split at h
  · rename_i cd e
    exact ⟨cd, e, isAt_ok h⟩
  · cases h
/-- the bodies -/
def isSup (y : Str) : Expr → Option (List Expr × Bool)
  | .Call (.Attribute (.Call (.Name s _) [] [] _) i p2) (.Name w _ :: es) [] p4 => if decide (s = "super") && (decide (i = "__init__") && decide (w = y)) then some (es, p2.endLine == p4.line) else none
  | _ => none
theorem isSup_ok {y : Str} {e : Expr} {es : List Expr} {b : Bool} (h : isSup y e = some (es, b)) : ∃ p0 p1 p2 p3 p4, e = SupCall (.Name y p3) es p0 p1 p2 p4 ∧ (p2.endLine == p4.line) = b := by
  unfold isSup at h
  split at h
  · rename_i s p0 p1 i p2 w p3 es' p4
    split at h
    · rename_i hc
      obtain ⟨h1, hc⟩ := two hc
      obtain ⟨h2, h3⟩ := two hc
      have h1 := of_decide_eq_true h1
      have h2 := of_decide_eq_true h2
      have h3 := of_decide_eq_true h3
      cases h
      subst h1 h2 h3
      exact ⟨_, _, _, _, _, rfl, rfl⟩
    · cases h
  · cases h
def isOst (a b : Str) : Stmt → Bool
  | .Assign [.Attribute (.Name s _) x _] (.Name v _) _ => decide (s = "self") && (decide (x = a) && decide (v = b))
  | _ => false
theorem isOst_ok {a b : Str} {st : Stmt} (h : isOst a b st = true) : ∃ p1 p2 p3 p4, st = .Assign [.Attribute (.Name "self" p1) a p2] (.Name b p3) p4 := by
  unfold isOst at h
  split at h
  · obtain ⟨h1, h⟩ := two h
    obtain ⟨h2, h3⟩ := two h
    have h1 := of_decide_eq_true h1
    have h2 := of_decide_eq_true h2
    have h3 := of_decide_eq_true h3
    subst h1 h2 h3
    exact ⟨_, _, _, _, rfl⟩
  · cases h
def bodyRB : List Stmt → Bool
  | [.Expr e _, s1, s2] => (match isSup "what" e with
    | some ([], b) => b
    | _ => false) && (isOst "what" "what" s1 && isOst "word" "word" s2)
  | _ => false
theorem bodyRB_ok {b : List Stmt} (h : bodyRB b = true) : ∃ p0 p1 p2 p3 p4 p5 p6 p7 p8 p9 p10 p11 p12 p13, b = bodyR p0 p1 p2 p3 p4 p5 p6 p7 p8 p9 p10 p11 p12 p13 ∧ (p2.endLine == p4.line) = true := by
  unfold bodyRB at h
  split at h
  · rename_i e p s1 s2
    obtain ⟨h1, h⟩ := two h
    obtain ⟨h2, h3⟩ := two h
    split at h1
    · rename_i b0 e1
      obtain ⟨p0, p1, p2, p3, p4, rfl, q⟩ := isSup_ok e1
      obtain ⟨p6, p7, p8, p9, rfl⟩ := isOst_ok h2
      obtain ⟨p10, p11, p12, p13, rfl⟩ := isOst_ok h3
      exact ⟨p0, p1, p2, p3, p4, p, p6, p7, p8, p9, p10, p11, p12, p13, rfl, by rw [q, h1]⟩
    · cases h1
  · cases h
def bodyXB : List Stmt → Option Str
  | [.Expr e _] => (match isSup "what" e with
    | some ([.Constant (.str nm) _ _], true) => some nm
    | _ => none)
  | _ => none
theorem bodyXB_ok {b : List Stmt} {nm : Str} (h : bodyXB b = some nm) : ∃ j p0 p1 p2 p3 p4 p5 p6, b = bodyX nm j p0 p1 p2 p3 p4 p5 p6 ∧ (p2.endLine == p4.line) = true := by
  unfold bodyXB at h
  split at h
  · rename_i e p
    split at h
    · rename_i nm' j p6 e1
      obtain ⟨p0, p1, p2, p3, p4, rfl, q⟩ := isSup_ok e1
      cases h
      exact ⟨j, p0, p1, p2, p3, p4, p, p6, rfl, q⟩
    · cases h
  · cases h
/-- parameters by name, no others -/
def argsB (ns : List Str) (a : Arguments) : Bool := a.posonlyargs.isEmpty && (decide (a.args.map (·.arg) = ns) && (a.vararg.isNone && (a.kwonlyargs.isEmpty && (a.kw_defaults.isEmpty && a.kwarg.isNone))))
theorem argsB_ok {ns : List Str} {a : Arguments} (h : argsB ns a = true) : ∃ as ds, a = ⟨[], as, none, [], [], none, ds⟩ ∧ as.map (·.arg) = ns := by
  obtain ⟨h1, h⟩ := two h
  obtain ⟨h2, h⟩ := two h
  obtain ⟨h3, h⟩ := two h
  obtain ⟨h4, h⟩ := two h
  obtain ⟨h5, h6⟩ := two h
  obtain ⟨a1, a2, a3, a4, a5, a6, a7⟩ := a
  simp only [List.isEmpty_iff, Option.isNone_iff_eq_none] at h1 h3 h4 h5 h6
  have h2 := of_decide_eq_true h2
  subst h1 h3 h4 h5 h6
  exact ⟨a2, a7, rfl, h2⟩
/-- __init__(self, what): no defaults -/
theorem bindsX {K : Fr} {name qual : Str} {params : Arguments} {body : List Stmt} {sc : Scope} {kV doc pm cdv ct : Value} {an : Option Addr} {cc : Addr} (h : argsB namesX params = true) : Binds K (PySem.W.ksFn name qual params body sc .none kV doc pm an cdv ct cc) namesX [] := by
  obtain ⟨as, ds, rfl, e⟩ := argsB_ok h
  rcases as with _ | ⟨a, _ | ⟨b, _ | ⟨c, r⟩⟩⟩ <;> simp [namesX] at e
  obtain ⟨e1, e2⟩ := e
  obtain ⟨a, a1, a2⟩ := a
  obtain ⟨b, b1, b2⟩ := b
  simp only at e1 e2
  subst e1 e2
  exact .all fun us hl => match us, hl with
    | [_, _], _ => rfl
/-- __init__(self, what, word="Refused"): all given -/
theorem bindsR {K : Fr} {name qual : Str} {params : Arguments} {body : List Stmt} {sc : Scope} {kV doc pm cdv ct : Value} {an : Option Addr} {cc T : Addr} {o : Obj} {v : Value} {n : Nat} (h : argsB namesR params = true) (lT : K.lookup T = some o) (oT : o.data = .seq #[v] n) : Binds K (PySem.W.ksFn name qual params body sc (.ref T) kV doc pm an cdv ct cc) namesR [] := by
  obtain ⟨as, ds, rfl, e⟩ := argsB_ok h
  rcases as with _ | ⟨a, _ | ⟨b, _ | ⟨c, _ | ⟨d, r⟩⟩⟩⟩ <;> simp [namesR] at e
  obtain ⟨e1, e2, e3⟩ := e
  obtain ⟨a, a1, a2⟩ := a
  obtain ⟨b, b1, b2⟩ := b
  obtain ⟨c, c1, c2⟩ := c
  simp only at e1 e2 e3
  subst e1 e2 e3
  intro s us X hl
  match us, hl with
  | [x, y, z], _ =>
    refine BindsTo.of_looks fun M => ?_
    have e1 : ∃ k, bindArgs (PySem.W.ksFn name qual ⟨[], [⟨"self", a1, a2⟩, ⟨"what", b1, b2⟩, ⟨"word", c1, c2⟩], none, [], [], none, ds⟩ body sc (.ref T) kV doc pm an cdv ct cc) ⟨[x, y, z], []⟩ = seqItems? (.ref T) >>= k ∧ k (some #[v]) = pure (namesR.zip ([x, y, z] ++ [])) := ⟨_, rfl, rfl⟩
    obtain ⟨k, e1, e2⟩ := e1
    rw [e1]
    exact looks_items X lT oT (.of_pure e2)
end SS
end PT_SS7
section PT_SS8
set_option Elab.async false
set_option linter.all false
set_option maxRecDepth 100000
set_option maxHeartbeats 4000000
/-! From the head's facts to HeadOk. -/
namespace SS
open PySem PySem.Spec PyProof.Rows L2
theorem ga_eq (K : Fr) (x : Str) : He.ga K x = gAd K x := by
  unfold He.ga gAd at?
  cases PySem.W.nsIn K mainGlobals x with
  | none => rfl
  | some o => cases o with
    | none => rfl
    | some v => cases v <;> rfl
/-! ### exception classes -/
abbrev what : Str := "what"
/-- the first class -/
def refB (K : Fr) (prog : Program) : Bool := hasAt (PySem.W.nsIn K mainGlobals "Refused") && (hasAt (PySem.W.findIn K (.ref (gAd K "Refused")) "__init__") && ((match ksOf K (iAd K (gAd K "Refused")) with
  | some d => bodyRB d.body && (supB namesR d.sc && (argsB namesR d.params && ((match d.dV with
    | .ref T => (match K.lookup T with
      | some ⟨_, _, .seq its _, _⟩ => decide (its.size = 1)
      | _ => false)
    | _ => false) && ((match K.lookup d.cc with
    | some ⟨_, _, .cell (some (.ref D')), _⟩ => decide (D' = gAd K "Refused")
    | _ => false) && PySem.W.codeIn K (.ref d.cd) d.qual))))
  | none => false) && (decide (PySem.W.typeIn K (.ref (iAd K (gAd K "Refused"))) = some (.type "function")) && (PySem.W.fnIn K (iAd K (gAd K "Refused")) && (decide (PySem.W.specialIn K (.builtin "object.__class__") "__get__" = some (some (.builtin "getset_descriptor.__get__"))) &&
    (decide (PySem.W.takesIn K (.builtin "object.__class__") = some true) && (decide (PySem.W.nsIn K cStatics "thirdparty.any" = some none) && (decide (PySem.W.nsIn K mainGlobals "super" = some none) && !(prog.main.scope.names.lookup ("super" : Str)).isSome))))))))
/-- a class under it -/
def excB (K : Fr) (prog : Program) (c : Str) : Bool := hasAt (PySem.W.nsIn K mainGlobals c) && (!(c == ("__debug__" : Str)) && (hasAt (PySem.W.findIn K (.ref (gAd K c)) "__init__") && (oexB K (gAd K c) && (supInB K prog (iAd K (gAd K "Refused")) (gAd K "Refused") (gAd K c) && (nextB K (gAd K c) (gAd K "Refused") (.builtin "ValueError.__init__") && (decide (PySem.W.subIn K (.ref (gAd K c)) (.type "ValueError") = some true) &&
  (decide (PySem.W.findIn K (.ref (gAd K c)) what = some none) && (decide (PySem.W.findIn K (.ref (gAd K c)) "word" = some none) && (supInB K prog (iAd K (gAd K c)) (gAd K c) (gAd K c) && (nextB K (gAd K c) (gAd K c) (.ref (iAd K (gAd K "Refused"))) && (decide (PySem.W.typeIn K (.ref (iAd K (gAd K c))) = some (.type "function")) &&
  ((match ksOf K (iAd K (gAd K c)) with
  | some d => (bodyXB d.body).isSome && (supB namesX d.sc && (argsB namesX d.params && decide (d.dV = .none)))
  | none => false) && ((PySem.W.clsIn K (gAd K c)).isSome && (xfB K (gAd K c) && (isAt (PySem.W.findIn K (.ref (gAd K c)) "__class__") (.builtin "object.__class__") && (decide (PySem.W.mroIn K (gAd K c) (.type "object") = some true) && decide (PySem.W.exmOne K (.ref (gAd K c)) (.ref (gAd K "Refused")) = some true)))))))))))))))))
def pairB (K : Fr) (ns : List Str) : Bool := ns.all fun c => ns.all fun n => decide (PySem.W.kitOne K (.ref (gAd K c)) (.ref (gAd K n)) = some (n == c))
def caOf (K : Fr) (ns : List Str) (c : Str) : Option Addr := if c ∈ ns then some (gAd K c) else none
theorem caOf_ok {K : Fr} {ns : List Str} {c : Str} {C : Addr} (h : caOf K ns c = some C) : c ∈ ns ∧ C = gAd K c := by
  unfold caOf at h
  split at h
  · cases h
    exact ⟨by assumption, rfl⟩
  · cases h
section
variable {K : Fr} {prog : Program} {w : World} {mg : Str → Option Value} {h base : Heap}
theorem lself {ps : List Str} {sc : Scope} (h : supB ps sc = true) (hp : ("self" : Str) ∈ ps) : sc.names.lookup ("self" : Str) = some .local := (supB_ok h).par _ hp
/-- the first class's __init__ -/
theorem ref_ok (X : K.In h) (G : h.Ns mainGlobals mg) (r : refB K prog = true) : ∃ (d : KsD) (fd : FuncData), ksOf K (iAd K (gAd K "Refused")) = some d ∧ d.sc.names.lookup ("self" : Str) = some .local ∧ Binds K fd namesR [] ∧
    FnOk prog w K mg base (L2N.CX prog w) 1 (iAd K (gAd K "Refused")) fd namesR (spR K mg prog (iAd K (gAd K "Refused")) d.cd d.cc (gAd K "Refused") d.sc) := by
  obtain ⟨r1, r⟩ := two r
  obtain ⟨r2, r⟩ := two r
  obtain ⟨r3, r⟩ := two r
  split at r3
  · rename_i d hd
    obtain ⟨a1, r3⟩ := two r3
    obtain ⟨a2, r3⟩ := two r3
    obtain ⟨a3, r3⟩ := two r3
    obtain ⟨a4, r3⟩ := two r3
    obtain ⟨a5, a6⟩ := two r3
    obtain ⟨kV, doc, pm, ct, oc, an, od, osl, lk⟩ := ksOf_ok hd
    obtain ⟨p0, p1, p2, p3, p4, p5, p6, p7, p8, p9, p10, p11, p12, p13, eb, hl⟩ := bodyRB_ok a1
    split at a4
    · rename_i T eT
      split at a4
      · rename_i o1 o2 its n o3 eL
        have a4 := of_decide_eq_true a4
        obtain ⟨v, ev⟩ : ∃ v, its = #[v] := by
          obtain ⟨l⟩ := its
          match l, a4 with
          | [v], _ => exact ⟨v, rfl⟩
        subst ev
        split at a5
        · rename_i c1 c2 D' c3 e5
          have a5 := of_decide_eq_true a5
          subst a5
          rw [eT] at lk
          rw [eb] at lk
          have hb := bindsR (K := K) (name := d.name) (qual := d.qual) (body := bodyR p0 p1 p2 p3 p4 p5 p6 p7 p8 p9 p10 p11 p12 p13) (sc := d.sc) (kV := kV) (doc := doc) (pm := pm) (cdv := .ref d.cd) (ct := ct) (an := an) (cc := d.cc) (o := ⟨o1, o2, .seq #[v] n, o3⟩) a3 eL rfl
          exact ⟨d, _, hd, lself a2 (by simp [namesR]), hb, init_R (k := 0) lk a6 (supB_ok a2) ⟨c1, c2, c3, e5⟩ hl⟩
        · cases a5
      · cases a4
    · cases a4
  · cases r3
theorem exc_ok {P : Pm} {ns : List Str} {c : Str} (hK : P.K = K) (hca : P.ca = caOf K ns) (X : K.In h) (G : h.Ns mainGlobals mg) (r : refB K prog = true) (e : excB K prog c = true) (hc : c ∈ ns) : ExcIn P prog w mg base 2 c ∧ ThrC K (gAd K c) := by
  obtain ⟨dR, fdR, hdR, hsR, hbR, FR⟩ := ref_ok (w := w) (base := base) X G r
  obtain ⟨r1, r⟩ := two r
  obtain ⟨r2, r⟩ := two r
  obtain ⟨r3, r⟩ := two r
  obtain ⟨r4, r⟩ := two r
  obtain ⟨r5, r⟩ := two r
  obtain ⟨r6, r⟩ := two r
  obtain ⟨r7, r⟩ := two r
  obtain ⟨r8, r⟩ := two r
  obtain ⟨r9, r10⟩ := two r
  have r8 := of_decide_eq_true r8
  have r9 := PySem.W.mg_none_of X G (of_decide_eq_true r9)
  have r10 : (prog.main.scope.names.lookup ("super" : Str)).isSome = false := by simpa using r10
  obtain ⟨e1, e⟩ := two e
  obtain ⟨e2, e⟩ := two e
  obtain ⟨e3, e⟩ := two e
  obtain ⟨e4, e⟩ := two e
  obtain ⟨e5, e⟩ := two e
  obtain ⟨e6, e⟩ := two e
  obtain ⟨e7, e⟩ := two e
  obtain ⟨e8, e⟩ := two e
  obtain ⟨e9, e⟩ := two e
  obtain ⟨e10, e⟩ := two e
  obtain ⟨e11, e⟩ := two e
  obtain ⟨e12, e⟩ := two e
  obtain ⟨e13, e⟩ := two e
  obtain ⟨e14, e⟩ := two e
  obtain ⟨e15, e⟩ := two e
  obtain ⟨e16, e⟩ := two e
  obtain ⟨e17, e18⟩ := two e
  obtain ⟨d1, q1, q2, q3⟩ := supInB_ok (mg := mg) e5 r10 r9 r8
  rw [hdR] at q1
  cases q1
  have RC : RefC K mg prog (iAd K (gAd K "Refused")) dR.cd dR.cc (gAd K "Refused") dR.sc (gAd K c) := ⟨q3 hsR, oexB_ok e4, nextB_ok e6, of_decide_eq_true e7, of_decide_eq_true e8, of_decide_eq_true e9⟩
  obtain ⟨d2, k1, k2, k3⟩ := supInB_ok (mg := mg) e10 r10 r9 r8
  rw [k1] at e13
  obtain ⟨b1, b⟩ := two e13
  obtain ⟨b2, b⟩ := two b
  obtain ⟨b3, b4⟩ := two b
  have b4 := of_decide_eq_true b4
  obtain ⟨nm, hnm⟩ := Option.isSome_iff_exists.mp b1
  obtain ⟨j, p0, p1, p2, p3, p4, p5, p6, eb, hl⟩ := bodyXB_ok hnm
  obtain ⟨kV, doc, pm, ct, oc, an, od, osl, lk⟩ := ksOf_ok k1
  rw [eb, b4] at lk
  have SX := k3 (lself b2 (by simp [namesX]))
  have FX := init_X (P := prog) (w := w) (mg := mg) (base := base) (k := 1) (k2 := 1) lk k2 (supB_ok b2) hl RC SX (nextB_ok e11) (of_decide_eq_true r4) r5 FR (Nat.le_refl _) hbR
  have hb := bindsX (K := K) (name := d2.name) (qual := d2.qual) (body := bodyX nm j p0 p1 p2 p3 p4 p5 p6) (sc := d2.sc) (kV := kV) (doc := doc) (pm := pm) (cdv := .ref d2.cd) (ct := ct) (an := an) (cc := d2.cc) b3
  refine ⟨⟨gAd K c, iAd K (gAd K c), PySem.W.ksFn d2.name d2.qual d2.params (bodyX nm j p0 p1 p2 p3 p4 p5 p6) d2.sc .none kV doc pm an (.ref d2.cd) ct d2.cc, nm, ?_, gAd_ok X G e1, by simpa using e2, ?_, ?_, ?_, ?_, ?_⟩, e14, xfB_ok e15, isAt_ok e16, of_decide_eq_true r6, of_decide_eq_true r7, of_decide_eq_true e17⟩
  · rw [hca]
    unfold caOf
    rw [if_pos hc]
  · rw [hK]; exact oexB_ok e4
  · rw [hK]; exact hasAt_ok (K := K) e3
  · rw [hK]; exact of_decide_eq_true e12
  · rw [hK]; exact FX
  · rw [hK]; exact hb
theorem exc_all {P : Pm} {ns : List Str} (w : World) (hK : P.K = K) (hca : P.ca = caOf K ns) (X : K.In h) (G : h.Ns mainGlobals mg) (r : refB K prog = true) (e : ∀ c ∈ ns, excB K prog c = true) (p : pairB K ns = true) (nd : ns.Nodup) (sh : (ns.all fun n => decide (n.length ≤ 1000)) = true) (hl : ns.length ≤ 1000) : ExcAll P mg (gAd K "Refused") ns := by
  refine ⟨nd, fun n hn => of_decide_eq_true (List.all_eq_true.mp sh n hn), hl, fun c C hc => ?_⟩
  rw [hca] at hc
  obtain ⟨hm, rfl⟩ := caOf_ok hc
  have z := exc_ok (w := w) (base := h) hK hca X G r (e c hm) hm
  have q := e c hm
  obtain ⟨e1, q⟩ := two q
  obtain ⟨e2, q⟩ := two q
  obtain ⟨e3, q⟩ := two q
  obtain ⟨e4, q⟩ := two q
  obtain ⟨e5, q⟩ := two q
  obtain ⟨e6, q⟩ := two q
  obtain ⟨e7, q⟩ := two q
  obtain ⟨e8, q⟩ := two q
  obtain ⟨e9, q⟩ := two q
  obtain ⟨e10, q⟩ := two q
  obtain ⟨e11, q⟩ := two q
  obtain ⟨e12, q⟩ := two q
  obtain ⟨e13, q⟩ := two q
  obtain ⟨e14, q⟩ := two q
  obtain ⟨e15, q⟩ := two q
  obtain ⟨e16, q⟩ := two q
  obtain ⟨e17, e18⟩ := two q
  rw [hK]
  refine ⟨hm, z.2, of_decide_eq_true e8, of_decide_eq_true e18, fun n hn => ⟨gAd K n, ?_, of_decide_eq_true (List.all_eq_true.mp (List.all_eq_true.mp p c hm) n hn)⟩⟩
  have q := e n hn
  exact gAd_ok X G (two q).1
end
/-! ### data of the module -/
mutual
def relD (K : Fr) : D → Value → Bool
  | .none, .none => true
  | .bool a, .bool b => a == b
  | .int a, .int b _ => decide (a = b)
  | .str a, .str b _ => decide (a = b)
  | .tuple ds, .ref a => (match K.lookup a with
    | some ⟨.type t, none, .seq its _, _⟩ => decide (t = "tuple") && (decide (its.size ≤ sizeLine) && relDs K ds its.toList)
    | _ => false)
  | _, _ => false
def relDs (K : Fr) : List D → List Value → Bool
  | [], [] => true
  | d :: ds, v :: vs => relD K d v && relDs K ds vs
  | _, _ => false
end
mutual
theorem relD_ok {P : Pm} : ∀ {d : D} {u : Value}, relD P.K d u = true → ∃ v, RelV v u ∧ ∀ W, VD P W d v
  | .none, u, h => by
    cases u <;> first | exact Bool.noConfusion (show false = true from h) | exact ⟨.non, rfl, fun _ => .non⟩
  | .bool a, u, h => by
    cases u <;> first | exact Bool.noConfusion (show false = true from h) | skip
    have e := beq_iff_eq.mp (show (a == _) = true from h)
    subst e
    exact ⟨.bl _, rfl, fun _ => .bl _⟩
  | .int a, u, h => by
    cases u <;> first | exact Bool.noConfusion (show false = true from h) | skip
    have e := of_decide_eq_true (show decide (a = _) = true from h)
    subst e
    exact ⟨.int _, ⟨_, rfl⟩, fun _ => .int _⟩
  | .str a, u, h => by
    cases u <;> first | exact Bool.noConfusion (show false = true from h) | skip
    have e := of_decide_eq_true (show decide (a = _) = true from h)
    subst e
    exact ⟨.str _, ⟨_, rfl⟩, fun _ => .str _⟩
  | .tuple ds, u, h => by
    cases u <;> first | exact Bool.noConfusion (show false = true from h) | skip
    rename_i a
    have h : (match P.K.lookup a with
      | some ⟨.type t, none, .seq its _, _⟩ => decide (t = "tuple") && (decide (its.size ≤ sizeLine) && relDs P.K ds its.toList)
      | _ => false) = true := h
    split at h
    · rename_i t its n sl e
      obtain ⟨h1, h⟩ := two h
      obtain ⟨h2, h3⟩ := two h
      have h1 := of_decide_eq_true h1
      subst h1
      obtain ⟨vs, q1, q2⟩ := relDs_ok h3
      exact ⟨.ref a, rfl, fun W => .tup (.inr ⟨_, its, n, e, rfl, rfl, rfl, of_decide_eq_true h2, q1⟩) (q2 W)⟩
    · cases h
  | .list ds, u, h => by
    cases u <;> exact Bool.noConfusion (show false = true from h)
  | .dict ds, u, h => by
    cases u <;> exact Bool.noConfusion (show false = true from h)
theorem relDs_ok {P : Pm} : ∀ {d : List D} {u : List Value}, relDs P.K d u = true → ∃ v, Vals v u ∧ ∀ W, VDs P W d v
  | [], [], h => ⟨[], .nil, fun _ => .nil⟩
  | [], _ :: _, h => Bool.noConfusion (show false = true from h)
  | _ :: _, [], h => Bool.noConfusion (show false = true from h)
  | d :: ds, v :: vs, h => by
    obtain ⟨h1, h2⟩ := two (show (relD P.K d v && relDs P.K ds vs) = true from h)
    obtain ⟨x, a1, a2⟩ := relD_ok h1
    obtain ⟨xs, b1, b2⟩ := relDs_ok h2
    exact ⟨x :: xs, .cons a1 b1, fun W => .cons (a2 W) (b2 W)⟩
end
def glsB (K : Fr) (gls : List (Str × D)) : Bool := gls.all fun p => match PySem.W.nsIn K mainGlobals p.1 with
  | some (some u) => relD K p.2 u
  | _ => false
theorem glsB_ok {P : Pm} {h : Heap} {mg : Str → Option Value} {gls : List (Str × D)} (X : P.K.In h) (G : h.Ns mainGlobals mg) (e : glsB P.K gls = true) : ∀ x d, (x, d) ∈ gls → ∃ v u, mg x = some u ∧ RelV v u ∧ ∀ W, VD P W d v := fun x d hm => by
  have q := List.all_eq_true.mp e (x, d) hm
  simp only at q
  split at q
  · rename_i u eu
    obtain ⟨v, a, b⟩ := relD_ok q
    exact ⟨v, u, PySem.W.mg_of X G eu, a, b⟩
  · cases q
def freeB (K : Fr) (ns : List Str) : Bool := ns.all fun x => decide (PySem.W.nsIn K mainGlobals x = some none)
theorem freeB_ok {K : Fr} {h : Heap} {mg : Str → Option Value} {ns : List Str} (X : K.In h) (G : h.Ns mainGlobals mg) (e : freeB K ns = true) : ∀ x ∈ ns, mg x = none := fun x hm => PySem.W.mg_none_of X G (of_decide_eq_true (List.all_eq_true.mp e x hm))
def namesB (K : Fr) (ns : List Str) : Bool := ns.all fun x => hasAt (PySem.W.nsIn K mainGlobals x)
theorem namesB_ok {K : Fr} {h : Heap} {mg : Str → Option Value} {ns : List Str} (X : K.In h) (G : h.Ns mainGlobals mg) (e : namesB K ns = true) : ∀ x ∈ ns, mg x = some (.ref (gAd K x)) := fun x hm => gAd_ok X G (List.all_eq_true.mp e x hm)
/-! ### scopes -/
def fnScB (N ps : List Str) (sc : Scope) : Bool := decide (sc.kind = .function) && (!sc.isCoroutine && (!sc.isGenerator && (decide N.Nodup && (decide (N.take ps.length = ps) && ((ps.all fun x => locB sc x) && sc.names.all fun y => !decide (y.2 = .free))))))
theorem fnScB_ok {N ps : List Str} {sc : Scope} (h : fnScB N ps sc = true) : FnScope N ps sc := by
  obtain ⟨h1, h⟩ := two h
  obtain ⟨h2, h⟩ := two h
  obtain ⟨h3, h⟩ := two h
  obtain ⟨h4, h⟩ := two h
  obtain ⟨h5, h⟩ := two h
  obtain ⟨h6, h7⟩ := two h
  refine ⟨of_decide_eq_true h1, by simpa using h2, by simpa using h3, of_decide_eq_true h4, of_decide_eq_true h5, fun x hx => locB_ok (List.all_eq_true.mp h6 x hx), fun y hy e => ?_⟩
  have q := List.all_eq_true.mp h7 y hy
  rw [e] at q
  cases q
end SS
end PT_SS8
section PT_SS9
set_option Elab.async false
set_option linter.all false
set_option maxRecDepth 100000
set_option maxHeartbeats 4000000
/-! The defs that hear; all together. -/
namespace SS
open PySem PySem.Spec PyProof.Rows L2
/-! ### views of the four bodies -/
def hv1 : List Stmt → Option (Expr × Str × Str × Expr)
  | [.Try [.Return (some a) _] [.ExceptHandler (some (.Name en _)) (some rn) [.Return (some b) _] _] [] [] _] => some (a, en, rn, b)
  | _ => none
theorem hv1_ok {l : List Stmt} {a b : Expr} {en rn : Str} (h : hv1 l = some (a, en, rn, b)) : ∃ p5 p6 q18 p7 p8, l = [.Try [.Return (some a) p5] [.ExceptHandler (some (.Name en p6)) (some rn) [.Return (some b) q18] p7] [] [] p8] := by
  unfold hv1 at h
  split at h
  · cases h
    exact ⟨_, _, _, _, _, rfl⟩
  · cases h
def hv2 : Expr → Option Str
  | .Tuple [.Constant (.str tw) _ _, .Call (.Name dn _) [] [] _] _ _ => if tw = "told" then some dn else none
  | _ => none
theorem hv2_ok {e : Expr} {dn : Str} (h : hv2 e = some dn) : ∃ k0 p1 p2 p3 k5 p4, e = .Tuple [.Constant (.str "told") k0 p1, .Call (.Name dn p2) [] [] p3] k5 p4 := by
  unfold hv2 at h
  split at h
  · split at h
    · rename_i e1
      subst e1
      cases h
      exact ⟨_, _, _, _, _, _, rfl⟩
    · cases h
  · cases h
def hv3 : Expr → Option (Expr × Str)
  | .Tuple [.Call (.Attribute (.Constant (.str bl) _ _) jn q8) [lc] [] q9, .Attribute (.Name r3 _) wt _] _ _ => if decide (bl = " ") && (decide (jn = "join") && (decide (wt = "what") && (q8.endLine == q9.line))) then some (lc, r3) else none
  | _ => none
theorem hv3_ok {e lc : Expr} {rn : Str} (h : hv3 e = some (lc, rn)) : ∃ k1 q7 q8 q9 q15 q16 k4 q17, e = .Tuple [.Call (.Attribute (.Constant (.str " ") k1 q7) "join" q8) [lc] [] q9, .Attribute (.Name rn q15) "what" q16] k4 q17 ∧ (q8.endLine == q9.line) = true := by
  unfold hv3 at h
  split at h
  · split at h
    · rename_i e1
      obtain ⟨h1, e1⟩ := two e1
      obtain ⟨h2, e1⟩ := two e1
      obtain ⟨h3, h4⟩ := two e1
      have h1 := of_decide_eq_true h1
      have h2 := of_decide_eq_true h2
      have h3 := of_decide_eq_true h3
      cases h
      subst h1 h2 h3
      exact ⟨_, _, _, _, _, _, _, _, rfl, h4⟩
    · cases h
  · cases h
def hv4 : Expr → Option (Str × Str × Str × Scope)
  | .ListComp (.Subscript (.Name ln _) (.Constant (.int i0) _ _) _) [⟨.Name l2 _, .Call (.Name x _) [.Name r2 _] [] _, [.Subscript (.Name l3 _) (.Constant (.int i1) _ _) _], as⟩] scope _ => if decide (i0 = 0) && (decide (l2 = ln) && (decide (l3 = ln) && (decide (i1 = 1) && decide (as = 0)))) then some (ln, x, r2, scope) else none
  | _ => none
theorem hv4_ok {e : Expr} {ln x rn : Str} {scope : Scope} (h : hv4 e = some (ln, x, rn, scope)) : ∃ q1 k2 q2 q3 q4 q5 q6 q10 q11 k3 q12 q13 q14, e = .ListComp (.Subscript (.Name ln q1) (.Constant (.int 0) k2 q2) q3) [⟨.Name ln q4, .Call (.Name x q5) [.Name rn q6] [] q10, [.Subscript (.Name ln q11) (.Constant (.int 1) k3 q12) q13], 0⟩] scope q14 := by
  unfold hv4 at h
  split at h
  · split at h
    · rename_i e1
      obtain ⟨h1, e1⟩ := two e1
      obtain ⟨h2, e1⟩ := two e1
      obtain ⟨h3, e1⟩ := two e1
      obtain ⟨h4, h5⟩ := two e1
      have h1 := of_decide_eq_true h1
      have h2 := of_decide_eq_true h2
      have h3 := of_decide_eq_true h3
      have h4 := of_decide_eq_true h4
      have h5 := of_decide_eq_true h5
      cases h
      subst h1 h2 h3 h4 h5
      exact ⟨_, _, _, _, _, _, _, _, _, _, _, _, _, rfl⟩
    · cases h
  · cases h
def okNs (l : List Str) : Bool := l.all fun y => !(y == ("__debug__" : Str)) && !(y == ("__classdict__" : Str))
/-- the def that hears, with its scope: names of the def of classes, of the first class -/
def heardB (cl : Str) (l : List Stmt) (sc : Scope) : Bool := match hv1 l with
  | some (a, en, rn, b) => (match hv2 a, hv3 b with
    | some dn, some (lc, r3) => (match hv4 lc with
      | some (ln, x, r2, scope) => decide (r3 = rn) && (decide (r2 = rn) && (decide (x = cl) && (decide (en = "Refused") && (fnScB [dn, rn, ln] [dn] sc && (decide (sc.names.lookup x = some .globalImplicit) && (decide (sc.names.lookup en = some .globalImplicit) && (decide (sc.names.lookup rn = some .local) && (blkC [dn, rn, ln] sc scope [(ln, 2)] && (decide (scope.names.lookup ln = some .local) && okNs [x, en, dn, rn, ln])))))))))
      | none => false)
    | _, _ => false)
  | none => false
def heardD (l : List Stmt) : Str := match hv1 l with
  | some (a, _) => (hv2 a).getD ""
  | none => ""
def clsV : List Stmt → Option (List Expr)
  | [.Return (some (.List es _)) _] => some es
  | _ => none
theorem clsV_ok {l : List Stmt} {es : List Expr} (h : clsV l = some es) : ∃ lp rp, l = [.Return (some (.List es lp)) rp] := by
  unfold clsV at h
  split at h
  · cases h
    exact ⟨_, _, rfl⟩
  · cases h
def classesB (nm : Str) (ns : List Str) (l : List Stmt) (sc : Scope) : Bool := match clsV l with
  | some es => decide (clsP nm es = some ns) && (fnScB [nm] [nm] sc && ((("isinstance" : Str) :: ns).all (fun n => decide (sc.names.lookup n = some .globalImplicit)) && okNs [nm]))
  | none => false
def tlV : List Stmt → Option (Str × Str × Str × List Expr)
  | [.Return (some (.Call (.Name sx _) [.Call (.Name hx _) [.Name dn _] [] _, .Tuple es _ _] [] _)) _] => some (sx, hx, dn, es)
  | _ => none
theorem tlV_ok {l : List Stmt} {sx hx dn : Str} {es : List Expr} (h : tlV l = some (sx, hx, dn, es)) : ∃ k0 p1 p2 p3 p4 p5 p6 p7, l = bodyT sx hx dn es k0 p1 p2 p3 p4 p5 p6 p7 := by
  unfold tlV at h
  split at h
  · cases h
    exact ⟨_, _, _, _, _, _, _, _, rfl⟩
  · cases h
/-- names, texts -/
def plainEs (N : List Str) (sc : Scope) : Es → List Expr → Bool
  | .nil, [] => true
  | .cons (.c (.str z)) as, .Constant (.str y) _ _ :: es => decide (z = y) && plainEs N sc as es
  | .cons (.v i) as, .Name y _ :: es => decide (N[i]? = some y) && (visB sc y && (okN y && plainEs N sc as es))
  | _, _ => false
theorem plainEs_ok {P : Pm} {F : Fns} {same : Nat} {N : List Str} {sc : Scope} : ∀ {as : Es} {es : List Expr}, plainEs N sc as es = true → ∀ (X : Cx) (wx : WX), X.N = N → X.env.scope = sc → PA X es (tEs P F same wx as)
  | .nil, es, h, X, wx, e1, e2 => by
    cases es <;> first | exact Bool.noConfusion (show false = true from h) | exact s_nil
  | .cons a as, es, h, X, wx, e1, e2 => by
    cases es with
    | nil => cases a <;> first | exact Bool.noConfusion (show false = true from h) | (rename_i k; cases k <;> exact Bool.noConfusion (show false = true from h))
    | cons e es =>
      cases a <;> first | exact Bool.noConfusion (show false = true from h) | skip
      · rename_i k
        cases k <;> first | exact Bool.noConfusion (show false = true from h) | skip
        cases e <;> first | exact Bool.noConfusion (show false = true from h) | skip
        rename_i z c j p
        cases c <;> first | exact Bool.noConfusion (show false = true from h) | skip
        rename_i y
        obtain ⟨h1, h2⟩ := two (show (decide (z = y) && plainEs N sc as es) = true from h)
        have h1 := of_decide_eq_true h1
        subst h1
        exact s_cons s_str (plainEs_ok h2 X wx e1 e2) rfl
      · cases e <;> first | exact Bool.noConfusion (show false = true from h) | skip
        rename_i i y p
        obtain ⟨h1, h⟩ := two (show (decide (N[i]? = some y) && (visB sc y && (okN y && plainEs N sc as es))) = true from h)
        obtain ⟨h2, h⟩ := two h
        obtain ⟨h3, h4⟩ := two h
        exact s_cons (s_var (by rw [e1]; exact of_decide_eq_true h1) (by rw [e2]; exact visB_ok h2) (okN_ok h3).1 (okN_ok h3).2) (plainEs_ok h4 X wx e1 e2) rfl
def asTl : Es := .cons (.c (.str "told")) (.cons (.v 1) .nil)
def asRf : Es := .cons (.v 1) (.cons (.v 2) .nil)
def tlB (same hd : Str) (N : List Str) (as : Es) (l : List Stmt) (sc : Scope) : Bool := match tlV l with
  | some (sx, hx, dn, es) => decide (N.head? = some dn) && (decide (sx = same) && (decide (hx = hd) && (fnScB N N sc && (decide (sc.names.lookup hx = some .globalImplicit) && (decide (sc.names.lookup sx = some .globalImplicit) && (okNs [hx, sx, dn] && plainEs N sc as es))))))
  | none => false
theorem hgTl {F : Fns} {same : Nat} : ∀ ds : List D, ds.length = 1 → (gTells ds).length ≤ 100 ∧ ∀ M, evEs F same asTl (none :: ds.map some) M = .ok (gTells ds) M := fun ds hl => match ds, hl with
  | [d], _ => ⟨by show 2 ≤ 100; omega, fun M => by simp [asTl, evEs, evE, gTells, K1.d]⟩
theorem hgRf {F : Fns} {same : Nat} : ∀ ds : List D, ds.length = 2 → (gRef ds).length ≤ 100 ∧ ∀ M, evEs F same asRf (none :: ds.map some) M = .ok (gRef ds) M := fun ds hl => match ds, hl with
  | [d, e], _ => ⟨by show 2 ≤ 100; omega, fun M => by simp [asRf, evEs, evE, gRef]⟩
end SS
end PT_SS9
section PT_SS10
set_option Elab.async false
set_option linter.all false
set_option maxRecDepth 100000
set_option maxHeartbeats 4000000
/-! A law's text: its defs as data; the end. -/
namespace SS
open PySem PySem.Spec PyProof.Rows L2
structure DI where
  x : Str
  f : Nat
  st : Stmt
  g : Fn
  N : List Str
  ps : List Str
  lam : Bool
abbrev ddOf (x : Str) (st : Stmt) : He.DefD := ⟨(x, none), x, x, defArgs st, defBody st, defScope st, [], []⟩
/-- positional arguments are bound as written -/
def Bd (x : Str) (st : Stmt) (ps : List Str) : Prop := ∀ (kV doc pm : Value) (an : Option Addr) (cdv ct : Value) (us : List Value), us.length = ps.length → bindArgs (PySem.W.fnOf x x (defArgs st) (defBody st) (defScope st) .none kV doc pm an cdv ct) ⟨us, []⟩ = pure (ps.zip us)
abbrev ccOf (C : CC) (d : DI) : CC := { C with N := d.N, sc := defScope d.st, fnc := true, lam := d.lam }
def DI.chk (C : CC) (d : DI) : Bool := fnScB d.N d.ps (defScope d.st) && (decide (d.g.nn = d.N.length) && (decide (d.g.np = d.ps.length) && chkSs (ccOf C d) d.g.body (defBody d.st)))
/-- a law's text -/
structure LT where
  prog : Program
  C : CC
  dis : List DI
  same : Nat
  exs : List Str
  cx : Str
  cst : Stmt
  hst : Stmt
  tst : Option Stmt
  rst : Option Stmt
  cnm : Str
  tN : List Str
  rN : List Str
def LT.tab (T : LT) (f : Nat) : Option Fn := (T.dis.find? fun d => d.f == f).map (·.g)
def optD (x : Str) : Option Stmt → List He.DefD
  | some st => [ddOf x st]
  | none => []
def LT.fn (T : LT) : List He.DefD := ddOf T.cx T.cst :: ddOf T.C.hd T.hst :: (optD T.C.tl T.tst ++ (optD T.C.rf T.rst ++ T.dis.map fun d => ddOf d.x d.st))
def LT.tf (T : LT) : List He.Defn := (T.dis.filter (·.lam)).map fun d => (d.x, none)
def LT.ex (T : LT) (K : Fr) : Bool := refB K T.prog && ((T.exs.all (excB K T.prog)) && (pairB K T.exs && (glsB K T.C.gls && (freeB K biNames && (namesB K (T.cx :: T.C.hd :: ((if T.tst.isSome then [T.C.tl] else []) ++ ((if T.rst.isSome then [T.C.rf] else []) ++ T.dis.map (·.x)))) && ((K.all fun p => !decide (p.2.cls = .type "list")) && decide ((T.tf.map fun p => (He.cT K p).2).Nodup)))))))
/-- what is looked at ahead of all -/
structure LT.Ok (T : LT) : Prop where
  chk : (T.dis.all (DI.chk T.C)) = true
  bd : ∀ d ∈ T.dis, Bd d.x d.st d.ps
  nums : (T.dis.map (·.f)).Nodup
  fns : (T.C.fns.all fun p => T.dis.any fun d => decide (d.x = p.1) && decide (d.f = p.2)) = true
  same : (T.dis.any fun d => decide (d.f = T.same)) = true
  sname : ∀ d ∈ T.dis, d.f = T.same → d.x = "_law_same"
  exs : T.C.exs = T.exs
  nd : T.exs.Nodup
  sh : (T.exs.all fun n => decide (n.length ≤ 1000)) = true
  hl : T.exs.length ≤ 1000
  cls : classesB T.cnm T.exs (defBody T.cst) (defScope T.cst) = true
  cbd : Bd T.cx T.cst [T.cnm]
  hrd : heardB T.cx (defBody T.hst) (defScope T.hst) = true
  hbd : Bd T.C.hd T.hst [heardD (defBody T.hst)]
  tlo : (T.C.tl == "") = false → ∃ st, T.tst = some st ∧ T.tN.length = 2 ∧ tlB "_law_same" T.C.hd T.tN asTl (defBody st) (defScope st) = true ∧ Bd T.C.tl st T.tN
  rfo : (T.C.rf == "") = false → ∃ st, T.rst = some st ∧ T.rN.length = 3 ∧ tlB "_law_same" T.C.hd T.rN asRf (defBody st) (defScope st) = true ∧ Bd T.C.rf st T.rN
/-! ### the Hook -/
def valsOf (g : Addr → Option Obj) (a : Addr) : List Addr := match g a with
  | some ⟨_, _, .dict es _, _⟩ => es.toList.flatMap fun e => match e.val with
    | .ref b => [b]
    | _ => []
  | _ => []
def refOf : Value → List Addr
  | .ref a => [a]
  | _ => []
def deepOf (g : Addr → Option Obj) (a : Addr) : List Addr := match g a with
  | some ⟨_, _, .func fd, _⟩ => refOf fd.code ++ (refOf fd.defaults ++ fd.closure.map (·.2))
  | some ⟨_, _, .seq its _, _⟩ => its.toList.flatMap refOf
  | some ⟨_, _, .cls cd, _⟩ => cd.ns :: (valsOf g cd.ns ++ (valsOf g cd.ns).flatMap fun b => match g b with
    | some ⟨_, _, .func fd, _⟩ => refOf fd.code ++ (refOf fd.defaults ++ fd.closure.map (·.2))
    | _ => [])
  | _ => []
/-- the addresses that are read -/
def adrs (g : Addr → Option Obj) : List Addr := mainGlobals :: cStatics :: (valsOf g mainGlobals ++ (valsOf g mainGlobals).flatMap (deepOf g))
structure Says (T : LT) (h : Heap) (K : Fr) : Prop where
  defs : ∀ d ∈ T.fn, ∃ fd, FunD K d.name d.qual d.params d.body d.scope (d.dvs K) (d.kws K) (He.fAd K d.at_) fd
  more : T.ex K = true
  hd : ∀ p ∈ T.tf, PySem.W.codeHdIn K (He.cT K p).1 (He.cT K p).2 = true
  out : ∀ p ∈ T.tf, K.lookup (He.cT K p).2 = none
  empty : ∀ p ∈ T.tf, h.get? (He.cT K p).2 = some { cls := .none, data := .fields #[] }
abbrev AlM : Type := List He.FnW × Bool
def obsM (T : LT) (g : Addr → Option Obj) (K : Fr) : AlM := (T.fn.map fun d => He.fnW K d.at_, (T.fn.all fun d => d.ok K) && (T.ex K && He.tabsB g T.tf K))
def valM (T : LT) : AlM := (T.fn.map He.DefD.val, true)
theorem says_of {T : LT} {h : Heap} (e : obsM T h.get? (He.frT h.get? (adrs h.get?)) = valM T) : Says T h (He.frT h.get? (adrs h.get?)) := by
  generalize hK : He.frT h.get? (adrs h.get?) = K at e ⊢
  have e1 : (T.fn.map fun d => He.fnW K d.at_) = T.fn.map He.DefD.val := congrArg Prod.fst e
  have e2 : ((T.fn.all fun d => d.ok K) && (T.ex K && He.tabsB h.get? T.tf K)) = true := congrArg Prod.snd e
  obtain ⟨a1, e2⟩ := two e2
  obtain ⟨a2, a3⟩ := two e2
  have tb : ∀ p ∈ T.tf, PySem.W.codeHdIn K (He.cT K p).1 (He.cT K p).2 = true ∧ ∃ o, h.get? (He.cT K p).2 = some o ∧ He.emptyTab o = true := by
    intro p hp
    obtain ⟨b1, b2⟩ := two (List.all_eq_true.mp a3 p hp)
    cases q : h.get? (He.cT K p).2 with
    | none =>
      rw [q] at b2
      cases b2
    | some o =>
      rw [q] at b2
      exact ⟨b1, o, rfl, b2⟩
  refine ⟨fun d hd => ?_, a2, fun p hp => (tb p hp).1, fun p hp => ?_, fun p hp => ?_⟩
  · obtain ⟨i, hi, ei⟩ := List.mem_iff_getElem.mp hd
    have e3 := congrArg (fun l => l[i]?) e1
    simp only [List.getElem?_map, List.getElem?_eq_getElem hi, ei, Option.map_some] at e3
    exact He.DefD.funD (Option.some.inj e3) (List.all_eq_true.mp a1 d hd)
  · obtain ⟨_, o, q, z⟩ := tb p hp
    rw [← hK] at q ⊢
    exact He.frT_none q z
  · obtain ⟨_, o, q, z⟩ := tb p hp
    rw [q, He.emptyTab_eq z]
def hookM (T : LT) : PySem.W.Hook where
  α := AlM
  obs := fun s => obsM T s.heap.get? (He.frT s.heap.get? (adrs s.heap.get?))
  val := fun _ => valM T
  says := fun _ h => ∃ K : Fr, K.In h ∧ Says T h K
  of := fun _ _ e => ⟨_, He.frT_in, says_of e⟩
  keeps := fun _ _ _ ⟨K, hK, c⟩ k => ⟨K, hK.keeps k, ⟨c.defs, c.more, c.hd, c.out, fun p hp => k _ _ (c.empty p hp)⟩⟩
def obM (T : LT) (s : PySem.W.SharedT) (g : Addr → Option Obj) : AlM := obsM T g (He.frT g (adrs g))
theorem obM_eq {T : LT} {s : PySem.W.SharedT} {g : Addr → Option Obj} {s' : Shared} (h : ∀ a, g a = s'.heap.get? a) : obM T s g = (hookM T).obs s' := by
  have e : g = s'.heap.get? := funext h
  rw [e]
  rfl
end SS
end PT_SS10
section PT_SS11
set_option Elab.async false
set_option linter.all false
set_option maxRecDepth 100000
set_option maxHeartbeats 4000000
/-! HeadOk of a law's text; the law's end. -/
namespace SS
open PySem PySem.Spec PyProof.Rows L2
/-- the table's address, the lambdas' name -/
def LT.tabs (T : LT) (K : Fr) : List (Addr × Str) := (T.dis.filter (·.lam)).map fun d => ((He.cT K (d.x, none)).2, (d.x ++ ".<locals>." : Str) ++ "<lambda>")
def LT.fa (T : LT) (K : Fr) (f : Nat) : Option Addr := (T.dis.find? fun d => d.f == f).map fun d => gAd K d.x
def LT.pm (T : LT) (K : Fr) : Pm := ⟨K, T.fa K, caOf K T.exs, T.tabs K⟩
theorem find_of {T : LT} {f : Nat} {d : DI} (h : (T.dis.find? fun d => d.f == f) = some d) : d ∈ T.dis ∧ d.f = f := ⟨List.mem_of_find?_eq_some h, by simpa using List.find?_some h⟩
theorem find_uniq {T : LT} (nd : (T.dis.map (·.f)).Nodup) {d : DI} (h : d ∈ T.dis) : (T.dis.find? fun e => e.f == d.f) = some d := by
  have key : ∀ l : List DI, (l.map (·.f)).Nodup → d ∈ l → (l.find? fun e => e.f == d.f) = some d := by
    intro l
    induction l with
    | nil => intro _ h; cases h
    | cons a r ih =>
      intro nd h
      rw [List.map_cons, List.nodup_cons] at nd
      rw [List.find?_cons]
      rcases List.mem_cons.mp h with e | h
      · subst e
        simp
      · have : (a.f == d.f) = false := by
          rw [beq_eq_false_iff_ne]
          intro e
          exact nd.1 (by rw [e]; exact List.mem_map_of_mem (f := (·.f)) h)
        rw [this]
        exact ih nd.2 h
  exact key _ nd h
theorem fad_eq (K : Fr) (x : Str) : He.fAd K (x, none) = gAd K x := ga_eq K x
theorem fd_of {K : Fr} {x : Str} {st : Stmt} (F : ∃ fd, FunD K x x (defArgs st) (defBody st) (defScope st) [] [] (gAd K x) fd) :
    ∃ (kV doc pm cdv ct oc : Value) (an od : Option Addr) (osl : Array (Option Value)), K.lookup (gAd K x) = some ⟨oc, od, .func (PySem.W.fnOf x x (defArgs st) (defBody st) (defScope st) .none kV doc pm an cdv ct), osl⟩ ∧ PySem.W.codeIn K cdv x = true ∧ PySem.W.keepIn K (.ref (gAd K x)) = true := by
  obtain ⟨fd, F⟩ := F
  obtain ⟨oc, od, dV, kV, doc, pm, an, cdv, ct, osl, rfl, lk, hcd, hD, hKw⟩ := F.ex
  rcases hD with ⟨_, rfl⟩ | ⟨e, _⟩
  · exact ⟨kV, doc, pm, cdv, ct, oc, an, od, osl, lk, hcd, F.kp⟩
  · exact absurd rfl e
section
variable {T : LT} {K : Fr} {h base : Heap} {w : World} {mg : Str → Option Value}
theorem says_fd (c : Says T h K) {x : Str} {st : Stmt} (hm : ddOf x st ∈ T.fn) : ∃ fd, FunD K x x (defArgs st) (defBody st) (defScope st) [] [] (gAd K x) fd := by
  obtain ⟨fd, F⟩ := c.defs _ hm
  rw [fad_eq] at F
  exact ⟨fd, F⟩
theorem bd_of {x : Str} {st : Stmt} {ps : List Str} (b : Bd x st ps) (kV doc pm cdv ct : Value) (an : Option Addr) : Binds K (PySem.W.fnOf x x (defArgs st) (defBody st) (defScope st) .none kV doc pm an cdv ct) ps [] := .all fun us hl => b kV doc pm an cdv ct us hl
structure ExOk (T : LT) (K : Fr) : Prop where
  r : refB K T.prog = true
  e : ∀ c ∈ T.exs, excB K T.prog c = true
  p : pairB K T.exs = true
  g : glsB K T.C.gls = true
  f : freeB K biNames = true
  cx : hasAt (PySem.W.nsIn K mainGlobals T.cx) = true
  hd : hasAt (PySem.W.nsIn K mainGlobals T.C.hd) = true
  tl : T.tst.isSome = true → hasAt (PySem.W.nsIn K mainGlobals T.C.tl) = true
  rf : T.rst.isSome = true → hasAt (PySem.W.nsIn K mainGlobals T.C.rf) = true
  ds : ∀ d ∈ T.dis, hasAt (PySem.W.nsIn K mainGlobals d.x) = true
  nl : ∀ a o, K.lookup a = some o → o.cls ≠ .type "list"
  nd : ((T.tf.map fun p => (He.cT K p).2).Nodup)
theorem ex_of (c : T.ex K = true) : ExOk T K := by
  obtain ⟨c1, c⟩ := two c
  obtain ⟨c2, c⟩ := two c
  obtain ⟨c3, c⟩ := two c
  obtain ⟨c4, c⟩ := two c
  obtain ⟨c5, c⟩ := two c
  obtain ⟨c6, c⟩ := two c
  obtain ⟨c7, c8⟩ := two c
  have m := fun x hx => List.all_eq_true.mp c6 x hx
  refine ⟨c1, List.all_eq_true.mp c2, c3, c4, c5, m _ List.mem_cons_self, m _ (List.mem_cons_of_mem _ List.mem_cons_self), fun z => m _ ?_, fun z => m _ ?_, fun d hd => m _ ?_, fun a o e => ?_, of_decide_eq_true c8⟩
  · exact List.mem_cons_of_mem _ (List.mem_cons_of_mem _ (List.mem_append_left _ (by rw [if_pos z]; exact List.mem_cons_self)))
  · exact List.mem_cons_of_mem _ (List.mem_cons_of_mem _ (List.mem_append_right _ (List.mem_append_left _ (by rw [if_pos z]; exact List.mem_cons_self))))
  · exact List.mem_cons_of_mem _ (List.mem_cons_of_mem _ (List.mem_append_right _ (List.mem_append_right _ (List.mem_map_of_mem (f := (·.x)) hd))))
  · have q := List.all_eq_true.mp c7 (a, o) (He.lookup_mem e)
    simpa using q
theorem fn_dis {d : DI} (hd : d ∈ T.dis) : ddOf d.x d.st ∈ T.fn := List.mem_cons_of_mem _ (List.mem_cons_of_mem _ (List.mem_append_right _ (List.mem_append_right _ (List.mem_map_of_mem (f := fun d : DI => ddOf d.x d.st) hd))))
theorem okNs_at {l : List Str} (h : okNs l = true) {x : Str} (hx : x ∈ l) : (x == ("__debug__" : Str)) = false ∧ (x == ("__classdict__" : Str)) = false := by
  have q := List.all_eq_true.mp h x hx
  simpa using q
theorem cls_ok (O : T.Ok) (E : ExOk T K) (c : Says T h K) (X : K.In h) (G : h.Ns mainGlobals mg) (a : Addr) (oe : Obj) (C dx : Addr) (fs : List (Str × V)) (cn : Str) (hc : (T.pm K).ca cn = some C) (hz : Zc (.ref C) (some dx) oe) (hf : ∃ vs, oe.data = .fields vs) :
    FnP T.prog w K mg base 1 (gAd K T.cx) (a, oe) (Rcl (T.pm K) cn T.exs dx fs) := by
  obtain ⟨kV, doc, pm, cdv, ct, oc, an, od, osl, lk, hcd, kp⟩ := fd_of (says_fd c (x := T.cx) (st := T.cst) List.mem_cons_self)
  have q := O.cls
  unfold classesB at q
  split at q
  · rename_i es he
    obtain ⟨lp, rp, eb⟩ := clsV_ok he
    obtain ⟨q1, q⟩ := two q
    obtain ⟨q2, q⟩ := two q
    obtain ⟨q3, q4⟩ := two q
    have hb := bd_of (K := K) O.cbd kV doc pm cdv ct an
    rw [eb] at lk hb
    obtain ⟨hm, rfl⟩ := caOf_ok hc
    have A := exc_all (P := T.pm K) w rfl rfl X G E.r E.e E.p O.nd O.sh O.hl
    obtain ⟨_, th, _, _, hns⟩ := A.all cn _ hc
    have o := okNs_at q4 (x := T.cnm) List.mem_cons_self
    exact classes_fn (P := T.pm K) (k := 0) (c := cn) lk hcd (fnScB_ok q2) kp hb th hz hf (of_decide_eq_true q1) O.hl (freeB_ok X G E.f _ (by decide)) (fun n hn => of_decide_eq_true (List.all_eq_true.mp q3 n hn)) o.1 o.2 hns
  · cases q
theorem hd_ok (O : T.Ok) (E : ExOk T K) (c : Says T h K) (X : K.In h) (G : h.Ns mainGlobals mg) (r : Nat) : mg T.C.hd = some (.ref (gAd K T.C.hd)) ∧ PySem.W.keepIn K (.ref (gAd K T.C.hd)) = true ∧ FnHd (T.pm K) T.prog w mg base (r + 2) (r + 1) (gAd K T.C.hd) := by
  obtain ⟨kV, doc, pm, cdv, ct, oc, an, od, osl, lk, hcd, kp⟩ := fd_of (says_fd c (x := T.C.hd) (st := T.hst) (List.mem_cons_of_mem _ List.mem_cons_self))
  refine ⟨gAd_ok X G E.hd, kp, ?_⟩
  have hb := bd_of (K := K) O.hbd kV doc pm cdv ct an
  have q := O.hrd
  have eD : heardD (defBody T.hst) = match hv1 (defBody T.hst) with
    | some (a, _) => (hv2 a).getD ""
    | none => "" := rfl
  unfold heardB at q
  split at q
  · rename_i a en rn b e1
    split at q
    · rename_i dn lc r3 e2 e3
      split at q
      · rename_i ln x r2 scope e4
        obtain ⟨a1, q⟩ := two q
        obtain ⟨a2, q⟩ := two q
        obtain ⟨a3, q⟩ := two q
        obtain ⟨a4, q⟩ := two q
        obtain ⟨a5, q⟩ := two q
        obtain ⟨a6, q⟩ := two q
        obtain ⟨a7, q⟩ := two q
        obtain ⟨a8, q⟩ := two q
        obtain ⟨a9, q⟩ := two q
        obtain ⟨a10, a11⟩ := two q
        have a1 := of_decide_eq_true a1
        have a2 := of_decide_eq_true a2
        have a3 := of_decide_eq_true a3
        have a4 := of_decide_eq_true a4
        subst a1 a2 a4
        rw [e1] at eD
        simp only [e2, Option.getD_some] at eD
        rw [eD] at hb
        obtain ⟨p5, p6, q18, p7, p8, eb⟩ := hv1_ok e1
        obtain ⟨k0, p1, p2, p3, k5, p4, rfl⟩ := hv2_ok e2
        obtain ⟨k1, q7, q8, q9, q15, q16, k4, q17, rfl, hline⟩ := hv3_ok e3
        obtain ⟨q1, k2, q2, q3, q4, q5, q6, q10, q11, k3, q12, q13, q14, rfl⟩ := hv4_ok e4
        rw [eb] at lk hb
        have A := exc_all (P := T.pm K) w rfl rfl X G E.r E.e E.p O.nd O.sh O.hl
        obtain ⟨ck, cd2, cpm, ccd, cct, coc, can, cod, cosl, clk, chc, ckp⟩ := fd_of (says_fd c (x := T.cx) (st := T.cst) List.mem_cons_self)
        have e9 : gAd K "Refused" = gAd K "Refused" := rfl
        have r1 := (two E.r).1
        refine heard_fn (P := T.pm K) (kc := 1) (k := r + 1) (j := r + 1) (f := gAd K T.cx) (CS := gAd K "Refused") (ns := T.exs) lk hcd (fnScB_ok a5) hb A (fun a oe C dx fs cn hc hz hf => cls_ok O E c X G a oe C dx fs cn hc hz hf) (by omega) (Nat.le_refl _) ckp (of_decide_eq_true a6) (by rw [a3]; exact gAd_ok X G E.cx) (of_decide_eq_true a7) (gAd_ok X G r1) (of_decide_eq_true a8) (blkOk_by a9) (of_decide_eq_true a10) a11 hline
      · cases q
    · cases q
  · cases q
theorem tl_ok (O : T.Ok) (E : ExOk T K) (c : Says T h K) (X : K.In h) (G : h.Ns mainGlobals mg) {F : Fns} {r m : Nat} {tx : Str} {st : Stmt} {N : List Str} {as : Es} {g : List D → List D} (hst : ddOf tx st ∈ T.fn) (hat : hasAt (PySem.W.nsIn K mainGlobals tx) = true) (hl : N.length = m + 1) (hb0 : tlB "_law_same" T.C.hd N as (defBody st) (defScope st) = true) (hbd : Bd tx st N)
    (hg0 : ∀ ds : List D, ds.length = m → (g ds).length ≤ 100 ∧ ∀ M, evEs F T.same as (none :: ds.map some) M = .ok (g ds) M) (hF : FnS (T.pm K) F T.prog w mg base r T.same) : ∃ ha, mg tx = some (.ref ha) ∧ PySem.W.keepIn K (.ref ha) = true ∧ FnTl (T.pm K) F T.same T.prog w mg base (r + 3) (r + 1) ha m g := by
  obtain ⟨kV, doc, pm, cdv, ct, oc, an, od, osl, lk, hcd, kp⟩ := fd_of (says_fd c hst)
  refine ⟨gAd K tx, gAd_ok X G hat, kp, ?_⟩
  have hb := bd_of (K := K) hbd kV doc pm cdv ct an
  obtain ⟨h1, h2, h3⟩ := hd_ok (w := w) (base := base) O E c X G r
  obtain ⟨d, hd, ed⟩ := List.any_eq_true.mp O.same
  have ed := of_decide_eq_true ed
  have dx := O.sname d hd ed
  have hfa : (T.pm K).fa T.same = some (gAd K "_law_same") := by
    show T.fa K T.same = _
    unfold LT.fa
    rw [← ed, find_uniq O.nums hd, ← dx]
    rfl
  obtain ⟨sk, sd, spm, scd, sct, soc, san, sod, sosl, slk, shc, skp⟩ := fd_of (says_fd c (fn_dis hd))
  rw [dx] at skp
  unfold tlB at hb0
  split at hb0
  · rename_i sx hx dn es e1
    obtain ⟨a1, q⟩ := two hb0
    obtain ⟨a2, q⟩ := two q
    obtain ⟨a3, q⟩ := two q
    obtain ⟨a4, q⟩ := two q
    obtain ⟨a5, q⟩ := two q
    obtain ⟨a6, q⟩ := two q
    obtain ⟨a7, a8⟩ := two q
    have a1 := of_decide_eq_true a1
    have a2 := of_decide_eq_true a2
    have a3 := of_decide_eq_true a3
    subst a2 a3
    cases N with
    | nil => cases a1
    | cons n0 ons =>
      have a1 : n0 = dn := Option.some.inj a1
      subst a1
      obtain ⟨k0, p1, p2, p3, p4, p5, p6, p7, eb⟩ := tlV_ok e1
      rw [eb] at lk hb
      exact tl_fn (P := T.pm K) (k := r + 2) (ks := r) lk hcd (fnScB_ok a4) hb h3 (Nat.le_refl _) hF (by omega) (by omega) hfa h2 skp (of_decide_eq_true a5) h1 (of_decide_eq_true a6) (by have := gAd_ok X G (E.ds d hd); rw [dx] at this; exact this) (by simpa using hl) a7 hg0 (plainEs_ok a8)
  · cases hb0
theorem head_ok (O : T.Ok) (c : Says T h K) (X : K.In h) (G : h.Ns mainGlobals mg) (tb : ∀ p ∈ T.tf, LamX.TabB base mg (He.cT K p).1 (He.cT K p).2) : HeadOk (T.pm K) T.tab T.same T.C T.prog w mg base 4 := by
  have E := ex_of c.more
  have chk := List.all_eq_true.mp O.chk
  have uniq : ∀ {d e : DI}, d ∈ T.dis → e ∈ T.dis → d.f = e.f → d = e := fun {d e} hd he q => by
    have a := find_uniq O.nums hd
    have b := find_uniq O.nums he
    rw [q, b] at a
    exact (Option.some.inj a).symm
  refine ⟨fun f a e => ?_, fun x f e => ?_, fun x hx => freeB_ok X G E.f x hx, glsB_ok (P := T.pm K) X G E.g, fun r hr => ⟨_, hd_ok O E c X G r⟩, fun z F r hr hF => ?_, fun z F r hr hF => ?_, by omega, fun cn hc => ?_, ?_⟩
  · have e : T.fa K f = some a := e
    unfold LT.fa at e
    obtain ⟨d, e1, e2⟩ := Option.map_eq_some_iff.mp e
    obtain ⟨hd, hf⟩ := find_of e1
    subst e2
    obtain ⟨kV, doc, pm, cdv, ct, oc, an, od, osl, lk, hcd, kp⟩ := fd_of (says_fd c (fn_dis hd))
    obtain ⟨k1, q⟩ := two (chk d hd)
    obtain ⟨k2, q⟩ := two q
    obtain ⟨k3, k4⟩ := two q
    refine ⟨d.g, d.x, d.x, defArgs d.st, defBody d.st, defScope d.st, .none, kV, doc, pm, cdv, ct, oc, an, od, osl, d.N, d.ps, d.lam, ?_, kp, lk, hcd, fnScB_ok k1, bd_of (O.bd d hd) kV doc pm cdv ct an, of_decide_eq_true k2, of_decide_eq_true k3, k4, fun hl => ?_⟩
    · unfold LT.tab
      rw [e1]
      rfl
    · have hm : (d.x, (none : Option Str)) ∈ T.tf := List.mem_map_of_mem (f := fun d : DI => (d.x, (none : Option Str))) (List.mem_filter.mpr ⟨hd, hl⟩)
      obtain ⟨cc, rfl⟩ := He.codeIn_ref hcd
      have ec : He.codeOf K (d.x, none) = cc := He.codeOf_eq (p := (d.x, none)) (by rw [fad_eq]; exact lk) rfl
      have hT := tb _ hm
      refine ⟨cc, (He.cT K (d.x, none)).2, ?_, rfl, List.mem_map_of_mem (f := fun d : DI => ((He.cT K (d.x, none)).2, (d.x ++ ".<locals>." : Str) ++ "<lambda>")) (List.mem_filter.mpr ⟨hd, hl⟩), fun p hp e3 => ?_⟩
      · have : (He.cT K (d.x, none)).1 = cc := ec
        rw [this] at hT
        exact hT
      · obtain ⟨d2, hd2, rfl⟩ := List.mem_map.mp hp
        have nd := E.nd
        unfold LT.tf at nd
        rw [List.map_map] at nd
        have : d2 = d := by
          obtain ⟨i, hi, ei⟩ := List.mem_iff_getElem.mp hd2
          obtain ⟨j, hj, ej⟩ := List.mem_iff_getElem.mp (List.mem_filter.mpr ⟨hd, hl⟩)
          have q := (List.getElem_inj (h₀ := by simpa using hi) (h₁ := by simpa using hj) nd).mp (by
            simp only [List.getElem_map, Function.comp, ei, ej]
            exact e3)
          subst q
          rw [ei] at ej
          exact ej
        rw [this]
  · have e : (x, f) ∈ T.C.fns := by simpa using e
    obtain ⟨d, hd, q⟩ := List.any_eq_true.mp (List.all_eq_true.mp O.fns _ e)
    obtain ⟨q1, q2⟩ := two q
    have z1 : d.x = x := of_decide_eq_true q1
    have z2 : d.f = f := of_decide_eq_true q2
    subst z1 z2
    refine ⟨gAd K d.x, ?_, gAd_ok X G (E.ds d hd)⟩
    show T.fa K d.f = _
    unfold LT.fa
    rw [find_uniq O.nums hd]
    rfl
  · obtain ⟨st, e1, e2, e3, e4⟩ := O.tlo z
    exact tl_ok O E c X G (tx := T.C.tl) (st := st) (N := T.tN) (as := asTl) (g := gTells) (List.mem_cons_of_mem _ (List.mem_cons_of_mem _ (List.mem_append_left _ (by rw [e1]; exact List.mem_cons_self)))) (E.tl (by rw [e1]; rfl)) e2 e3 e4 hgTl hF
  · obtain ⟨st, e1, e2, e3, e4⟩ := O.rfo z
    exact tl_ok O E c X G (tx := T.C.rf) (st := st) (N := T.rN) (as := asRf) (g := gRef) (List.mem_cons_of_mem _ (List.mem_cons_of_mem _ (List.mem_append_right _ (List.mem_append_left _ (by rw [e1]; exact List.mem_cons_self))))) (E.rf (by rw [e1]; rfl)) e2 e3 e4 hgRf hF
  · rw [O.exs] at hc
    exact ⟨2, by omega, (exc_ok (P := T.pm K) (w := w) (base := base) rfl rfl X G E.r (E.e cn hc) hc).1⟩
  · obtain ⟨d, hd, ed⟩ := List.any_eq_true.mp O.same
    have ed := of_decide_eq_true ed
    refine ⟨gAd K d.x, ?_⟩
    show T.fa K T.same = _
    unfold LT.fa
    rw [← ed, find_uniq O.nums hd]
    rfl
end
end SS
end PT_SS11
section PT_SS12
set_option Elab.async false
set_option linter.all false
set_option maxRecDepth 100000
set_option maxHeartbeats 4000000
/-! The law's end. -/
namespace SS
open PySem PySem.Spec PyProof.Rows L2
/-- the law's promise -/
def spLaw (P : Pm) (F : Fns) (f n : Nat) : Sp := fun vs H Q Ex => vs.length = n ∧ ∃ W M ds, Sim P W M H ∧ VDs P W ds vs ∧ Out P (VD P) W Ex (F f ds M) Q
theorem fn_law {T : LT} {K : Fr} {prog : Program} {w : World} {mg : Str → Option Value} {base : Heap} {n : Nat} {d : DI} {kV doc pm cdv ct oc : Value} {an od : Option Addr} {osl : Array (Option Value)} (O : T.Ok) (H0 : HeadOk (T.pm K) T.tab T.same T.C prog w mg base 4) (hd : d ∈ T.dis)
    (lk : K.lookup (gAd K d.x) = some ⟨oc, od, .func (PySem.W.fnOf d.x d.x (defArgs d.st) (defBody d.st) (defScope d.st) .none kV doc pm an cdv ct), osl⟩) (hcd : PySem.W.codeIn K cdv d.x = true)
    (hlam : d.lam = true → ∃ c Pt, LamX.TabB base mg c Pt ∧ cdv = .ref c ∧ (Pt, (d.x ++ ".<locals>." : Str) ++ "<lambda>") ∈ (T.pm K).T ∧ ∀ p ∈ (T.pm K).T, p.1 = Pt → p.2 = (d.x ++ ".<locals>." : Str) ++ "<lambda>") :
    FnOk prog w K mg base (L2N.CX prog w) (rho 4 (n + 1)) (gAd K d.x) (PySem.W.fnOf d.x d.x (defArgs d.st) (defBody d.st) (defScope d.st) .none kV doc pm an cdv ct) d.ps (spLaw (T.pm K) (fnsN T.tab T.same (n + 1)) d.f d.ps.length) := by
  obtain ⟨k1, q⟩ := two (List.all_eq_true.mp O.chk d hd)
  obtain ⟨k2, q⟩ := two q
  obtain ⟨k3, k4⟩ := two q
  have k2 := of_decide_eq_true k2
  have k3 := of_decide_eq_true k3
  have ih := all_fns H0 n
  have hr0 : rho 4 (n + 1) = (rho 4 n + 3) + 1 := by unfold rho; omega
  rw [hr0]
  obtain ⟨sa, hsa⟩ := H0.same
  have hsame := (ih T.same sa hsa).2
  have hc0 : 4 ≤ rho 4 n := by unfold rho; omega
  refine L2.fn_of (N := d.N) lk hcd (fnScB_ok k1) (fun vs H Q E h => h.1) fun A outer s H vs Q Ex hr ⟨hl, W, M, ds, Sm, rd, ho⟩ => ?_
  have L : LW (T.pm K) (fnsN T.tab T.same n) T.same (ccOf T.C d) prog w mg base (rho 4 n) :=
    ⟨H0.call, fun f a e => ih f a e, H0.bi, H0.gl, H0.hd _ hc0, fun z => H0.tl z _ _ hc0 hsame, fun z => H0.rf z _ _ hc0 hsame, by omega, fun c hc => by
      obtain ⟨k, hk, z⟩ := H0.exs c hc
      exact ⟨k, by omega, z⟩⟩
  refine ⟨_, snd_Ss d.g.body (X := cxOf (L2N.CX prog w) prog w K mg base d.N d.x (defScope d.st) (gAd K d.x) cdv A outer s H Ex) (C := ccOf T.C d) (wy := fun c d H' => Ex c d H') L ⟨⟨⟨rfl, (fnScB_ok k1).nd, fun _ => rfl, fun _ => hr, L2H.roomH_of hr⟩, by omega, by omega, rfl, rfl, L2N.takes_of rfl rfl rfl rfl, fun _ _ => rfl, fun z => ⟨Nat.le_refl _, hlam z⟩⟩, passes_of rfl⟩ k4, ?_⟩
  have et : T.tab d.f = some d.g := by
    unfold LT.tab
    rw [find_uniq O.nums hd]
    rfl
  have e1 : fnsN T.tab T.same (n + 1) d.f ds M = runF (fnsN T.tab T.same n) T.same d.g ds M := by
    show (match T.tab d.f with
      | some g => runF (fnsN T.tab T.same n) T.same g ds M
      | none => .no) = _
    rw [et]
  rw [e1] at ho
  unfold runF at ho
  split at ho
  · rename_i hl2
    rw [← Sm.len] at ho
    have ho := out_trim ho
    refine ⟨W, M, ds.map some ++ List.replicate (d.g.nn - d.g.np) none, Sm, rels_args rd (by omega), ?_⟩
    cases q : evSs (fnsN T.tab T.same n) T.same d.g.body (ds.map some ++ List.replicate (d.g.nn - d.g.np) none) M with
    | no => rw [q] at ho; exact ho.elim
    | ex c x m => rw [q] at ho; exact ho
    | ok p m =>
      obtain ⟨fl, sd'⟩ := p
      rw [q] at ho
      intro W1 H1 l S1
      cases fl with
      | nx => exact fun σ' R' => ho W1 _ H1 l S1 .non
      | brk => exact ho.elim
      | cont => exact ho.elim
      | ret d => exact fun v r1 => ho W1 v H1 l S1 r1
  · exact ho.elim
theorem ints_vds {P : Pm} {W : Wd} : ∀ ns : List Int, VDs P W (ns.map PyData.int) (ns.map V.int)
  | [] => .nil
  | z :: r => .cons (.int z) (ints_vds r)
/-- the start: the script, the tables -/
theorem start_ok {T : LT} {K : Fr} {H : Hp} {a : Addr} {ns : List Int} (hT : ∀ p ∈ T.tabs K, H p.1 = some (.tbl #[])) (nl : ∀ a o, K.lookup a = some o → o.cls ≠ .type "list") (hS : SqL K H a (ns.map V.int)) :
    ∃ W, Sim (T.pm K) W [] H ∧ VD (T.pm K) W (.list (ns.map PyData.int)) (.ref a) := by
  have hR : Rd H a (.lst (ns.map V.int)) := by
    rcases hS with h | ⟨o, its, n, e1, e2, _⟩
    · exact h
    · exact absurd e2 (nl a o e1)
  have vs : ∀ W, VDs (T.pm K) W (ns.map PyData.int) (ns.map V.int) := fun W => ints_vds ns
  refine ⟨⟨fun b => if b = a then H b else none, fun _ => none, []⟩, ⟨fun b o e => ?_, fun b o e => (by cases e), rfl, List.nodup_nil, fun i b o e => (by simp at e), ?_, fun b ps => ⟨fun e => ?_, fun e => (by cases e)⟩, fun b c q e => (by cases e)⟩, .lst ?_ (vs _)⟩
  · have e : (if b = a then H b else none) = some o := e
    split at e
    · exact e
    · cases e
  · intro p hp
    exact LamX.TabS.nil (hT p hp)
  · have e : (if b = a then H b else none) = some (.tbl ps) := e
    split at e
    · rename_i hb
      rw [hb] at e
      rcases hR with h | ⟨o, h⟩
      · cases h.symm.trans e
      · cases h.symm.trans e
    · cases e
  · rcases hR with h | ⟨o, h⟩
    · exact .inl (by show (if a = a then H a else none) = _; rw [if_pos rfl]; exact h)
    · exact .inr ⟨o, by show (if a = a then H a else none) = _; rw [if_pos rfl]; exact h⟩
theorem law_at {T : LT} {l : PySem.W.OpenLaw} {w : World} {K : Fr} {mg : Str → Option Value} {h : Heap} {n k : Nat} {d : DI} {sx : Str} (hp : l.prog = T.prog) (O : T.Ok) (c : Says T h K) (X : K.In h) (G : h.Ns mainGlobals mg) (hd : d ∈ T.dis) (hps : d.ps = [sx])
    (plain : ∀ ns : List Int, ns.length ≤ k → (∀ z ∈ ns, Builtin.Int.intBits z ≤ 1048576) → ∃ m, fnsN T.tab T.same (n + 1) d.f [.list (ns.map PyData.int)] [] = .ok (.bool true) m) :
    LamX.LawAtS l w K (L2N.CX l.prog w) (rho 4 (n + 1)) k sx mg (gAd K d.x) h := by
  have E := ex_of c.more
  obtain ⟨kV, doc, pm, cdv, ct, oc, an, od, osl, lk, hcd, kp⟩ := fd_of (says_fd c (fn_dis hd))
  have hb := bd_of (K := K) (O.bd d hd) kV doc pm cdv ct an
  refine ⟨PySem.W.fnOf d.x d.x (defArgs d.st) (defBody d.st) (defScope d.st) .none kV doc pm an cdv ct, T.tf.map (He.cT K), spLaw (T.pm K) (fnsN T.tab T.same (n + 1)) d.f d.ps.length, fun p hp => ?_, fun p hp => ?_, fun p hp => ?_, fun s u => ?_, fun H a ns h1 h2 hT hS => ?_, fun base X2 G2 tb => ?_⟩
  · obtain ⟨q, hq, rfl⟩ := List.mem_map.mp hp
    exact c.empty q hq
  · obtain ⟨q, hq, rfl⟩ := List.mem_map.mp hp
    exact c.out q hq
  · obtain ⟨q, hq, rfl⟩ := List.mem_map.mp hp
    exact PySem.W.codeHd_of_K X (c.hd q hq)
  · have q := O.bd d hd kV doc pm an cdv ct [u] (by rw [hps]; rfl)
    rw [hps] at q
    exact .of_eq q
  · obtain ⟨W, Sm, rv⟩ := start_ok (T := T) (fun p hp => by
      obtain ⟨d2, hd2, rfl⟩ := List.mem_map.mp hp
      exact hT _ (List.mem_map.mpr ⟨(d2.x, none), List.mem_map_of_mem (f := fun d : DI => (d.x, (none : Option Str))) hd2, rfl⟩)) E.nl hS
    refine ⟨by rw [hps]; rfl, W, [], [.list (ns.map PyData.int)], Sm, .cons rv .nil, ?_⟩
    obtain ⟨m, e⟩ := plain ns h1 h2
    rw [e]
    intro W' v H' _ _ r
    cases r
    rfl
  · have tb' : ∀ p ∈ T.tf, LamX.TabB base mg (He.cT K p).1 (He.cT K p).2 := fun p hp => tb _ (List.mem_map_of_mem hp)
    have H0 := head_ok (w := w) O c X G tb'
    rw [hp, ← hps]
    refine fn_law O H0 hd lk hcd fun hl => ?_
    obtain ⟨g, name, qual, params, body, sc, dV, kV', doc', pm', cdv', ct', oc', an', od', osl', N', ps', lam', h1, h2, h3, h4, h5, h6, h7, h8, h9, h10⟩ := H0.defs d.f (gAd K d.x) (by
      show T.fa K d.f = _
      unfold LT.fa
      rw [find_uniq O.nums hd]
      rfl)
    have hm : (d.x, (none : Option Str)) ∈ T.tf := List.mem_map_of_mem (f := fun d : DI => (d.x, (none : Option Str))) (List.mem_filter.mpr ⟨hd, hl⟩)
    obtain ⟨cc, rfl⟩ := He.codeIn_ref hcd
    have ec : He.codeOf K (d.x, none) = cc := He.codeOf_eq (p := (d.x, none)) (by rw [fad_eq]; exact lk) rfl
    have hT := tb' _ hm
    refine ⟨cc, (He.cT K (d.x, none)).2, ?_, rfl, List.mem_map_of_mem (f := fun d : DI => ((He.cT K (d.x, none)).2, (d.x ++ ".<locals>." : Str) ++ "<lambda>")) (List.mem_filter.mpr ⟨hd, hl⟩), fun p hp e3 => ?_⟩
    · have : (He.cT K (d.x, none)).1 = cc := ec
      rw [this] at hT
      exact hT
    · obtain ⟨d2, hd2, rfl⟩ := List.mem_map.mp hp
      have nd := E.nd
      unfold LT.tf at nd
      rw [List.map_map] at nd
      have : d2 = d := by
        obtain ⟨i, hi, ei⟩ := List.mem_iff_getElem.mp hd2
        obtain ⟨j, hj, ej⟩ := List.mem_iff_getElem.mp (List.mem_filter.mpr ⟨hd, hl⟩)
        have q := (List.getElem_inj (h₀ := by simpa using hi) (h₁ := by simpa using hj) nd).mp (by
          simp only [List.getElem_map, Function.comp, ei, ej]
          exact e3)
        subst q
        rw [ei] at ej
        exact ej
      rw [this]
theorem cx_no {prog : Program} {w : World} (H : Hp) (s : Shared) (e : Value) (s' : Shared) (h : L2N.CX prog w [] H s (fun _ _ _ => False) e s') : False := by
  obtain ⟨_, _, _, _, _, _, _, _, _, _, _, _, z⟩ := h
  exact z
end SS
end PT_SS12
section PT_IR_k90
set_option Elab.async false
set_option linter.all false
set_option maxRecDepth 100000
namespace SS.K90
open PySem SS
def b_whole : Ss := (.cons (.ifs (.orr (.nt (.isi 0 0 (.v 0) .int)) (.isi 0 0 (.v 0) .bool)) (.cons (.ret (.c (.bl false))) .nil) .nil) (.cons (.ret (.an (.cmp .le (.v 1) (.v 0)) (.orr (.cmp .is (.v 2) (.c .non)) (.cmp .le (.v 0) (.v 2))))) .nil))
def f_whole : Fn := ⟨3, 3, b_whole⟩
def b_all_lines : Ss := (.cons (.ifs (.nt (.isi 0 0 (.v 0) .str)) (.cons (.rais 0 "BadText" (.neg (.c (.int 1)))) .nil) .nil) (.cons (.ifs (.cmp .gt (.bi 0 true .len (.cons (.v 0) .nil)) (.v 1)) (.cons (.rais 0 "TooMany" (.bi 0 true .len (.cons (.v 0) .nil))) .nil) .nil) (.cons (.ret (.me true .split (.v 0) (.cons (.c (.str "\n")) .nil))) .nil)))
def f_all_lines : Fn := ⟨2, 2, b_all_lines⟩
def b_words_of : Ss := (.cons (.ret (.me true .split (.v 0) (.cons (.c (.str " ")) .nil))) .nil)
def f_words_of : Fn := ⟨1, 1, b_words_of⟩
def b_is_name : Ss := (.cons (.ifs (.orr (.nt (.isi 0 0 (.v 0) .str)) (.orr (.nt (.chain .le .le (.c (.int 1)) (.bi 0 true .len (.cons (.v 0) .nil)) (.g 0 (.int 12)))) (.cmp .isin (.v 0) (.g 0 (.tuple [(.str "none"), (.str "from"), (.str "of"), (.str "out"), (.str "with"), (.str "apart")]))))) (.cons (.ret (.c (.bl false))) .nil) .nil) (.cons (.ret (.bi 0 true .all (.cons (.comp true (.cmp .isin (.v 1) (.g 0 (.str "abcdefghijklmnopqrstuvwxyz"))) (.nm 1) (.e (.v 0)) .none [1]) .nil))) .nil))
def f_is_name : Fn := ⟨2, 1, b_is_name⟩
def l_made_names_1 : Ss := (.cons (.ifs (.orr (.nt (.call 0 3 (.cons (.v 3) .nil))) (.cmp .isin (.v 3) (.v 1))) (.cons (.rais 0 "BadNames" (.v 2)) .nil) .nil) (.cons (.ex (.me true .append (.v 1) (.cons (.v 3) .nil))) .nil))
def b_made_names : Ss := (.cons (.ifs (.nt (.isi 0 0 (.v 0) .tuple)) (.cons (.rais 0 "BadNames" (.neg (.c (.int 1)))) .nil) .nil) (.cons (.ifs (.cmp .gt (.bi 0 true .len (.cons (.v 0) .nil)) (.g 0 (.int 24))) (.cons (.rais 0 "TooMany" (.bi 0 true .len (.cons (.v 0) .nil))) .nil) .nil) (.cons (.set 1 (.lst false .nil)) (.cons (.for_ (.tup (.cons (.nm 2) (.cons (.nm 3) .nil))) (.enum 0 (.v 0)) l_made_names_1) (.cons (.ret (.bi 0 true .tuple (.cons (.v 1) .nil))) .nil)))))
def f_made_names : Fn := ⟨4, 1, b_made_names⟩
def l_named_row_1 : Ss := (.cons (.ifs (.nt (.call 0 0 (.cons (.v 4) (.cons (.c (.int 0)) (.cons (.bin true .sub (.bi 0 true .len (.cons (.v 2) .nil)) (.c (.int 1))) .nil))))) (.cons (.rais 0 "BadRow" (.v 3)) .nil) .nil) .nil)
def b_named_row : Ss := (.cons (.set 2 (.call 0 4 (.cons (.v 0) .nil))) (.cons (.ifs (.nt (.isi 0 0 (.v 1) .tuple)) (.cons (.rais 0 "BadRow" (.neg (.c (.int 1)))) .nil) .nil) (.cons (.ifs (.cmp .gt (.bi 0 true .len (.cons (.v 1) .nil)) (.g 0 (.int 300))) (.cons (.rais 0 "TooMany" (.bi 0 true .len (.cons (.v 1) .nil))) .nil) .nil) (.cons (.for_ (.tup (.cons (.nm 3) (.cons (.nm 4) .nil))) (.enum 0 (.v 1)) l_named_row_1) (.cons (.ret (.me true .join (.c (.str " ")) (.cons (.comp true (.ix (.v 2) (.v 4)) (.nm 4) (.e (.v 1)) .none [4]) .nil))) .nil)))))
def f_named_row : Fn := ⟨5, 2, b_named_row⟩
def l_read_named_row_1 : Ss := (.cons (.ifs (.orr (.cmp .eq (.v 6) (.g 0 (.int 300))) (.cmp .notin (.v 7) (.v 4))) (.cons (.rais 0 "WrongLine" (.tup (.cons (.c (.int 0)) (.cons (.v 6) .nil)))) .nil) .nil) (.cons (.ex (.me true .append (.v 5) (.cons (.ix (.v 4) (.v 7)) .nil))) .nil))
def b_read_named_row : Ss := (.cons (.set 2 (.call 0 4 (.cons (.v 0) .nil))) (.cons (.set 3 (.call 0 1 (.cons (.v 1) (.cons (.g 0 (.int 400000)) .nil)))) (.cons (.ifs (.cmp .eq (.v 3) (.lst true (.cons (.c (.str "")) .nil))) (.cons (.ret (.tup .nil)) .nil) .nil) (.cons (.set 4 (.dcomp (.v 7) (.v 8) (.tup (.cons (.nm 8) (.cons (.nm 7) .nil))) (.enum 0 (.v 2)) [8, 7])) (.cons (.set 5 (.lst false .nil)) (.cons (.for_ (.tup (.cons (.nm 6) (.cons (.nm 7) .nil))) (.enum 0 (.call 0 2 (.cons (.ix (.v 3) (.c (.int 0))) .nil))) l_read_named_row_1) (.cons (.ifs (.cmp .gt (.bi 0 true .len (.cons (.v 3) .nil)) (.c (.int 1))) (.cons (.rais 0 "WrongLine" (.tup (.cons (.c (.int 1)) (.cons (.c (.int 0)) .nil)))) .nil) .nil) (.cons (.ret (.bi 0 true .tuple (.cons (.v 5) .nil))) .nil))))))))
def f_read_named_row : Fn := ⟨9, 2, b_read_named_row⟩
def b__law_is_whole : Ss := (.cons (.ret (.an (.isi 0 0 (.v 0) .int) (.nt (.isi 0 0 (.v 0) .bool)))) .nil)
def f__law_is_whole : Fn := ⟨1, 1, b__law_is_whole⟩
def l__law_same_1 : Ss := (.cons (.ifs (.nt (.call 0 8 (.cons (.ix (.v 0) (.v 2)) (.cons (.ix (.v 1) (.v 2)) .nil)))) (.cons (.ret (.c (.bl false))) .nil) .nil) .nil)
def b__law_same : Ss := (.cons (.ifs (.cmp .is (.v 1) (.c .non)) (.cons (.ret (.cmp .is (.v 0) (.c .non))) .nil) .nil) (.cons (.ifs (.isi 0 0 (.v 1) .bool) (.cons (.ret (.ite (.v 1) (.cmp .is (.v 0) (.c (.bl true))) (.cmp .is (.v 0) (.c (.bl false))))) .nil) .nil) (.cons (.ifs (.isi 0 0 (.v 1) .int) (.cons (.ret (.an (.call 0 7 (.cons (.v 0) .nil)) (.cmp .eq (.v 0) (.v 1)))) .nil) .nil) (.cons (.ifs (.isi 0 0 (.v 1) .str) (.cons (.ret (.an (.isi 0 0 (.v 0) .str) (.cmp .eq (.v 0) (.v 1)))) .nil) .nil) (.cons (.ifs (.orr (.an (.isi 0 0 (.v 1) .tuple) (.nt (.isi 0 0 (.v 0) .tuple))) (.an (.isi 0 0 (.v 1) .list) (.nt (.isi 0 0 (.v 0) .list)))) (.cons (.ret (.c (.bl false))) .nil) .nil) (.cons (.ifs (.cmp .ne (.bi 0 true .len (.cons (.v 0) .nil)) (.bi 0 true .len (.cons (.v 1) .nil))) (.cons (.ret (.c (.bl false))) .nil) .nil) (.cons (.for_ (.nm 2) (.range 0 (.cons (.bi 0 true .len (.cons (.v 1) .nil)) .nil)) l__law_same_1) (.cons (.ret (.c (.bl true))) .nil))))))))
def f__law_same : Fn := ⟨3, 2, b__law_same⟩
def b__law_pool : Ss := (.cons (.set 2 (.c (.int 0))) (.cons (.ifs (.cmp .lt (.v 1) (.bi 0 true .len (.cons (.v 0) .nil))) (.cons (.set 2 (.ix (.v 0) (.v 1))) .nil) (.cons (.ifs (.cmp .ne (.v 0) (.lst true .nil)) (.cons (.set 2 (.ix (.v 0) (.c (.int 0)))) .nil) .nil) .nil)) (.cons (.set 3 (.bi 0 true .max (.cons (.bi 0 true .int (.cons (.v 2) .nil)) (.cons (.bi 0 true .int (.cons (.bin true .sub (.neg (.c (.int 1))) (.v 2)) .nil)) .nil)))) (.cons (.set 4 (.bin true .mod (.bi 0 true .int (.cons (.bin true .mul (.bin true .add (.bin true .add (.bin true .add (.bin true .mod (.bi 0 true .int (.cons (.v 3) .nil)) (.c (.int 2147483629))) (.bin true .mul (.bin true .mul (.c (.int 7919)) (.v 1)) (.v 1))) (.bin true .mul (.c (.int 31)) (.v 1))) (.c (.int 17))) (.c (.int 48271))) .nil)) (.c (.int 2147483647)))) (.cons (.ret (.lst false (.cons (.bin true .mul (.v 3) (.bi 0 true .int (.cons (.an (.cmp .ge (.v 3) (.bin true .pow (.c (.int 10)) (.c (.int 18)))) (.cmp .lt (.v 1) (.bi 0 true .len (.cons (.v 0) .nil)))) .nil))) (.cons (.v 4) .nil)))) .nil)))))
def f__law_pool : Fn := ⟨5, 2, b__law_pool⟩
def b__law_take : Ss := (.cons (.ifs (.cmp .gt (.ix (.v 0) (.c (.int 0))) (.c (.int 0))) (.cons (.set 2 (.bin true .mod (.bi 0 true .int (.cons (.ix (.v 0) (.c (.int 0))) .nil)) (.v 1))) (.cons (.setIx (.v 0) (.c (.int 0)) (.bin true .fdiv (.ix (.v 0) (.c (.int 0))) (.v 1))) (.cons (.ret (.v 2)) .nil))) .nil) (.cons (.setIx (.v 0) (.c (.int 1)) (.bin true .mod (.bi 0 true .int (.cons (.bin true .add (.bin true .mul (.ix (.v 0) (.c (.int 1))) (.c (.int 39373))) (.c (.int 7))) .nil)) (.c (.int 2147483647)))) (.cons (.ret (.bin true .mod (.bi 0 true .int (.cons (.bin true .fdiv (.bin true .mod (.bi 0 true .int (.cons (.bin true .mul (.ix (.v 0) (.c (.int 1))) (.ix (.v 0) (.c (.int 1)))) .nil)) (.c (.int 2147483629))) (.c (.int 32))) .nil)) (.v 1))) .nil)))
def f__law_take : Fn := ⟨3, 2, b__law_take⟩
def b__law_one : Ss := (.cons (.ret (.ix (.v 1) (.call 0 14 (.cons (.v 0) (.cons (.bi 0 true .len (.cons (.v 1) .nil)) .nil))))) .nil)
def f__law_one : Fn := ⟨2, 2, b__law_one⟩
def b__law_wrong_row : Ss := (.cons (.ifs (.nt (.isi 0 0 (.v 1) .tuple)) (.cons (.ret (.tup (.cons (.c (.str "BadRow")) (.cons (.neg (.c (.int 1))) .nil)))) .nil) .nil) (.cons (.ifs (.cmp .gt (.bi 0 true .len (.cons (.v 1) .nil)) (.c (.int 300))) (.cons (.ret (.tup (.cons (.c (.str "TooMany")) (.cons (.bi 0 true .len (.cons (.v 1) .nil)) .nil)))) .nil) .nil) (.cons (.set 2 (.comp true (.v 3) (.nm 3) (.range 0 (.cons (.bi 0 true .len (.cons (.v 1) .nil)) .nil)) (.some (.orr (.nt (.call 0 7 (.cons (.ix (.v 1) (.v 3)) .nil))) (.orr (.cmp .lt (.ix (.v 1) (.v 3)) (.c (.int 0))) (.cmp .ge (.ix (.v 1) (.v 3)) (.v 0))))) [3])) (.cons (.ret (.ite (.cmp .ne (.v 2) (.lst true .nil)) (.tup (.cons (.c (.str "BadRow")) (.cons (.ix (.v 2) (.c (.int 0))) .nil))) (.c .non))) .nil))))
def f__law_wrong_row : Fn := ⟨4, 2, b__law_wrong_row⟩
def b__law_text_wrong : Ss := (.cons (.ifs (.nt (.isi 0 0 (.v 0) .str)) (.cons (.ret (.tup (.cons (.c (.str "BadText")) (.cons (.neg (.c (.int 1))) .nil)))) .nil) .nil) (.cons (.ret (.ite (.cmp .gt (.bi 0 true .len (.cons (.v 0) .nil)) (.v 1)) (.tup (.cons (.c (.str "TooMany")) (.cons (.bi 0 true .len (.cons (.v 0) .nil)) .nil))) (.c .non))) .nil))
def f__law_text_wrong : Fn := ⟨2, 2, b__law_text_wrong⟩
def b__law_is_name : Ss := (.cons (.ifs (.orr (.nt (.isi 0 0 (.v 0) .str)) (.nt (.chain .le .le (.c (.int 1)) (.bi 0 true .len (.cons (.v 0) .nil)) (.c (.int 12))))) (.cons (.ret (.c (.bl false))) .nil) .nil) (.cons (.ifs (.cmp .isin (.v 0) (.lst true (.cons (.c (.str "none")) (.cons (.c (.str "from")) (.cons (.c (.str "of")) (.cons (.c (.str "out")) (.cons (.c (.str "with")) (.cons (.c (.str "apart")) .nil)))))))) (.cons (.ret (.c (.bl false))) .nil) .nil) (.cons (.ret (.cmp .eq (.comp true (.v 1) (.nm 1) (.e (.v 0)) (.some (.cmp .notin (.v 1) (.c (.str "abcdefghijklmnopqrstuvwxyz")))) [1]) (.lst true .nil))) .nil)))
def f__law_is_name : Fn := ⟨2, 1, b__law_is_name⟩
def l__law_wrong_names_1 : Ss := (.cons (.ifs (.orr (.nt (.call 0 18 (.cons (.ix (.v 0) (.v 1)) .nil))) (.cmp .isin (.ix (.v 0) (.v 1)) (.sl true (.v 0) .none (.some (.v 1))))) (.cons (.ret (.tup (.cons (.c (.str "BadNames")) (.cons (.v 1) .nil)))) .nil) .nil) .nil)
def b__law_wrong_names : Ss := (.cons (.ifs (.nt (.isi 0 0 (.v 0) .tuple)) (.cons (.ret (.tup (.cons (.c (.str "BadNames")) (.cons (.neg (.c (.int 1))) .nil)))) .nil) .nil) (.cons (.ifs (.cmp .gt (.bi 0 true .len (.cons (.v 0) .nil)) (.c (.int 24))) (.cons (.ret (.tup (.cons (.c (.str "TooMany")) (.cons (.bi 0 true .len (.cons (.v 0) .nil)) .nil)))) .nil) .nil) (.cons (.for_ (.nm 1) (.range 0 (.cons (.bi 0 true .len (.cons (.v 0) .nil)) .nil)) l__law_wrong_names_1) (.cons (.ret (.c .non)) .nil))))
def f__law_wrong_names : Fn := ⟨2, 1, b__law_wrong_names⟩
def b__law_named_text : Ss := (.cons (.ret (.me true .join (.c (.str " ")) (.cons (.comp true (.ix (.v 0) (.v 2)) (.nm 2) (.e (.v 1)) .none [2]) .nil))) .nil)
def f__law_named_text : Fn := ⟨3, 2, b__law_named_text⟩
def b__law_read_named_row : Ss := (.cons (.set 2 (.call 0 17 (.cons (.v 1) (.cons (.c (.int 400000)) .nil)))) (.cons (.ifs (.cmp .isnot (.v 2) (.c .non)) (.cons (.ret (.v 2)) .nil) .nil) (.cons (.ifs (.cmp .eq (.v 1) (.c (.str ""))) (.cons (.ret (.tup (.cons (.c (.str "told")) (.cons (.tup .nil) .nil)))) .nil) .nil) (.cons (.set 3 (.me true .split (.v 1) (.cons (.c (.str "\n")) .nil))) (.cons (.set 4 (.me true .split (.ix (.v 3) (.c (.int 0))) (.cons (.c (.str " ")) .nil))) (.cons (.set 5 (.comp true (.v 7) (.nm 7) (.range 0 (.cons (.bi 0 true .len (.cons (.v 4) .nil)) .nil)) (.some (.orr (.cmp .notin (.ix (.v 4) (.v 7)) (.v 0)) (.cmp .gt (.v 7) (.c (.int 299))))) [7])) (.cons (.ifs (.cmp .ne (.v 5) (.lst true .nil)) (.cons (.ret (.tup (.cons (.c (.str "WrongLine")) (.cons (.tup (.cons (.c (.int 0)) (.cons (.ix (.v 5) (.c (.int 0))) .nil))) .nil)))) .nil) .nil) (.cons (.ret (.ite (.cmp .eq (.bi 0 true .len (.cons (.v 3) .nil)) (.c (.int 1))) (.tup (.cons (.c (.str "told")) (.cons (.bi 0 true .tuple (.cons (.comp true (.me true .indexT (.v 0) (.cons (.v 6) .nil)) (.nm 6) (.e (.v 4)) .none [6]) .nil)) .nil))) (.tup (.cons (.c (.str "WrongLine")) (.cons (.tup (.cons (.c (.int 1)) (.cons (.c (.int 0)) .nil))) .nil))))) .nil))))))))
def f__law_read_named_row : Fn := ⟨8, 2, b__law_read_named_row⟩
def b__law_drawn_name : Ss := (.cons (.set 2 (.bin true .add (.c (.int 1)) (.call 0 14 (.cons (.v 0) (.cons (.v 1) .nil))))) (.cons (.set 3 (.me true .join (.c (.str "")) (.cons (.comp true (.call 0 15 (.cons (.v 0) (.cons (.lst true (.cons (.c (.str "a")) (.cons (.c (.str "b")) (.cons (.c (.str "e")) (.cons (.c (.str "o")) (.cons (.c (.str "z")) .nil)))))) .nil))) (.nm 4) (.range 0 (.cons (.v 2) .nil)) .none [4]) .nil))) (.cons (.ret (.ite (.call 0 18 (.cons (.v 3) .nil)) (.v 3) (.bin true .add (.v 3) (.c (.str "x"))))) .nil)))
def f__law_drawn_name : Fn := ⟨5, 2, b__law_drawn_name⟩
def b__law_bent_text : Ss := (.cons (.par 4 5 (.call 0 14 (.cons (.v 0) (.cons (.c (.int 6)) .nil))) (.call 0 14 (.cons (.v 0) (.cons (.bin true .add (.bi 0 true .len (.cons (.v 1) .nil)) (.c (.int 1))) .nil)))) (.cons (.set 2 (.me true .split (.v 1) (.cons (.c (.str "\n")) .nil))) (.cons (.set 3 (.call 0 14 (.cons (.v 0) (.cons (.bi 0 true .len (.cons (.v 2) .nil)) .nil)))) (.cons (.ifs (.cmp .eq (.v 4) (.c (.int 0))) (.cons (.ret (.bin true .add (.sl true (.v 1) .none (.some (.v 5))) (.sl true (.v 1) (.some (.bin true .add (.v 5) (.c (.int 1)))) .none))) .nil) .nil) (.cons (.ifs (.cmp .lt (.v 4) (.c (.int 4))) (.cons (.set 6 (.call 0 15 (.cons (.v 0) (.cons (.lst true (.cons (.c (.str " ")) (.cons (.c (.str "\n")) (.cons (.c (.str "-")) (.cons (.c (.str "0")) (.cons (.c (.str "1")) (.cons (.c (.str "7")) (.cons (.c (.str ",")) (.cons (.c (.str "a")) (.cons (.c (.str "none")) (.cons (.c (.str "x")) (.cons (.c (.str "+")) (.cons (.c (.str "of")) (.cons (.c (.str "2")) (.cons (.c (.str "from")) .nil))))))))))))))) .nil)))) (.cons (.ret (.bin true .add (.bin true .add (.sl true (.v 1) .none (.some (.v 5))) (.v 6)) (.sl true (.v 1) (.some (.bin true .add (.v 5) (.bi 0 true .int (.cons (.cmp .eq (.v 4) (.c (.int 3))) .nil)))) .none))) .nil)) .nil) (.cons (.ret (.ite (.cmp .eq (.v 4) (.c (.int 4))) (.me true .join (.c (.str "\n")) (.cons (.bin true .add (.sl true (.v 2) .none (.some (.bin true .add (.v 3) (.c (.int 1))))) (.sl true (.v 2) (.some (.v 3)) .none)) .nil)) (.me true .join (.c (.str "\n")) (.cons (.bin true .add (.sl true (.v 2) .none (.some (.v 3))) (.sl true (.v 2) (.some (.bin true .add (.v 3) (.c (.int 1)))) .none)) .nil)))) .nil))))))
def f__law_bent_text : Fn := ⟨7, 2, b__law_bent_text⟩
def l__law_some_names_1 : Ss := (.cons (.set 3 (.call 0 22 (.cons (.v 0) (.cons (.call 0 15 (.cons (.v 0) (.cons (.lst true (.cons (.c (.int 1)) (.cons (.c (.int 2)) (.cons (.c (.int 3)) (.cons (.c (.int 12)) .nil))))) .nil))) .nil)))) (.cons (.set 4 (.ite (.cmp .ne (.v 1) (.lst true .nil)) (.call 0 15 (.cons (.v 0) (.cons (.v 1) .nil))) (.v 3))) (.cons (.set 5 (.lst true (.cons (.v 3) (.cons (.v 3) (.cons (.bin true .add (.v 4) (.c (.str "a"))) (.cons (.sl true (.v 4) (.some (.c (.int 1))) .none) (.cons (.bin true .add (.call 0 15 (.cons (.v 0) (.cons (.lst true (.cons (.c (.str "none")) (.cons (.c (.str "from")) (.cons (.c (.str "of")) (.cons (.c (.str "out")) (.cons (.c (.str "with")) (.cons (.c (.str "apart")) .nil))))))) .nil))) (.call 0 15 (.cons (.v 0) (.cons (.lst true (.cons (.c (.str "")) (.cons (.c (.str "a")) (.cons (.c (.str "s")) .nil)))) .nil)))) .nil))))))) (.cons (.set 3 (.call 0 15 (.cons (.v 0) (.cons (.v 5) .nil)))) (.cons (.ifs (.an (.call 0 18 (.cons (.v 3) .nil)) (.cmp .notin (.v 3) (.v 1))) (.cons (.ex (.me true .append (.v 1) (.cons (.v 3) .nil))) .nil) .nil) .nil)))))
def b__law_some_names : Ss := (.cons (.set 1 (.lst false .nil)) (.cons (.for_ (.nm 2) (.range 0 (.cons (.bin true .mul (.call 0 15 (.cons (.v 0) (.cons (.lst true (.cons (.c (.int 0)) (.cons (.c (.int 1)) (.cons (.c (.int 2)) (.cons (.c (.int 3)) (.cons (.c (.int 5)) (.cons (.c (.int 8)) (.cons (.c (.int 24)) .nil)))))))) .nil))) (.c (.int 2))) .nil)) l__law_some_names_1) (.cons (.ret (.bi 0 true .tuple (.cons (.sl true (.v 1) .none (.some (.c (.int 24)))) .nil))) .nil)))
def f__law_some_names : Fn := ⟨6, 1, b__law_some_names⟩
def b__law_names_right : Ss := (.cons (.set 1 (.call 0 19 (.cons (.v 0) .nil))) (.cons (.ret (.call 0 8 (.cons (.heard 0 (.call 0 4 (.cons (.v 0) .nil))) (.cons (.ite (.cmp .is (.v 1) (.c .non)) (.tup (.cons (.c (.str "told")) (.cons (.v 0) .nil))) (.v 1)) .nil)))) .nil))
def f__law_names_right : Fn := ⟨2, 1, b__law_names_right⟩
def b__law_odd_names : Ss := (.cons (.set 2 (.call 0 15 (.cons (.v 0) (.cons (.lst true (.cons (.bi 0 true .len (.cons (.v 1) .nil)) (.cons (.call 0 14 (.cons (.v 0) (.cons (.bin true .add (.bi 0 true .len (.cons (.v 1) .nil)) (.c (.int 1))) .nil))) .nil))) .nil)))) (.cons (.set 3 (.call 0 15 (.cons (.v 0) (.cons (.lst true (.cons (.c (.str "")) (.cons (.c (.str "A")) (.cons (.c (.str "a1")) (.cons (.c (.str "a b")) (.cons (.bin true .mul (.c (.str "a")) (.c (.int 13))) (.cons (.c (.str "none")) (.cons (.c (.str "from")) (.cons (.c (.str "of")) (.cons (.c (.str "out")) (.cons (.c (.str "with")) (.cons (.c (.str "apart")) (.cons (.c (.str " a")) (.cons (.c (.str "a\n")) (.cons (.c (.str "a-b")) (.cons (.c .non) (.cons (.c (.int 0)) (.cons (.c (.bl true)) (.cons (.tup (.cons (.c (.str "a")) .nil)) (.cons (.lst true (.cons (.c (.str "a")) .nil)) (.cons (.ite (.cmp .ne (.v 1) (.tup .nil)) (.call 0 15 (.cons (.v 0) (.cons (.v 1) .nil))) (.c (.str "of"))) .nil))))))))))))))))))))) .nil)))) (.cons (.set 4 (.lst true (.cons (.bin true .add (.bin true .add (.sl true (.v 1) .none (.some (.v 2))) (.tup (.cons (.v 3) .nil))) (.sl true (.v 1) (.some (.v 2)) .none)) (.cons (.bi 0 true .list (.cons (.v 1) .nil)) (.cons (.c .non) (.cons (.c (.str "ab")) (.cons (.bin true .add (.v 1) (.sl true (.v 1) .none (.some (.c (.int 1))))) (.cons (.bin true .add (.bin true .add (.sl true (.v 1) .none (.some (.v 2))) (.tup (.cons (.v 3) (.cons (.c (.str "of")) .nil)))) (.sl true (.v 1) (.some (.v 2)) .none)) (.cons (.bin true .mul (.tup (.cons (.c (.str "of")) .nil)) (.c (.int 25))) (.cons (.c (.int 0)) .nil)))))))))) (.cons (.ret (.call 0 15 (.cons (.v 0) (.cons (.v 4) .nil)))) .nil))))
def f__law_odd_names : Fn := ⟨5, 2, b__law_odd_names⟩
def b__law_text_right : Ss := (.cons (.set 2 (.call 0 21 (.cons (.v 0) (.cons (.v 1) .nil)))) (.cons (.ifs (.nt (.call 0 8 (.cons (.heard 0 (.call 0 6 (.cons (.v 0) (.cons (.v 1) .nil)))) (.cons (.v 2) .nil)))) (.cons (.ret (.c (.bl false))) .nil) .nil) (.cons (.ret (.orr (.cmp .ne (.ix (.v 2) (.c (.int 0))) (.c (.str "told"))) (.tells 0 (.call 0 5 (.cons (.v 0) (.cons (.ix (.v 2) (.c (.int 1))) .nil))) (.v 1)))) .nil)))
def f__law_text_right : Fn := ⟨3, 2, b__law_text_right⟩
def b__law_texts_of : Ss := (.cons (.set 3 (.me true .split (.v 2) (.cons (.c (.str " ")) .nil))) (.cons (.set 4 (.call 0 14 (.cons (.v 0) (.cons (.bi 0 true .len (.cons (.v 3) .nil)) .nil)))) (.cons (.set 5 (.call 0 15 (.cons (.v 0) (.cons (.lst true (.cons (.c (.str "")) (.cons (.c (.str "of")) (.cons (.c (.str "none")) (.cons (.c (.str "xyz")) (.cons (.c (.str "A")) (.cons (.bin true .add (.ix (.v 3) (.v 4)) (.c (.str "a"))) (.cons (.sl true (.ix (.v 3) (.v 4)) (.some (.c (.int 1))) .none) (.cons (.me true .upper (.ix (.v 3) (.v 4)) .nil) (.cons (.bin true .add (.ix (.v 3) (.v 4)) (.c (.str ","))) (.cons (.c (.str "0")) (.cons (.bin true .add (.ix (.v 3) (.v 4)) (.c (.str "\t"))) (.cons (.bin true .add (.c (.str "\n")) (.ix (.v 3) (.v 4))) .nil))))))))))))) .nil)))) (.cons (.set 6 (.lst true (.cons (.me true .join (.c (.str " ")) (.cons (.bin true .add (.bin true .add (.sl true (.v 3) .none (.some (.v 4))) (.lst true (.cons (.v 5) .nil))) (.sl true (.v 3) (.some (.bin true .add (.v 4) (.c (.int 1)))) .none)) .nil)) (.cons (.me true .join (.c (.str " ")) (.cons (.bin true .add (.bin true .add (.sl true (.v 3) .none (.some (.v 4))) (.lst true (.cons (.v 5) .nil))) (.sl true (.v 3) (.some (.v 4)) .none)) .nil)) (.cons (.bin true .add (.v 2) (.c (.str " "))) (.cons (.bin true .add (.c (.str " ")) (.v 2)) (.cons (.bin true .add (.v 2) (.c (.str "\n"))) (.cons (.bin true .add (.bin true .add (.v 2) (.c (.str "\n"))) (.v 2)) (.cons (.c (.str "\n")) (.cons (.c (.str " ")) (.cons (.c (.str "")) (.cons (.me true .upper (.v 2) .nil) (.cons (.c (.str "none")) (.cons (.bin true .add (.bin true .add (.v 2) (.c (.str "  "))) (.v 2)) .nil)))))))))))))) (.cons (.ret (.bin true .add (.v 6) (.lst true (.cons (.call 0 23 (.cons (.v 0) (.cons (.v 2) .nil))) (.cons (.call 0 23 (.cons (.v 0) (.cons (.call 0 23 (.cons (.v 0) (.cons (.v 2) .nil))) .nil))) .nil))))) .nil)))))
def f__law_texts_of : Fn := ⟨7, 3, b__law_texts_of⟩
def l__law_rows_right_1 : Ss := (.cons (.set 8 (.call 0 15 (.cons (.v 0) (.cons (.lst true (.cons (.bin true .add (.bin true .add (.sl true (.v 3) .none (.some (.v 6))) (.tup (.cons (.v 7) .nil))) (.sl true (.v 3) (.some (.v 6)) .none)) (.cons (.bin true .add (.v 3) (.tup (.cons (.v 7) .nil))) (.cons (.bi 0 true .list (.cons (.v 3) .nil)) (.cons (.c .non) (.cons (.bin true .mul (.tup (.cons (.v 7) .nil)) (.c (.int 301))) .nil)))))) .nil)))) (.cons (.set 9 (.call 0 16 (.cons (.v 2) (.cons (.v 8) .nil)))) (.cons (.ifs (.nt (.call 0 8 (.cons (.heard 0 (.call 0 5 (.cons (.v 1) (.cons (.v 8) .nil)))) (.cons (.v 9) .nil)))) (.cons (.ret (.c (.bl false))) .nil) .nil) .nil)))
def l__law_rows_right_2 : Ss := (.cons (.ifs (.nt (.call 0 27 (.cons (.v 1) (.cons (.v 5) .nil)))) (.cons (.ret (.c (.bl false))) .nil) .nil) .nil)
def b__law_rows_right : Ss := (.cons (.set 2 (.bi 0 true .len (.cons (.v 1) .nil))) (.cons (.set 3 (.ite (.cmp .gt (.v 2) (.c (.int 0))) (.bi 0 true .tuple (.cons (.comp true (.call 0 14 (.cons (.v 0) (.cons (.v 2) .nil))) (.nm 10) (.range 0 (.cons (.call 0 14 (.cons (.v 0) (.cons (.c (.int 15)) .nil))) .nil)) .none [10]) .nil)) (.tup .nil))) (.cons (.set 4 (.call 0 20 (.cons (.v 1) (.cons (.v 3) .nil)))) (.cons (.ifs (.nt (.tells 0 (.call 0 5 (.cons (.v 1) (.cons (.v 3) .nil))) (.v 4))) (.cons (.ret (.c (.bl false))) .nil) .nil) (.cons (.ifs (.nt (.tells 0 (.call 0 6 (.cons (.v 1) (.cons (.v 4) .nil))) (.v 3))) (.cons (.ret (.c (.bl false))) .nil) .nil) (.cons (.for_ (.nm 5) (.e (.call 0 28 (.cons (.v 0) (.cons (.v 1) (.cons (.v 4) .nil))))) l__law_rows_right_2) (.cons (.set 6 (.call 0 14 (.cons (.v 0) (.cons (.bin true .add (.bi 0 true .len (.cons (.v 3) .nil)) (.c (.int 1))) .nil)))) (.cons (.for_ (.nm 7) (.e (.lst true (.cons (.v 2) (.cons (.neg (.c (.int 1))) (.cons (.c (.bl true)) (.cons (.c .non) (.cons (.ite (.cmp .gt (.v 2) (.c (.int 0))) (.ix (.v 1) (.c (.int 0))) (.c (.str "a"))) .nil))))))) l__law_rows_right_1) (.cons (.ret (.tells 0 (.call 0 5 (.cons (.v 1) (.cons (.v 3) .nil))) (.v 4))) .nil)))))))))
def f__law_rows_right : Fn := ⟨11, 2, b__law_rows_right⟩
def l__law_long_right_1 : Ss := (.cons (.set 3 (.me true .join (.c (.str " ")) (.cons (.comp true (.call 0 15 (.cons (.v 0) (.cons (.v 1) .nil))) (.nm 6) (.range 0 (.cons (.v 2) .nil)) .none [6]) .nil))) (.cons (.ifs (.nt (.call 0 27 (.cons (.v 1) (.cons (.v 3) .nil)))) (.cons (.ret (.c (.bl false))) .nil) .nil) (.cons (.set 4 (.bin true .mul (.tup (.cons (.bin true .sub (.bi 0 true .len (.cons (.v 1) .nil)) (.c (.int 1))) .nil)) (.v 2))) (.cons (.set 5 (.ite (.cmp .lt (.v 2) (.c (.int 301))) (.tup (.cons (.c (.str "told")) (.cons (.me true .join (.c (.str " ")) (.cons (.bin true .mul (.lst true (.cons (.ix (.v 1) (.neg (.c (.int 1)))) .nil)) (.v 2)) .nil)) .nil))) (.tup (.cons (.c (.str "TooMany")) (.cons (.c (.int 301)) .nil))))) (.cons (.ifs (.nt (.call 0 8 (.cons (.heard 0 (.call 0 5 (.cons (.v 1) (.cons (.v 4) .nil)))) (.cons (.v 5) .nil)))) (.cons (.ret (.c (.bl false))) .nil) .nil) .nil)))))
def b__law_long_right : Ss := (.cons (.for_ (.nm 2) (.e (.lst true (.cons (.c (.int 299)) (.cons (.c (.int 300)) (.cons (.c (.int 301)) .nil))))) l__law_long_right_1) (.cons (.ret (.refuses 0 (.call 0 6 (.cons (.v 1) (.cons (.bin true .mul (.c (.str "a")) (.c (.int 400001))) .nil))) (.c (.str "TooMany")) (.c (.int 400001)))) .nil))
def f__law_long_right : Fn := ⟨7, 2, b__law_long_right⟩
def l__law_refused_right_1 : Ss := (.cons (.ifs (.an (.cmp .isnot (.v 2) (.c .non)) (.nt (.call 0 8 (.cons (.heard 0 (.callv 3 (.cons (.v 5) (.cons (.v 6) .nil)))) (.cons (.v 2) .nil))))) (.cons (.ret (.c (.bl false))) .nil) .nil) .nil)
def b__law_refused_right : Ss := (.cons (.setT (.tup (.cons (.nm 5) (.cons (.nm 6) .nil))) (.tup (.cons (.call 0 26 (.cons (.v 0) (.cons (.v 1) .nil))) (.cons (.call 0 15 (.cons (.v 0) (.cons (.lst true (.cons (.c .non) (.cons (.tup (.cons (.c (.int 99)) .nil)) (.cons (.lst true (.cons (.c (.int 0)) .nil)) (.cons (.bin true .mul (.tup (.cons (.c .non) .nil)) (.c (.int 301))) .nil))))) .nil))) .nil)))) (.cons (.set 2 (.call 0 19 (.cons (.v 5) .nil))) (.cons (.ifs (.nt (.call 0 25 (.cons (.v 5) .nil))) (.cons (.ret (.c (.bl false))) .nil) .nil) (.cons (.for_ (.nm 3) (.e (.lst true (.cons (.fn 0 5) (.cons (.fn 0 6) .nil)))) l__law_refused_right_1) (.cons (.set 4 (.call 0 15 (.cons (.v 0) (.cons (.lst true (.cons (.c .non) (.cons (.c (.int 7)) (.cons (.lst true (.cons (.c (.str "a")) .nil)) (.cons (.tup (.cons (.c (.str "a")) .nil)) (.cons (.c (.bl true)) .nil)))))) .nil)))) (.cons (.ret (.refuses 0 (.call 0 6 (.cons (.v 1) (.cons (.v 4) .nil))) (.c (.str "BadText")) (.neg (.c (.int 1))))) .nil))))))
def f__law_refused_right : Fn := ⟨7, 2, b__law_refused_right⟩
def l_law_1 : Ss := (.cons (.ifs (.nt (.call 0 31 (.cons (.v 2) (.cons (.v 3) .nil)))) (.cons (.ret (.c (.bl false))) .nil) .nil) .nil)
def l_law_2 : Ss := (.cons (.set 2 (.call 0 13 (.cons (.v 0) (.cons (.v 1) .nil)))) (.cons (.set 3 (.call 0 24 (.cons (.v 2) .nil))) (.cons (.ifs (.orr (.nt (.call 0 25 (.cons (.v 3) .nil))) (.nt (.call 0 29 (.cons (.v 2) (.cons (.v 3) .nil))))) (.cons (.ret (.c (.bl false))) .nil) .nil) (.cons (.for_ (.nm 4) (.range 0 (.cons (.c (.int 4)) .nil)) l_law_1) .nil))))
def b_law : Ss := (.cons (.for_ (.nm 1) (.range 0 (.cons (.c (.int 4)) .nil)) l_law_2) (.cons (.ifs (.an (.cmp .ne (.v 3) (.tup .nil)) (.nt (.call 0 30 (.cons (.call 0 13 (.cons (.v 0) (.cons (.c (.int 4)) .nil))) (.cons (.v 3) .nil))))) (.cons (.ret (.c (.bl false))) .nil) .nil) (.cons (.ret (.an (.call 0 25 (.cons (.bin true .add (.tup (.cons (.c (.str "a")) .nil)) (.bi 0 true .tuple (.cons (.comp true (.bin true .add (.c (.str "a")) (.v 5)) (.nm 5) (.e (.c (.str "abcdefghijklmnopqrstuvw"))) .none [5]) .nil))) .nil)) (.call 0 25 (.cons (.bi 0 true .tuple (.cons (.comp true (.bin true .add (.c (.str "b")) (.v 5)) (.nm 5) (.e (.c (.str "abcdefghijklmnopqrstuvwxy"))) .none [5]) .nil)) .nil)))) .nil)))
def f_law : Fn := ⟨6, 1, b_law⟩
def tabL : List (Nat × Fn) := [(0, f_whole), (1, f_all_lines), (2, f_words_of), (3, f_is_name), (4, f_made_names), (5, f_named_row), (6, f_read_named_row), (7, f__law_is_whole), (8, f__law_same), (13, f__law_pool), (14, f__law_take), (15, f__law_one), (16, f__law_wrong_row), (17, f__law_text_wrong), (18, f__law_is_name), (19, f__law_wrong_names), (20, f__law_named_text), (21, f__law_read_named_row), (22, f__law_drawn_name), (23, f__law_bent_text), (24, f__law_some_names), (25, f__law_names_right), (26, f__law_odd_names), (27, f__law_text_right), (28, f__law_texts_of), (29, f__law_rows_right), (30, f__law_long_right), (31, f__law_refused_right), (32, f_law)]
/-- the table holds these defs -/
abbrev Tb (tab : Nat → Option Fn) : Prop := ∀ p ∈ tabL, tab p.1 = some p.2
theorem t_whole {tab : Nat → Option Fn} (H : Tb tab) : tab 0 = some f_whole := H _ (List.mem_of_getElem? (i := 0) rfl)
theorem t_all_lines {tab : Nat → Option Fn} (H : Tb tab) : tab 1 = some f_all_lines := H _ (List.mem_of_getElem? (i := 1) rfl)
theorem t_words_of {tab : Nat → Option Fn} (H : Tb tab) : tab 2 = some f_words_of := H _ (List.mem_of_getElem? (i := 2) rfl)
theorem t_is_name {tab : Nat → Option Fn} (H : Tb tab) : tab 3 = some f_is_name := H _ (List.mem_of_getElem? (i := 3) rfl)
theorem t_made_names {tab : Nat → Option Fn} (H : Tb tab) : tab 4 = some f_made_names := H _ (List.mem_of_getElem? (i := 4) rfl)
theorem t_named_row {tab : Nat → Option Fn} (H : Tb tab) : tab 5 = some f_named_row := H _ (List.mem_of_getElem? (i := 5) rfl)
theorem t_read_named_row {tab : Nat → Option Fn} (H : Tb tab) : tab 6 = some f_read_named_row := H _ (List.mem_of_getElem? (i := 6) rfl)
theorem t__law_is_whole {tab : Nat → Option Fn} (H : Tb tab) : tab 7 = some f__law_is_whole := H _ (List.mem_of_getElem? (i := 7) rfl)
theorem t__law_same {tab : Nat → Option Fn} (H : Tb tab) : tab 8 = some f__law_same := H _ (List.mem_of_getElem? (i := 8) rfl)
theorem t__law_pool {tab : Nat → Option Fn} (H : Tb tab) : tab 13 = some f__law_pool := H _ (List.mem_of_getElem? (i := 9) rfl)
theorem t__law_take {tab : Nat → Option Fn} (H : Tb tab) : tab 14 = some f__law_take := H _ (List.mem_of_getElem? (i := 10) rfl)
theorem t__law_one {tab : Nat → Option Fn} (H : Tb tab) : tab 15 = some f__law_one := H _ (List.mem_of_getElem? (i := 11) rfl)
theorem t__law_wrong_row {tab : Nat → Option Fn} (H : Tb tab) : tab 16 = some f__law_wrong_row := H _ (List.mem_of_getElem? (i := 12) rfl)
theorem t__law_text_wrong {tab : Nat → Option Fn} (H : Tb tab) : tab 17 = some f__law_text_wrong := H _ (List.mem_of_getElem? (i := 13) rfl)
theorem t__law_is_name {tab : Nat → Option Fn} (H : Tb tab) : tab 18 = some f__law_is_name := H _ (List.mem_of_getElem? (i := 14) rfl)
theorem t__law_wrong_names {tab : Nat → Option Fn} (H : Tb tab) : tab 19 = some f__law_wrong_names := H _ (List.mem_of_getElem? (i := 15) rfl)
theorem t__law_named_text {tab : Nat → Option Fn} (H : Tb tab) : tab 20 = some f__law_named_text := H _ (List.mem_of_getElem? (i := 16) rfl)
theorem t__law_read_named_row {tab : Nat → Option Fn} (H : Tb tab) : tab 21 = some f__law_read_named_row := H _ (List.mem_of_getElem? (i := 17) rfl)
theorem t__law_drawn_name {tab : Nat → Option Fn} (H : Tb tab) : tab 22 = some f__law_drawn_name := H _ (List.mem_of_getElem? (i := 18) rfl)
theorem t__law_bent_text {tab : Nat → Option Fn} (H : Tb tab) : tab 23 = some f__law_bent_text := H _ (List.mem_of_getElem? (i := 19) rfl)
theorem t__law_some_names {tab : Nat → Option Fn} (H : Tb tab) : tab 24 = some f__law_some_names := H _ (List.mem_of_getElem? (i := 20) rfl)
theorem t__law_names_right {tab : Nat → Option Fn} (H : Tb tab) : tab 25 = some f__law_names_right := H _ (List.mem_of_getElem? (i := 21) rfl)
theorem t__law_odd_names {tab : Nat → Option Fn} (H : Tb tab) : tab 26 = some f__law_odd_names := H _ (List.mem_of_getElem? (i := 22) rfl)
theorem t__law_text_right {tab : Nat → Option Fn} (H : Tb tab) : tab 27 = some f__law_text_right := H _ (List.mem_of_getElem? (i := 23) rfl)
theorem t__law_texts_of {tab : Nat → Option Fn} (H : Tb tab) : tab 28 = some f__law_texts_of := H _ (List.mem_of_getElem? (i := 24) rfl)
theorem t__law_rows_right {tab : Nat → Option Fn} (H : Tb tab) : tab 29 = some f__law_rows_right := H _ (List.mem_of_getElem? (i := 25) rfl)
theorem t__law_long_right {tab : Nat → Option Fn} (H : Tb tab) : tab 30 = some f__law_long_right := H _ (List.mem_of_getElem? (i := 26) rfl)
theorem t__law_refused_right {tab : Nat → Option Fn} (H : Tb tab) : tab 31 = some f__law_refused_right := H _ (List.mem_of_getElem? (i := 27) rfl)
theorem t_law {tab : Nat → Option Fn} (H : Tb tab) : tab 32 = some f_law := H _ (List.mem_of_getElem? (i := 28) rfl)
end SS.K90
end PT_IR_k90
section PT_PL0
set_option Elab.async false
set_option linter.all false
set_option maxRecDepth 100000
set_option maxHeartbeats 2000000
/-! Plain laws: what the semantics does, as equations. -/
namespace SS
open PySem
/-! ### weakest preconditions -/
@[irreducible] def wp {α : Type} (r : R α) (Q : α → Mem → Prop) : Prop := match r with
  | .ok a m => Q a m
  | _ => False
@[simp] theorem wp_ok {α : Type} (a : α) (m : Mem) (Q : α → Mem → Prop) : wp (.ok a m) Q = Q a m := by unfold wp; rfl
@[simp] theorem wp_no {α : Type} (Q : α → Mem → Prop) : wp (.no : R α) Q = False := by unfold wp; rfl
@[simp] theorem wp_ex {α : Type} (c : Str) (x : D) (m : Mem) (Q : α → Mem → Prop) : wp (.ex c x m : R α) Q = False := by unfold wp; rfl
theorem wp_bind {α β : Type} {r : R α} {f : α → Mem → R β} {Q : β → Mem → Prop} : wp (r.bind f) Q = wp r fun a m => wp (f a m) Q := by cases r <;> simp
theorem wp_mono {α : Type} {r : R α} {Q Q' : α → Mem → Prop} (h : wp r Q) (k : ∀ a m, Q a m → Q' a m) : wp r Q' := by
  cases r with
  | ok a m => exact (wp_ok _ _ _).mpr (k a m ((wp_ok _ _ _).mp h))
  | no => exact ((wp_no _).mp h).elim
  | ex => exact ((wp_ex _ _ _ _).mp h).elim
theorem wp_ex' {α : Type} {r : R α} {Q : α → Mem → Prop} (h : wp r Q) : ∃ a m, r = .ok a m ∧ Q a m := by
  cases r with
  | ok a m => exact ⟨a, m, rfl, (wp_ok _ _ _).mp h⟩
  | no => exact ((wp_no _).mp h).elim
  | ex => exact ((wp_ex _ _ _ _).mp h).elim
theorem wp_of {α : Type} {r : R α} {a : α} {m : Mem} {Q : α → Mem → Prop} (e : r = .ok a m) (h : Q a m) : wp r Q := by rw [e]; exact (wp_ok _ _ _).mpr h
/-! ### statements -/
def seqR (r : R (Flow × Env)) (k : Env → Mem → R (Flow × Env)) : R (Flow × Env) := match r with
  | .ok (.nx, sd) m => k sd m
  | .ok (f, sd) m => .ok (f, sd) m
  | .ex c x m => .ex c x m
  | .no => .no
section
variable {k : Env → Mem → R (Flow × Env)} {sd : Env} {m : Mem}
@[simp] theorem seq_nx : seqR (.ok (.nx, sd) m) k = k sd m := nr rfl
@[simp] theorem seq_ret (d : D) : seqR (.ok (.ret d, sd) m) k = .ok (.ret d, sd) m := nr rfl
@[simp] theorem seq_brk : seqR (.ok (.brk, sd) m) k = .ok (.brk, sd) m := nr rfl
@[simp] theorem seq_cont : seqR (.ok (.cont, sd) m) k = .ok (.cont, sd) m := nr rfl
@[simp] theorem seq_ex (c : Str) (x : D) : seqR (.ex c x m) k = .ex c x m := nr rfl
@[simp] theorem seq_no : seqR .no k = .no := nr rfl
theorem seq_ite {p : Prop} [Decidable p] {a b : R (Flow × Env)} : seqR (if p then a else b) k = if p then seqR a k else seqR b k := by split <;> rfl
theorem wp_seq {r : R (Flow × Env)} {Q : Flow × Env → Mem → Prop} : wp (seqR r k) Q = wp r fun p m => match p.1 with
  | .nx => wp (k p.2 m) Q
  | f => Q (f, p.2) m := by
  cases r with
  | ok p m => obtain ⟨f, sd⟩ := p; cases f <;> simp
  | _ => simp
end
section
variable {F : Fns} {same : Nat} {sd : Env} {m : Mem}
@[simp] theorem xs_nil : evSs F same .nil sd m = .ok (.nx, sd) m := by simp only [evSs]
@[simp] theorem xs_cons (s : S) (r : Ss) : evSs F same (.cons s r) sd m = seqR (evS F same s sd m) (evSs F same r) := by
  simp only [evSs]
  cases evS F same s sd m with
  | ok p m => obtain ⟨f, sd⟩ := p; cases f <;> rfl
  | _ => rfl
@[simp] theorem x_skip : evS F same .skip sd m = .ok (.nx, sd) m := by simp only [evS]
@[simp] theorem x_doc : evS F same .doc sd m = .ok (.nx, sd) m := by simp only [evS]
@[simp] theorem x_ex (e : E) : evS F same (.ex e) sd m = (evE F same e sd m).bind fun _ m => .ok (.nx, sd) m := by simp only [evS]
@[simp] theorem x_set (i : Nat) (e : E) : evS F same (.set i e) sd m = (evE F same e sd m).bind fun x m => .ok (.nx, sd.set i (some x)) m := by simp only [evS]
@[simp] theorem x_setT (g : Tg) (e : E) : evS F same (.setT g e) sd m = (evE F same e sd m).bind fun x m => (opt (asg g x sd) m).bind fun sd' m => .ok (.nx, sd') m := by simp only [evS]
@[simp] theorem x_par (i j : Nat) (a b : E) : evS F same (.par i j a b) sd m = (evE F same a sd m).bind fun x m => (evE F same b sd m).bind fun y m => .ok (.nx, (sd.set i (some x)).set j (some y)) m := by simp only [evS]
@[simp] theorem x_setIx (a b e : E) : evS F same (.setIx a b e) sd m = (evE F same e sd m).bind fun x m => (evE F same a sd m).bind fun y m => (evE F same b sd m).bind fun z m => (setD y z x m).bind fun _ m => .ok (.nx, sd) m := by simp only [evS]
@[simp] theorem x_ifs (c : E) (a b : Ss) : evS F same (.ifs c a b) sd m = (evT F same c sd m).bind fun k m => if k = true then evSs F same a sd m else evSs F same b sd m := by simp only [evS]
@[simp] theorem x_ret (e : E) : evS F same (.ret e) sd m = (evE F same e sd m).bind fun x m => .ok (.ret x, sd) m := by simp only [evS]
@[simp] theorem x_retN : evS F same .retN sd m = .ok (.ret .none, sd) m := by simp only [evS]
@[simp] theorem x_brk : evS F same .brk sd m = .ok (.brk, sd) m := by simp only [evS]
@[simp] theorem x_cont : evS F same .cont sd m = .ok (.cont, sd) m := by simp only [evS]
@[simp] theorem x_rais (i : Nat) (c : Str) (e : E) : evS F same (.rais i c e) sd m = (evE F same e sd m).bind fun x m => .ex c x m := by simp only [evS]
theorem x_for (g : Tg) (it : It) (b : Ss) : evS F same (.for_ g it b) sd m = (evI F same it sd m).bind fun w m => forM w.stays (fun d sd m => (opt (asg g d sd) m).bind fun sd' m => evSs F same b sd' m) w.items sd m := by simp only [evS]
theorem x_whl (c : E) (b : Ss) : evS F same (.whl c b) sd m = whileM (evT F same c) (fun sd m => evSs F same b sd m) sd m := by simp only [evS]
/-! ### tests -/
@[simp] theorem t_nt (a : E) : evT F same (.nt a) sd m = (evT F same a sd m).bind fun c m => .ok (!c) m := by
  unfold evT
  simp only [evE, bind_assoc]
  rfl
@[simp] theorem t_cmp (o : Cop) (a b : E) : evT F same (.cmp o a b) sd m = (evE F same a sd m).bind fun x m => (evE F same b sd m).bind fun y m => cop o x y m := by
  unfold evT
  simp only [evE, bind_assoc]
  congr 1; funext x m; congr 1; funext y m
  cases cop o x y m <;> rfl
theorem truth_mem {d : D} {m m' : Mem} {k : Bool} (h : truth d m = .ok k m') : m' = m := by
  unfold truth truthR at h
  split at h <;> first | (cases h; rfl) | (cases h; done) | skip
  unfold guard at h
  split at h <;> cases h
  rfl
@[simp] theorem t_an (a b : E) : evT F same (.an a b) sd m = (evT F same a sd m).bind fun c m => if c = true then evT F same b sd m else .ok false m := by
  unfold evT
  simp only [evE, bind_assoc]
  congr 1; funext x m
  cases h : truth x m with
  | no => rfl
  | ex c d m' => rfl
  | ok c m' =>
    have e := truth_mem h
    subst e
    cases c with
    | true => rfl
    | false => show truth x m' = _; rw [h]; rfl
@[simp] theorem t_orr (a b : E) : evT F same (.orr a b) sd m = (evT F same a sd m).bind fun c m => if c = true then .ok true m else evT F same b sd m := by
  unfold evT
  simp only [evE, bind_assoc]
  congr 1; funext x m
  cases h : truth x m with
  | no => rfl
  | ex c d m' => rfl
  | ok c m' =>
    have e := truth_mem h
    subst e
    cases c with
    | false => rfl
    | true => show truth x m' = _; rw [h]; rfl
@[simp] theorem t_isi (i j : Nat) (a : E) (t : Ty) : evT F same (.isi i j a t) sd m = (evE F same a sd m).bind fun x m => isTy m t x := by
  unfold evT
  simp only [evE, bind_assoc]
  congr 1; funext x m
  cases isTy m t x <;> rfl
@[simp] theorem t_chain (o o' : Cop) (a b c : E) : evT F same (.chain o o' a b c) sd m = (evE F same a sd m).bind fun x m => (evE F same b sd m).bind fun y m => (cop o x y m).bind fun k m => if k = true then (evE F same c sd m).bind fun z m => cop o' y z m else .ok false m := by
  unfold evT
  simp only [evE, bind_assoc]
  congr 1; funext x m; congr 1; funext y m
  cases cop o x y m with
  | no => rfl
  | ex c d m' => rfl
  | ok k m' =>
    cases k with
    | false => rfl
    | true =>
      show ((evE F same c sd m').bind _).bind _ = (evE F same c sd m').bind _
      rw [bind_assoc]
      congr 1; funext z m2
      cases cop o' y z m2 <;> rfl
theorem t_val (e : E) : evT F same e sd m = (evE F same e sd m).bind fun x m => truth x m := nr rfl
@[simp] theorem t_v (i : Nat) : evT F same (.v i) sd m = (evE F same (.v i) sd m).bind fun x m => truth x m := nr rfl
@[simp] theorem t_call (i f : Nat) (es : Es) : evT F same (.call i f es) sd m = (evE F same (.call i f es) sd m).bind fun x m => truth x m := nr rfl
@[simp] theorem t_tells (i : Nat) (a b : E) : evT F same (.tells i a b) sd m = (evE F same (.tells i a b) sd m).bind fun x m => truth x m := nr rfl
@[simp] theorem t_refuses (i : Nat) (a b c : E) : evT F same (.refuses i a b c) sd m = (evE F same (.refuses i a b c) sd m).bind fun x m => truth x m := nr rfl
@[simp] theorem t_bi (i : Nat) (fz : Bool) (b : BI) (es : Es) : evT F same (.bi i fz b es) sd m = (evE F same (.bi i fz b es) sd m).bind fun x m => truth x m := nr rfl
@[simp] theorem t_ix (a b : E) : evT F same (.ix a b) sd m = (evE F same (.ix a b) sd m).bind fun x m => truth x m := nr rfl
@[simp] theorem t_bin (fz : Bool) (o : Bop) (a b : E) : evT F same (.bin fz o a b) sd m = (evE F same (.bin fz o a b) sd m).bind fun x m => truth x m := nr rfl
/-! ### expressions -/
@[simp] theorem e_c (k : K1) : evE F same (.c k) sd m = .ok k.d m := by simp only [evE]
@[simp] theorem e_g (i : Nat) (d : D) : evE F same (.g i d) sd m = .ok d m := by simp only [evE]
@[simp] theorem e_fn (i f : Nat) : evE F same (.fn i f) sd m = .ok (fnv f) m := by simp only [evE]
def getV (o : Option (Option D)) (m : Mem) : R D := match o with
  | some (some d) => .ok d m
  | _ => .no
@[simp] theorem getV_ok (d : D) : getV (some (some d)) m = .ok d m := nr rfl
@[simp] theorem e_v (i : Nat) : evE F same (.v i) sd m = getV sd[i]? m := by
  simp only [evE]
  rfl
@[simp] theorem e_tup (es : Es) : evE F same (.tup es) sd m = (evEs F same es sd m).bind fun ds m => guard (ds.length ≤ line) (.ok (.tuple ds) m) := by simp only [evE]
@[simp] theorem e_lst (fz : Bool) (es : Es) : evE F same (.lst fz es) sd m = (evEs F same es sd m).bind fun ds m => newL fz ds m := by simp only [evE]
@[simp] theorem e_bin (fz : Bool) (o : Bop) (a b : E) : evE F same (.bin fz o a b) sd m = (evE F same a sd m).bind fun x m => (evE F same b sd m).bind fun y m => bop fz o x y m := by simp only [evE]
def negR (x : D) (m : Mem) : R D := match x with
  | .int i => .ok (.int (-i)) m
  | _ => .no
@[simp] theorem negR_int (i : Int) : negR (.int i) m = .ok (.int (-i)) m := nr rfl
@[simp] theorem e_neg (a : E) : evE F same (.neg a) sd m = (evE F same a sd m).bind fun x m => negR x m := by
  simp only [evE]
  rfl
@[simp] theorem e_nt (a : E) : evE F same (.nt a) sd m = (evT F same a sd m).bind fun c m => .ok (.bool (!c)) m := by
  unfold evT
  simp only [evE, bind_assoc]
@[simp] theorem e_an (a b : E) : evE F same (.an a b) sd m = (evE F same a sd m).bind fun x m => (truth x m).bind fun c m => if c = true then evE F same b sd m else .ok x m := by simp only [evE]
@[simp] theorem e_orr (a b : E) : evE F same (.orr a b) sd m = (evE F same a sd m).bind fun x m => (truth x m).bind fun c m => if c = true then .ok x m else evE F same b sd m := by simp only [evE]
@[simp] theorem e_ite (c a b : E) : evE F same (.ite c a b) sd m = (evT F same c sd m).bind fun k m => if k = true then evE F same a sd m else evE F same b sd m := by
  unfold evT
  simp only [evE, bind_assoc]
@[simp] theorem e_cmp (o : Cop) (a b : E) : evE F same (.cmp o a b) sd m = (evE F same a sd m).bind fun x m => (evE F same b sd m).bind fun y m => (cop o x y m).bind fun c m => .ok (.bool c) m := by simp only [evE]
@[simp] theorem e_ix (a b : E) : evE F same (.ix a b) sd m = (evE F same a sd m).bind fun x m => (evE F same b sd m).bind fun y m => ixD x y m := by simp only [evE]
@[simp] theorem e_sl (fz : Bool) (a : E) (lo hi : Oe) : evE F same (.sl fz a lo hi) sd m = (evE F same a sd m).bind fun x m => (evO F same lo sd m).bind fun l m => (optI l m).bind fun l m => (evO F same hi sd m).bind fun h m => (optI h m).bind fun h m => slD fz x l h m := by simp only [evE]
@[simp] theorem e_call (i f : Nat) (es : Es) : evE F same (.call i f es) sd m = (evEs F same es sd m).bind fun ds m => F f ds m := by simp only [evE]
@[simp] theorem e_bi (i : Nat) (fz : Bool) (b : BI) (es : Es) : evE F same (.bi i fz b es) sd m = (evEs F same es sd m).bind fun ds m => biD fz b ds m := by simp only [evE]
@[simp] theorem e_me (fz : Bool) (b : ME) (a : E) (es : Es) : evE F same (.me fz b a es) sd m = (evE F same a sd m).bind fun x m => guard (meTy b (rd m x) = true) ((evEs F same es sd m).bind fun ds m => meD fz b x ds m) := by simp only [evE]
@[simp] theorem e_isi (i j : Nat) (a : E) (t : Ty) : evE F same (.isi i j a t) sd m = (evE F same a sd m).bind fun x m => (isTy m t x).bind fun c m => .ok (.bool c) m := by simp only [evE]
@[simp] theorem e_heard (i : Nat) (a : E) : evE F same (.heard i a) sd m = said (evE F same a sd m) := by simp only [evE]
@[simp] theorem e_tells (i : Nat) (a b : E) : evE F same (.tells i a b) sd m = (evE F same b sd m).bind fun y m => (said (evE F same a sd m)).bind fun x m => F same [x, .tuple [.str "told", y]] m := by simp only [evE]
@[simp] theorem e_refuses (i : Nat) (a b c : E) : evE F same (.refuses i a b c) sd m = (evE F same b sd m).bind fun y m => (evE F same c sd m).bind fun z m => (said (evE F same a sd m)).bind fun x m => F same [x, .tuple [y, z]] m := by simp only [evE]
@[simp] theorem es_nil : evEs F same .nil sd m = .ok [] m := by simp only [evEs]
@[simp] theorem es_cons (e : E) (es : Es) : evEs F same (.cons e es) sd m = (evE F same e sd m).bind fun x m => (evEs F same es sd m).bind fun xs m => .ok (x :: xs) m := by simp only [evEs]
@[simp] theorem o_none : evO F same .none sd m = .ok none m := by simp only [evO]
@[simp] theorem o_some (e : E) : evO F same (.some e) sd m = (evE F same e sd m).bind fun x m => .ok (some x) m := by simp only [evO]
theorem i_e (a : E) : evI F same (.e a) sd m = (evE F same a sd m).bind fun x m => walkOf x m := by simp only [evI]
theorem i_range (i : Nat) (es : Es) : evI F same (.range i es) sd m = (evEs F same es sd m).bind fun ds m => rangeOf ds m := by simp only [evI]
theorem i_enum (i : Nat) (a : E) : evI F same (.enum i a) sd m = (evE F same a sd m).bind fun x m => (walkLT x m).bind fun w m => .ok ⟨enumD 0 w.items, w.cell⟩ m := by simp only [evI]
end
section
variable {m : Mem}
@[simp] theorem said_ok (d : D) : said (.ok d m) = .ok (.tuple [.str "told", d]) m := nr rfl
@[simp] theorem said_ex (c : Str) (x : D) : said (.ex c x m) = .ok (.tuple [.str c, x]) m := nr rfl
@[simp] theorem optI_none : optI none m = .ok none m := nr rfl
@[simp] theorem optI_int (i : Int) : optI (some (.int i)) m = .ok (some i) m := nr rfl
/-! ### reading -/
theorem rd_cell {j : Nat} {xs : List D} (h : m[j]? = some (.lst xs)) : rd m (loc j) = .list xs := by
  unfold rd
  simp [h]
/-! ### truth -/
@[simp] theorem tr_none : truth .none m = .ok false m := nr rfl
@[simp] theorem tr_bool (b : Bool) : truth (.bool b) m = .ok b m := nr rfl
@[simp] theorem tr_int (i : Int) : truth (.int i) m = .ok (i != 0) m := nr rfl
@[simp] theorem tr_tuple (xs : List D) : truth (.tuple xs) m = .ok (!xs.isEmpty) m := nr rfl
@[simp] theorem tr_list (xs : List D) : truth (.list xs) m = .ok (!xs.isEmpty) m := nr rfl
/-! ### kinds -/
section
variable (t : Ty)
def kOf : Ty → D → Bool
  | .int, .int _ => true
  | .int, .bool _ => true
  | .bool, .bool _ => true
  | .str, .str _ => true
  | .tuple, .tuple _ => true
  | .list, .list _ => true
  | _, _ => false
@[simp] theorem ty_none : isTy m t .none = .ok false m := by cases t <;> rfl
@[simp] theorem ty_bool (b : Bool) : isTy m t (.bool b) = .ok (kOf t (.bool b)) m := by cases t <;> rfl
@[simp] theorem ty_int (b : Int) : isTy m t (.int b) = .ok (kOf t (.int b)) m := by cases t <;> rfl
@[simp] theorem ty_st (b : Str) : isTy m t (.str b) = .ok (kOf t (.str b)) m := by cases t <;> rfl
@[simp] theorem ty_tuple (b : List D) : isTy m t (.tuple b) = .ok (kOf t (.tuple b)) m := by cases t <;> rfl
@[simp] theorem ty_li (b : List D) : isTy m t (.list b) = .ok (kOf t (.list b)) m := by cases t <;> rfl
end
/-! ### comparisons -/
@[simp] theorem sh_none : sh .none = true := by decide
@[simp] theorem sh_bool (b : Bool) : sh (.bool b) = true := by cases b <;> decide
@[simp] theorem sh_int (b : Int) : sh (.int b) = true := nr rfl
@[simp] theorem sh_str (x : Str) : sh (.str x) = PyData.strOk x := by
  show (PyData.strOk x && decide (0 ≤ 64)) = _
  simp
theorem cop_eq (a b : D) : cop .eq a b m = guard (sh (rd m a) = true ∧ sh (rd m b) = true) (.ok (PyData.eqv (rd m a) (rd m b)) m) := nr rfl
theorem cop_ne (a b : D) : cop .ne a b m = guard (sh (rd m a) = true ∧ sh (rd m b) = true) (.ok (!PyData.eqv (rd m a) (rd m b)) m) := nr rfl
@[simp] theorem eqv_int (a b : Int) : PyData.eqv (.int a) (.int b) = decide (a = b) := by rw [PyData.eqv]; rfl
@[simp] theorem eqv_str (a b : Str) : PyData.eqv (.str a) (.str b) = decide (a = b) := by rw [PyData.eqv]; rfl
@[simp] theorem c_eq_int (a b : Int) : cop .eq (.int a) (.int b) m = .ok (decide (a = b)) m := by rw [cop_eq]; simp
@[simp] theorem c_ne_int (a b : Int) : cop .ne (.int a) (.int b) m = .ok (!decide (a = b)) m := by rw [cop_ne]; simp
theorem ord_int (a b : Int) : ordOk (.int a) (.int b) = true := by
  unfold ordOk
  simp [PySem.W.alike]
@[simp] theorem c_lt_int (a b : Int) : cop .lt (.int a) (.int b) m = .ok (decide (a < b)) m := by
  show guard (ordOk (.int a) (.int b) = true) (.ok (PySem.W.dataLt (.int a) (.int b)) m) = _
  rw [guard_pos _ (ord_int a b), PySem.W.dataLt_int]
@[simp] theorem c_gt_int (a b : Int) : cop .gt (.int a) (.int b) m = .ok (decide (b < a)) m := by
  show guard (ordOk (.int a) (.int b) = true) (.ok (PySem.W.dataLt (.int b) (.int a)) m) = _
  rw [guard_pos _ (ord_int a b), PySem.W.dataLt_int]
@[simp] theorem c_le_int (a b : Int) : cop .le (.int a) (.int b) m = .ok (decide (a ≤ b)) m := by
  show guard (ordOk (.int a) (.int b) = true) (.ok (!PySem.W.dataLt (.int b) (.int a)) m) = _
  rw [guard_pos _ (ord_int a b), PySem.W.dataLt_int]
  congr 1
  by_cases h : a ≤ b
  · rw [decide_eq_true h, decide_eq_false (by omega)]; rfl
  · rw [decide_eq_false h, decide_eq_true (by omega)]; rfl
@[simp] theorem c_ge_int (a b : Int) : cop .ge (.int a) (.int b) m = .ok (decide (b ≤ a)) m := by
  show guard (ordOk (.int a) (.int b) = true) (.ok (!PySem.W.dataLt (.int a) (.int b)) m) = _
  rw [guard_pos _ (ord_int a b), PySem.W.dataLt_int]
  congr 1
  by_cases h : b ≤ a
  · rw [decide_eq_true h, decide_eq_false (by omega)]; rfl
  · rw [decide_eq_false h, decide_eq_true (by omega)]; rfl
@[simp] theorem c_is_none (a : D) : cop .is a .none m = .ok (match rd m a with | .none => true | _ => false) m := nr rfl
@[simp] theorem c_isnot_none (a : D) : cop .isnot a .none m = .ok (!(match rd m a with | .none => true | _ => false)) m := nr rfl
@[simp] theorem c_is_bool (a : D) (c : Bool) : cop .is a (.bool c) m = .ok (match rd m a with | .bool d => c == d | _ => false) m := nr rfl
theorem c_eq_str {a b : Str} (ha : PyData.strOk a = true) (hb : PyData.strOk b = true) : cop .eq (.str a) (.str b) m = .ok (decide (a = b)) m := by rw [cop_eq]; simp [ha, hb]
theorem c_ne_str {a b : Str} (ha : PyData.strOk a = true) (hb : PyData.strOk b = true) : cop .ne (.str a) (.str b) m = .ok (!decide (a = b)) m := by rw [cop_ne]; simp [ha, hb]
theorem c_in_str (a b : Str) : cop .isin (.str a) (.str b) m = .ok (strIn a b) m := nr rfl
theorem c_notin_str (a b : Str) : cop .notin (.str a) (.str b) m = .ok (!strIn a b) m := nr rfl
theorem c_in_list {a : D} {ds : List D} (ha : sh (rd m a) = true) (hb : sh (.list ds) = true) : cop .isin a (.list ds) m = .ok (ds.any fun z => PyData.eqv z (rd m a)) m := by
  show guard _ _ = _
  exact guard_pos _ ⟨ha, hb⟩
theorem c_in_tuple {a : D} {ds : List D} (ha : sh (rd m a) = true) (hb : sh (.tuple ds) = true) : cop .isin a (.tuple ds) m = .ok (ds.any fun z => PyData.eqv z (rd m a)) m := by
  show guard _ _ = _
  exact guard_pos _ ⟨ha, hb⟩
/-! ### operators -/
variable {fz : Bool}
@[simp] theorem b_add (i j : Int) : bop fz .add (.int i) (.int j) m = .ok (.int (i + j)) m := nr rfl
@[simp] theorem b_sub (i j : Int) : bop fz .sub (.int i) (.int j) m = .ok (.int (i - j)) m := nr rfl
theorem b_mul {i j : Int} (h : L2.CMul i j) : bop fz .mul (.int i) (.int j) m = .ok (.int (i * j)) m := guard_pos _ h
theorem b_fdiv {i j : Int} (h : L2.CDiv i j) : bop fz .fdiv (.int i) (.int j) m = .ok (.int (i / j)) m := guard_pos _ h
theorem b_mod {i j : Int} (h : 0 < j) : bop fz .mod (.int i) (.int j) m = .ok (.int (i % j)) m := guard_pos _ h
theorem b_pow {i j : Int} (h : L2.CPow i j) : bop fz .pow (.int i) (.int j) m = .ok (.int (i ^ j.toNat)) m := guard_pos _ h
theorem b_cat {x y : Str} (h : x.length + y.length ≤ line) : bop fz .add (.str x) (.str y) m = .ok (.str (x ++ y)) m := guard_pos _ h
theorem b_catT {x y : List D} (h : x.length + y.length ≤ line) : bop fz .add (.tuple x) (.tuple y) m = .ok (.tuple (x ++ y)) m := guard_pos _ h
theorem b_catL {x y : List D} (h : x.length + y.length ≤ line) : bop true .add (.list x) (.list y) m = .ok (.list (x ++ y)) m := by
  show guard _ (newL true (x ++ y) m) = _
  rw [guard_pos _ h]
  exact guard_pos _ (by rw [List.length_append]; exact h)
theorem b_repT {x : List D} {k : Int} (h : x ≠ [] ∧ 2 ≤ k ∧ k ≤ 1000 ∧ x.length ≤ 1000) : bop fz .mul (.tuple x) (.int k) m = .ok (.tuple (List.replicate k.toNat x).flatten) m := guard_pos _ h
theorem b_repS {x : Str} {k : Int} (h : 0 ≤ k ∧ k < 2 ^ 31 ∧ x.length * k.toNat ≤ line) : bop fz .mul (.str x) (.int k) m = .ok (.str (Txt.mul x k)) m := guard_pos _ h
/-! ### items -/
@[simp] theorem ix_tuple (xs : List D) (i : Int) : ixD (.tuple xs) (.int i) m = opt (atI xs i) m := nr rfl
@[simp] theorem ix_list (xs : List D) (i : Int) : ixD (.list xs) (.int i) m = opt (atI xs i) m := nr rfl
theorem ix_cell {j : Nat} {xs : List D} (h : m[j]? = some (.lst xs)) (i : Int) : ixD (loc j) (.int i) m = opt (atI xs i) m := by
  unfold ixD
  rw [rd_cell h]
  rfl
theorem atI_nat {α : Type} {xs : List α} {i : Nat} : atI xs (i : Int) = xs[i]? := by
  unfold atI L2.atI L2.ixN
  rw [if_pos (by omega)]
  by_cases h : i < xs.length
  · rw [if_pos (by omega)]
    simp
  · rw [if_neg (by omega)]
    simp
    omega
@[simp] theorem atI_0 {α : Type} (x : α) (xs : List α) : atI (x :: xs) 0 = some x := by
  have := atI_nat (xs := x :: xs) (i := 0)
  simpa using this
@[simp] theorem atI_1 {α : Type} (x y : α) (xs : List α) : atI (x :: y :: xs) 1 = some y := by
  have := atI_nat (xs := x :: y :: xs) (i := 1)
  simpa using this
@[simp] theorem atI_2 {α : Type} (x y z : α) (xs : List α) : atI (x :: y :: z :: xs) 2 = some z := by
  have := atI_nat (xs := x :: y :: z :: xs) (i := 2)
  simpa using this
theorem atI_of {α : Type} {xs : List α} {i : Int} (h0 : 0 ≤ i) (h1 : i < xs.length) : ∃ x, atI xs i = some x ∧ x ∈ xs := by
  obtain ⟨k, rfl⟩ := Int.eq_ofNat_of_zero_le h0
  rw [atI_nat]
  have hk : k < xs.length := by omega
  exact ⟨xs[k], List.getElem?_eq_getElem hk, List.getElem_mem hk⟩
/-! ### built-ins -/
@[simp] theorem bi_int (i : Int) : biD fz .int [.int i] m = .ok (.int i) m := nr rfl
@[simp] theorem bi_bool (b : Bool) : biD fz .int [.bool b] m = .ok (.int (if b then 1 else 0)) m := nr rfl
@[simp] theorem bi_lenL (xs : List D) : biD fz .len [.list xs] m = .ok (.int xs.length) m := nr rfl
@[simp] theorem bi_lenT (xs : List D) : biD fz .len [.tuple xs] m = .ok (.int xs.length) m := nr rfl
theorem bi_lenS {x : Str} (h : x.length ≤ line) : biD fz .len [.str x] m = .ok (.int x.length) m := guard_pos _ h
theorem bi_lenC {j : Nat} {xs : List D} (h : m[j]? = some (.lst xs)) : biD fz .len [loc j] m = .ok (.int xs.length) m := by
  show biR fz .len [rd m (loc j)] m = _
  rw [rd_cell h]
  rfl
@[simp] theorem bi_tupleL (xs : List D) : biD fz .tuple [.list xs] m = .ok (.tuple xs) m := nr rfl
theorem bi_tupleC {j : Nat} {xs : List D} (h : m[j]? = some (.lst xs)) : biD fz .tuple [loc j] m = .ok (.tuple xs) m := by
  show biR fz .tuple [rd m (loc j)] m = _
  rw [rd_cell h]
  rfl
theorem bi_listT {xs : List D} (h : xs.length ≤ line) : biD true .list [.tuple xs] m = .ok (.list xs) m := guard_pos _ h
@[simp] theorem bi_max (i j : Int) : biD fz .max [.int i, .int j] m = .ok (.int (if j > i then j else i)) m := nr rfl
theorem bi_all (bs : List Bool) : biD fz .all [.list (bs.map .bool)] m = .ok (.bool (bs.all id)) m := by
  show opt ((boolsOf (bs.map .bool)).map _) m = _
  rw [boolsOf_map]
  rfl
/-! ### slices, lists -/
theorem sl_tuple (xs : List D) (lo hi : Option Int) : slD fz (.tuple xs) lo hi m = .ok (.tuple (cut xs lo hi)) m := nr rfl
theorem cut_len {α : Type} (xs : List α) (lo hi : Option Int) : (cut xs lo hi).length ≤ xs.length := by
  unfold cut
  rw [List.length_take, List.length_drop]
  omega
theorem sl_list {xs : List D} (h : xs.length ≤ line) (lo hi : Option Int) : slD true (.list xs) lo hi m = .ok (.list (cut xs lo hi)) m := guard_pos _ (Nat.le_trans (cut_len _ _ _) h)
theorem sl_str {x : Str} (h : x.length ≤ line) (lo hi : Option Int) : slD fz (.str x) lo hi m = .ok (.str (L2.cutS x lo hi)) m := guard_pos _ h
theorem newL_true {xs : List D} (h : xs.length ≤ line) : newL true xs m = .ok (.list xs) m := guard_pos _ h
theorem newL_false {xs : List D} (h : xs.length ≤ line) : newL false xs m = .ok (loc m.length) (m ++ [.lst xs]) := guard_pos _ h
theorem set_cell {j : Nat} {xs : List D} (h : m[j]? = some (.lst xs)) {i : Nat} (hi : i < xs.length) (d : D) : setD (loc j) (.int i) d m = .ok () (m.set j (.lst (xs.set i d))) := by
  unfold setD
  simp only [locOf_loc, h]
  have : ixN xs.length (i : Int) = some i := by
    unfold ixN L2.ixN
    rw [if_pos (by omega), if_pos (by omega)]
    simp
  rw [this]
theorem set_cell0 {j : Nat} {x : D} {xs : List D} (h : m[j]? = some (.lst (x :: xs))) (d : D) : setD (loc j) (.int 0) d m = .ok () (m.set j (.lst (d :: xs))) := set_cell (i := 0) h (by simp) d
theorem set_cell1 {j : Nat} {x y : D} {xs : List D} (h : m[j]? = some (.lst (x :: y :: xs))) (d : D) : setD (loc j) (.int 1) d m = .ok () (m.set j (.lst (x :: d :: xs))) := set_cell (i := 1) h (by simp) d
theorem cell_set {j : Nat} {o : O} (h : j < m.length) : (m.set j o)[j]? = some o := by simp [h]
theorem app_cell {j : Nat} {xs : List D} (h : m[j]? = some (.lst xs)) (hl : xs.length < line) (d : D) : meD fz .append (loc j) [d] m = .ok .none (m.set j (.lst (xs ++ [d]))) := by
  unfold meD cellOf meW
  simp only [meWr, locOf_loc, h, if_true, List.map_cons, List.map_nil, if_pos hl]
end
/-! ### plain data: no cells within -/
mutual
theorem rd_nl {m : Mem} : ∀ {d : D}, nl d = true → rd m d = d
  | .none, _ => rfl
  | .bool _, _ => rfl
  | .int _, _ => rfl
  | .str _, _ => rfl
  | .list _, _ => rfl
  | .tuple _, _ => rfl
  | .dict _, h => by simp [nl] at h
end
@[simp] theorem nl_none : nl .none = true := by simp [nl]
@[simp] theorem nl_bool (b : Bool) : nl (.bool b) = true := by simp [nl]
@[simp] theorem nl_int (b : Int) : nl (.int b) = true := by simp [nl]
@[simp] theorem nl_str (b : Str) : nl (.str b) = true := by simp [nl]
@[simp] theorem nl_list (b : List D) : nl (.list b) = nlAll b := by simp [nl]
@[simp] theorem nl_tuple (b : List D) : nl (.tuple b) = nlAll b := by simp [nl]
@[simp] theorem nlAll_nil : nlAll [] = true := by simp [nlAll]
@[simp] theorem nlAll_cons (d : D) (ds : List D) : nlAll (d :: ds) = (nl d && nlAll ds) := by simp [nlAll]
theorem nlAll_iff {ds : List D} : nlAll ds = true ↔ ∀ d ∈ ds, nl d = true := by
  induction ds with
  | nil => simp
  | cons d ds ih => simp [ih]
@[simp] theorem nlAll_strs (xs : List Str) : nlAll (xs.map .str) = true := by
  rw [nlAll_iff]
  intro d hd
  obtain ⟨x, _, rfl⟩ := List.mem_map.mp hd
  simp
end SS
end PT_PL0
section PT_PL1
set_option Elab.async false
set_option linter.all false
set_option maxRecDepth 100000
set_option maxHeartbeats 2000000
/-! Plain laws: calls, loops, comprehensions. -/
namespace SS
open PySem
/-! ### the ends of a suite: also exceptions -/
@[irreducible] def wpx {α : Type} (r : R α) (Q : α → Mem → Prop) (X : Str → D → Mem → Prop) : Prop := match r with
  | .ok a m => Q a m
  | .ex c x m => X c x m
  | .no => False
section
variable {α β : Type} {Q : α → Mem → Prop} {X : Str → D → Mem → Prop}
@[simp] theorem wpx_ok (a : α) (m : Mem) : wpx (.ok a m) Q X = Q a m := by unfold wpx; rfl
@[simp] theorem wpx_ex (c : Str) (x : D) (m : Mem) : wpx (.ex c x m : R α) Q X = X c x m := by unfold wpx; rfl
@[simp] theorem wpx_no : wpx (.no : R α) Q X = False := by unfold wpx; rfl
theorem wpx_bind {r : R β} {f : β → Mem → R α} : wpx (r.bind f) Q X = wpx r (fun a m => wpx (f a m) Q X) X := by cases r <;> simp
theorem wpx_mono {r : R α} {Q' : α → Mem → Prop} {X' : Str → D → Mem → Prop} (h : wpx r Q X) (k : ∀ a m, Q a m → Q' a m) (k' : ∀ c x m, X c x m → X' c x m) : wpx r Q' X' := by
  cases r with
  | ok a m => exact (wpx_ok _ _).mpr (k a m ((wpx_ok _ _).mp h))
  | ex c x m => exact (wpx_ex _ _ _).mpr (k' c x m ((wpx_ex _ _ _).mp h))
  | no => exact (wpx_no.mp h).elim
theorem wpx_seq {k : Env → Mem → R (Flow × Env)} {r : R (Flow × Env)} {Q : Flow × Env → Mem → Prop} : wpx (seqR r k) Q X = wpx r (fun p m => match p.1 with
  | .nx => wpx (k p.2 m) Q X
  | f => Q (f, p.2) m) X := by
  cases r with
  | ok p m => obtain ⟨f, sd⟩ := p; cases f <;> simp
  | _ => simp
theorem wp_wpx {r : R α} : wp r Q = wpx r Q fun _ _ _ => False := by cases r <;> simp
end
/-! ### calls -/
theorem trim_same {m : Mem} {d : D} (hd : nl d = true) : trim m.length (.ok d m) = .ok d m := by
  unfold trim
  simp only [List.take_length, hd, if_true]
  split <;> rfl
theorem trim_nl {m m' : Mem} {d : D} (hd : nl d = true) (hg : (m'.take m.length).all nlO = true) (hl : m.length ≤ m'.length) : trim m.length (.ok d m') = .ok d (m'.take m.length) := by
  unfold trim
  simp only [hg, hd, if_true, Bool.true_and, decide_eq_true hl]
theorem trim_ex {m m' : Mem} {c : Str} {x : D} (hd : nl x = true) (hg : (m'.take m.length).all nlO = true) (hl : m.length ≤ m'.length) : trim m.length (.ex c x m') = .ex c x (m'.take m.length) := by
  unfold trim
  simp only [hg, hd, if_true, Bool.true_and, Bool.and_true, decide_eq_true hl]
section
variable {tab : Nat → Option Fn} {same n f : Nat} {g : Fn} {ds : List D} {m : Mem}
theorem call_eq (ht : tab f = some g) (hl : ds.length = g.np) : fnsN tab same (n + 1) f ds m = trim m.length ((evSs (fnsN tab same n) same g.body (ds.map some ++ List.replicate (g.nn - g.np) none) m).bind fun p m => (match p.1 with
  | .ret d => .ok d m
  | .nx => .ok .none m
  | _ => .no)) := by
  show (match tab f with
    | some g => runF (fnsN tab same n) same g ds m
    | none => .no) = _
  rw [ht]
  show runF _ _ _ _ _ = _
  unfold runF
  rw [if_pos hl]
  all_goals rfl
/-- a def without new cells, by an equation -/
theorem call_ret (ht : tab f = some g) (hl : ds.length = g.np) {d : D} {sd : Env} (h : evSs (fnsN tab same n) same g.body (ds.map some ++ List.replicate (g.nn - g.np) none) m = .ok (.ret d, sd) m) (hd : nl d = true) : fnsN tab same (n + 1) f ds m = .ok d m := by
  rw [call_eq ht hl, h]
  exact trim_same hd
theorem call_val (ht : tab f = some g) (hl : ds.length = g.np) {d : D} (h : wp (evSs (fnsN tab same n) same g.body (ds.map some ++ List.replicate (g.nn - g.np) none) m) fun p m' => p.1 = .ret d ∧ m' = m) (hd : nl d = true) : fnsN tab same (n + 1) f ds m = .ok d m := by
  obtain ⟨⟨fl, sd⟩, m', e, h1, h2⟩ := wp_ex' h
  have h1 : fl = .ret d := h1
  subst h1 h2
  exact call_ret ht hl e hd
/-- what a def leaves: d answered, behind it the memory m' of what stood there ahead -/
def Left (m : Mem) (Q : D → Mem → Prop) (p : Flow × Env) (m' : Mem) : Prop := ∃ d, (p.1 = .ret d ∨ p.1 = .nx ∧ d = .none) ∧ nl d = true ∧ m.length ≤ m'.length ∧ (m'.take m.length).all nlO = true ∧ Q d (m'.take m.length)
theorem call_wp (ht : tab f = some g) (hl : ds.length = g.np) {Q : D → Mem → Prop} (h : wp (evSs (fnsN tab same n) same g.body (ds.map some ++ List.replicate (g.nn - g.np) none) m) (Left m Q)) : wp (fnsN tab same (n + 1) f ds m) Q := by
  rw [call_eq ht hl]
  cases e : evSs (fnsN tab same n) same g.body (ds.map some ++ List.replicate (g.nn - g.np) none) m with
  | no => rw [e] at h; simp at h
  | ex c x m' => rw [e] at h; simp at h
  | ok p m' =>
    rw [e, wp_ok] at h
    obtain ⟨d, hp, h1, h2, h3, h4⟩ := h
    obtain ⟨fl, sd⟩ := p
    rcases hp with hp | ⟨hp, rfl⟩
    · have hp : fl = .ret d := hp
      subst hp
      show wp (trim m.length (.ok d m')) Q
      rw [trim_nl h1 h3 h2, wp_ok]
      exact h4
    · have hp : fl = .nx := hp
      subst hp
      show wp (trim m.length (.ok .none m')) Q
      rw [trim_nl h1 h3 h2, wp_ok]
      exact h4
theorem call_wpx (ht : tab f = some g) (hl : ds.length = g.np) {Q : D → Mem → Prop} {X : Str → D → Mem → Prop} (h : wpx (evSs (fnsN tab same n) same g.body (ds.map some ++ List.replicate (g.nn - g.np) none) m) (Left m Q) fun c x m' => nl x = true ∧ m.length ≤ m'.length ∧ (m'.take m.length).all nlO = true ∧ X c x (m'.take m.length)) : wpx (fnsN tab same (n + 1) f ds m) Q X := by
  rw [call_eq ht hl]
  cases e : evSs (fnsN tab same n) same g.body (ds.map some ++ List.replicate (g.nn - g.np) none) m with
  | no => rw [e] at h; simp at h
  | ex c x m' =>
    rw [e, wpx_ex] at h
    obtain ⟨h1, h2, h3, h4⟩ := h
    show wpx (trim m.length (.ex c x m')) Q X
    rw [trim_ex h1 h3 h2, wpx_ex]
    exact h4
  | ok p m' =>
    rw [e, wpx_ok] at h
    obtain ⟨d, hp, h1, h2, h3, h4⟩ := h
    obtain ⟨fl, sd⟩ := p
    rcases hp with hp | ⟨hp, rfl⟩
    · have hp : fl = .ret d := hp
      subst hp
      show wpx (trim m.length (.ok d m')) Q X
      rw [trim_nl h1 h3 h2, wpx_ok]
      exact h4
    · have hp : fl = .nx := hp
      subst hp
      show wpx (trim m.length (.ok .none m')) Q X
      rw [trim_nl h1 h3 h2, wpx_ok]
      exact h4
end
/-! ### loops -/
theorem for_wpx {st : Mem → Prop} {body : D → Env → Mem → R (Flow × Env)} {X : Str → D → Mem → Prop} (I : Nat → Env → Mem → Prop) (B : Env → Mem → Prop) (Rt : D → Env → Mem → Prop) :
    ∀ (ds : List D) (i : Nat) (sd : Env) (m : Mem), I i sd m → (∀ i sd m, I i sd m → st m) →
      (∀ (k : Nat) (d : D) (sd : Env) (m : Mem), ds[k]? = some d → I (i + k) sd m → wpx (body d sd m) (fun p m' => match p.1 with
        | .nx => I (i + k + 1) p.2 m'
        | .cont => I (i + k + 1) p.2 m'
        | .brk => B p.2 m'
        | .ret v => Rt v p.2 m') X) →
      wpx (forM st body ds sd m) (fun p m' => match p.1 with
        | .nx => I (i + ds.length) p.2 m' ∨ B p.2 m'
        | .ret v => Rt v p.2 m'
        | _ => False) X
  | [], i, sd, m, h, hst, step => by
    simp only [forM, if_pos (hst _ _ _ h), wpx_ok]
    exact .inl h
  | d :: ds, i, sd, m, h, hst, step => by
    simp only [forM, if_pos (hst _ _ _ h)]
    have s := step 0 d sd m rfl h
    rw [wpx_bind]
    refine wpx_mono s (fun p m' hp => ?_) fun _ _ _ h => h
    obtain ⟨fl, sd'⟩ := p
    have rest : ∀ sd' m', I (i + 1) sd' m' → wpx (forM st body ds sd' m') (fun p m' => match p.1 with
        | .nx => I (i + (d :: ds).length) p.2 m' ∨ B p.2 m'
        | .ret v => Rt v p.2 m'
        | _ => False) X := fun sd' m' h' => by
      have q := for_wpx I B Rt ds (i + 1) sd' m' h' hst fun k d' sd2 m2 hk hi => by
        have := step (k + 1) d' sd2 m2 (by simpa using hk) (by rw [show i + (k + 1) = i + 1 + k by omega]; exact hi)
        rw [show i + (k + 1) = i + 1 + k by omega] at this
        exact this
      rw [show i + 1 + ds.length = i + (d :: ds).length by simp; omega] at q
      exact q
    cases fl with
    | nx => exact rest _ _ hp
    | cont => exact rest _ _ hp
    | brk => exact (wpx_ok _ _).mpr (.inr hp)
    | ret v => exact (wpx_ok _ _).mpr hp
/-- a loop whose turns all go on, or that is left by return -/
theorem for_wp {st : Mem → Prop} {body : D → Env → Mem → R (Flow × Env)} (I : Nat → Env → Mem → Prop) (Rt : D → Mem → Prop) {ds : List D} {sd : Env} {m : Mem} (h : I 0 sd m) (hst : ∀ i sd m, I i sd m → st m)
    (step : ∀ (k : Nat) (d : D) (sd : Env) (m : Mem), ds[k]? = some d → I k sd m → wp (body d sd m) fun p m' => match p.1 with
      | .nx => I (k + 1) p.2 m'
      | .cont => I (k + 1) p.2 m'
      | .brk => False
      | .ret v => Rt v m') : wp (forM st body ds sd m) fun p m' => match p.1 with
        | .nx => I ds.length p.2 m'
        | .ret v => Rt v m'
        | _ => False := by
  rw [wp_wpx]
  refine wpx_mono (for_wpx I (fun _ _ => False) (fun v _ m => Rt v m) ds 0 sd m h hst fun k d sd m hk hi => ?_) (fun p m' hp => ?_) fun _ _ _ z => z
  · rw [Nat.zero_add] at hi ⊢
    have := step k d sd m hk hi
    rw [wp_wpx] at this
    exact this
  · obtain ⟨fl, sd'⟩ := p
    cases fl with
    | nx =>
      rw [Nat.zero_add] at hp
      exact hp.elim id False.elim
    | _ => exact hp
/-! ### comprehensions -/
noncomputable def evC (F : Fns) (same : Nat) (elt : E) (g : Tg) (ifs : Oe) (own : List Nat) (sd : Env) : D → Mem → R (Option D) := fun d m => (opt (asg g d (wipeE sd own)) m).bind fun sd' m => ((evO F same ifs sd' m).bind ifT).bind fun c m => if c = true then (evE F same elt sd' m).bind fun x m => .ok (some x) m else .ok none m
theorem e_comp {F : Fns} {same : Nat} {sd : Env} {m : Mem} {fz : Bool} {elt : E} {g : Tg} {it : It} {ifs : Oe} {own : List Nat} : evE F same (.comp fz elt g it ifs own) sd m = (evI F same it sd m).bind fun w m => (compM w.stays (evC F same elt g ifs own sd) w.items m).bind fun ds m => newL fz ds m := by
  simp only [evE]
  rfl
@[simp] theorem if_none {m : Mem} : ifT none m = .ok true m := nr rfl
@[simp] theorem if_some {d : D} {m : Mem} : ifT (some d) m = truth d m := nr rfl
/-- each item is mapped, some are left out; nothing is written -/
theorem comp_pure {α : Type} {st : Mem → Prop} {f : D → Mem → R (Option α)} {m : Mem} (hst : st m) (o : D → Option α) : ∀ {ds : List D}, (∀ d ∈ ds, f d m = .ok (o d) m) → compM st f ds m = .ok (ds.filterMap o) m
  | [], _ => by simp only [compM, if_pos hst, List.filterMap_nil]
  | d :: ds, h => by
    simp only [compM, if_pos hst]
    rw [h d List.mem_cons_self]
    simp only [noX_ok, bind_ok]
    rw [comp_pure hst o fun e he => h e (List.mem_cons_of_mem _ he)]
    simp only [bind_ok, List.filterMap_cons]
    cases o d <;> rfl
/-- each item gives one of some kind; an invariant of the memory -/
theorem comp_wp {st : Mem → Prop} {f : D → Mem → R (Option D)} (I : Mem → Prop) (P : D → Prop) (hst : ∀ m, I m → st m) : ∀ {ds : List D} {m : Mem}, I m → (∀ d ∈ ds, ∀ m, I m → wp (f d m) fun o m' => (∃ x, o = some x ∧ P x) ∧ I m') → wp (compM st f ds m) fun xs m' => xs.length = ds.length ∧ (∀ x ∈ xs, P x) ∧ I m'
  | [], m, h, _ => by
    simp only [compM, if_pos (hst m h), wp_ok]
    simp [h]
  | d :: ds, m, h, step => by
    simp only [compM, if_pos (hst m h)]
    have s := step d List.mem_cons_self m h
    cases e : f d m with
    | no => rw [e] at s; simp at s
    | ex c x m' => rw [e] at s; simp at s
    | ok o m' =>
      rw [e, wp_ok] at s
      obtain ⟨⟨x, rfl, hx⟩, hi⟩ := s
      simp only [noX_ok, bind_ok]
      rw [wp_bind]
      refine wp_mono (comp_wp I P hst hi fun e he => step e (List.mem_cons_of_mem _ he)) fun xs m2 ⟨a1, a2, a3⟩ => ?_
      rw [wp_ok]
      exact ⟨by simp [a1], fun y hy => (List.mem_cons.mp hy).elim (fun e => by rw [e]; exact hx) (a2 y), a3⟩
/-! ### walks -/
theorem walk_list' {xs : List D} {m : Mem} : walkOf (.list xs) m = .ok ⟨xs, none⟩ m := nr rfl
theorem walk_tuple' {xs : List D} {m : Mem} : walkOf (.tuple xs) m = .ok ⟨xs, none⟩ m := nr rfl
theorem walk_str' {x : Str} {m : Mem} : walkOf (.str x) m = .ok ⟨x.cps.toList.map fun c => .str ⟨#[c]⟩, none⟩ m := nr rfl
theorem walk_cell {j : Nat} {xs : List D} {m : Mem} (h : m[j]? = some (.lst xs)) : walkOf (loc j) m = .ok ⟨xs, some (j, xs)⟩ m := by
  unfold walkOf
  rw [rd_cell h, locOf_loc]
  rfl
theorem walkLT_list {xs : List D} {m : Mem} : walkLT (.list xs) m = .ok ⟨xs, none⟩ m := nr rfl
theorem walkLT_tuple {xs : List D} {m : Mem} : walkLT (.tuple xs) m = .ok ⟨xs, none⟩ m := nr rfl
theorem range_1 {j : Int} {m : Mem} (h : -(2 ^ 62) ≤ j ∧ j < 2 ^ 62) : rangeOf [.int j] m = .ok ⟨rangeD 0 j, none⟩ m := guard_pos _ h
theorem range_2 {i j : Int} {m : Mem} (h : -(2 ^ 62) ≤ i ∧ i < 2 ^ 62 ∧ -(2 ^ 62) ≤ j ∧ j < 2 ^ 62) : rangeOf [.int i, .int j] m = .ok ⟨rangeD i j, none⟩ m := guard_pos _ h
@[simp] theorem stays_none {xs : List D} {m : Mem} : Walk.stays ⟨xs, none⟩ m = True := nr rfl
theorem rangeD_nat (n : Nat) : rangeD 0 (n : Int) = (List.range n).map fun (i : Nat) => PyData.int i := by
  unfold rangeD
  simp
theorem range_get {n k : Nat} {d : D} (h : (rangeD 0 (n : Int))[k]? = some d) : k < n ∧ d = .int k := by
  rw [rangeD_nat, List.getElem?_map, Option.map_eq_some_iff] at h
  obtain ⟨i, hi, rfl⟩ := h
  have : k < n := by
    have := (List.getElem?_eq_some_iff.mp hi).1
    simpa using this
  rw [List.getElem?_range this] at hi
  cases hi
  exact ⟨this, rfl⟩
theorem range_length {n : Nat} : (rangeD 0 (n : Int)).length = n := by
  rw [rangeD_nat]
  simp
/-! ### sets of names -/
@[simp] theorem asg_nm (i : Nat) (d : D) (sd : Env) : asg (.nm i) d sd = if i < sd.length then some (sd.set i (some d)) else none := by simp only [asg]
@[simp] theorem asg_tup (ts : Tgs) (ds : List D) (sd : Env) : asg (.tup ts) (.tuple ds) sd = asgs ts ds sd := by simp only [asg]
@[simp] theorem asgs_nil (sd : Env) : asgs .nil [] sd = some sd := by simp only [asgs]
@[simp] theorem asgs_cons (t : Tg) (ts : Tgs) (d : D) (ds : List D) (sd : Env) : asgs (.cons t ts) (d :: ds) sd = (asg t d sd).bind fun sd' => asgs ts ds sd' := by simp only [asgs]
@[simp] theorem wipe_nil (sd : Env) : wipeE sd [] = sd := nr rfl
@[simp] theorem wipe_cons (sd : Env) (v : Nat) (vs : List Nat) : wipeE sd (v :: vs) = (wipeE sd vs).set v none := nr rfl
end SS
end PT_PL1
section PT_PL2
set_option Elab.async false
set_option linter.all false
set_option maxRecDepth 100000
set_option maxHeartbeats 2000000
/-! Plain laws: good data. -/
namespace SS
open PySem
mutual
/-- plain, of sizes that are let -/
def gd : D → Bool
  | .none => true
  | .bool _ => true
  | .int _ => true
  | .str x => PyData.strOk x && decide (x.length ≤ line)
  | .list xs => decide (xs.length ≤ line) && gds xs
  | .tuple xs => decide (xs.length ≤ line) && gds xs
  | .dict _ => false
def gds : List D → Bool
  | [] => true
  | d :: ds => gd d && gds ds
end
@[simp] theorem gd_none : gd .none = true := by simp [gd]
@[simp] theorem gd_bool (b : Bool) : gd (.bool b) = true := by simp [gd]
@[simp] theorem gd_int (b : Int) : gd (.int b) = true := by simp [gd]
theorem gd_str (x : Str) : gd (.str x) = (PyData.strOk x && decide (x.length ≤ line)) := by simp only [gd]
theorem gd_list (xs : List D) : gd (.list xs) = (decide (xs.length ≤ line) && gds xs) := by simp only [gd]
theorem gd_tuple (xs : List D) : gd (.tuple xs) = (decide (xs.length ≤ line) && gds xs) := by simp only [gd]
theorem gds_iff {ds : List D} : gds ds = true ↔ ∀ d ∈ ds, gd d = true := by
  induction ds with
  | nil => simp [gds]
  | cons d ds ih => simp [gds, ih]
mutual
theorem gd_nl : ∀ {d : D}, gd d = true → nl d = true
  | .none, _ => rfl
  | .bool _, _ => rfl
  | .int _, _ => rfl
  | .str _, _ => rfl
  | .list xs, h => by
    rw [gd_list, Bool.and_eq_true] at h
    rw [nl_list]
    exact gds_nl h.2
  | .tuple xs, h => by
    rw [gd_tuple, Bool.and_eq_true] at h
    rw [nl_tuple]
    exact gds_nl h.2
  | .dict _, h => by simp [gd] at h
theorem gds_nl : ∀ {ds : List D}, gds ds = true → nlAll ds = true
  | [], _ => rfl
  | d :: ds, h => by
    simp only [gds, Bool.and_eq_true] at h
    rw [nlAll_cons, gd_nl h.1, gds_nl h.2]
    rfl
end
mutual
theorem gd_lay : ∀ {d : D}, gd d = true → d.canLay0 = true
  | .none, _ => rfl
  | .bool _, _ => rfl
  | .int _, _ => rfl
  | .str x, h => by
    rw [gd_str, Bool.and_eq_true] at h
    exact h.1
  | .list xs, h => by
    rw [gd_list, Bool.and_eq_true] at h
    simp only [PyData.canLay0]
    exact gds_lay h.2
  | .tuple xs, h => by
    rw [gd_tuple, Bool.and_eq_true] at h
    simp only [PyData.canLay0]
    exact gds_lay h.2
  | .dict _, h => by simp [gd] at h
theorem gds_lay : ∀ {ds : List D}, gds ds = true → PyData.canLayAll0 ds = true
  | [], _ => rfl
  | d :: ds, h => by
    simp only [gds, Bool.and_eq_true] at h
    simp only [PyData.canLayAll0, gd_lay h.1, gds_lay h.2, Bool.and_self]
end
theorem depth_get : ∀ {ds : List D} {k : Nat} {d : D}, ds[k]? = some d → d.depth ≤ PyData.depthAll ds
  | [], _, _, h => by simp at h
  | x :: xs, 0, d, e => by
    simp at e
    subst e
    simp only [PyData.depthAll]
    exact Nat.le_max_left _ _
  | x :: xs, k + 1, d, e => by
    have := depth_get (ds := xs) (k := k) (by simpa using e)
    simp only [PyData.depthAll]
    exact Nat.le_trans this (Nat.le_max_right _ _)
theorem depthAll_le {ds : List D} {n : Nat} (h : ∀ d ∈ ds, d.depth ≤ n) : PyData.depthAll ds ≤ n := by
  induction ds with
  | nil => exact Nat.zero_le _
  | cons d ds ih =>
    simp only [PyData.depthAll]
    exact Nat.max_le.mpr ⟨h d List.mem_cons_self, ih fun e he => h e (List.mem_cons_of_mem _ he)⟩
theorem gd_sh {d : D} (h : gd d = true) (hd : d.depth ≤ 64) : sh d = true := by
  show (d.canLay0 && decide (d.depth ≤ 64)) = true
  rw [gd_lay h, decide_eq_true hd]
  rfl
/-- a list or a tuple, read -/
def Sq (m : Mem) (d : D) (xs : List D) : Prop := rd m d = .list xs ∨ rd m d = .tuple xs
section
variable {m : Mem}
theorem sq_len {d : D} {xs : List D} (h : Sq m d xs) {fz : Bool} : biD fz .len [d] m = .ok (.int xs.length) m := by
  show biR fz .len [rd m d] m = _
  rcases h with e | e <;> rw [e] <;> rfl
theorem sq_ix {d : D} {xs : List D} (h : Sq m d xs) {i : Int} : ixD d (.int i) m = opt (atI xs i) m := by
  unfold ixD
  rcases h with e | e <;> rw [e] <;> rfl
end
/-! ### the def _law_same: a datum is the same as itself -/
section
variable {tab : Nat → Option Fn} {ns nw n : Nat} {m : Mem}
def isWh : D → Bool
  | .int _ => true
  | _ => false
def bWhole : Ss := (.cons (.ret (.an (.isi 0 0 (.v 0) .int) (.nt (.isi 0 0 (.v 0) .bool)))) .nil)
def bSame (ns nw : Nat) : Ss := (.cons (.ifs (.cmp .is (.v 1) (.c .non)) (.cons (.ret (.cmp .is (.v 0) (.c .non))) .nil) .nil) (.cons (.ifs (.isi 0 0 (.v 1) .bool) (.cons (.ret (.ite (.v 1) (.cmp .is (.v 0) (.c (.bl true))) (.cmp .is (.v 0) (.c (.bl false))))) .nil) .nil) (.cons (.ifs (.isi 0 0 (.v 1) .int) (.cons (.ret (.an (.call 0 nw (.cons (.v 0) .nil)) (.cmp .eq (.v 0) (.v 1)))) .nil) .nil) (.cons (.ifs (.isi 0 0 (.v 1) .str) (.cons (.ret (.an (.isi 0 0 (.v 0) .str) (.cmp .eq (.v 0) (.v 1)))) .nil) .nil) (.cons (.ifs (.orr (.an (.isi 0 0 (.v 1) .tuple) (.nt (.isi 0 0 (.v 0) .tuple))) (.an (.isi 0 0 (.v 1) .list) (.nt (.isi 0 0 (.v 0) .list)))) (.cons (.ret (.c (.bl false))) .nil) .nil) (.cons (.ifs (.cmp .ne (.bi 0 true .len (.cons (.v 0) .nil)) (.bi 0 true .len (.cons (.v 1) .nil))) (.cons (.ret (.c (.bl false))) .nil) .nil) (.cons (.for_ (.nm 2) (.range 0 (.cons (.bi 0 true .len (.cons (.v 1) .nil)) .nil)) (.cons (.ifs (.nt (.call 0 ns (.cons (.ix (.v 0) (.v 2)) (.cons (.ix (.v 1) (.v 2)) .nil)))) (.cons (.ret (.c (.bl false))) .nil) .nil) .nil)) (.cons (.ret (.c (.bl true))) .nil))))))))
theorem whole_ok (hw : tab nw = some ⟨1, 1, bWhole⟩) (hn : 1 ≤ n) {d : D} (hd : nl d = true) : fnsN tab ns n nw [d] m = .ok (.bool (isWh d)) m := by
  obtain ⟨n, rfl⟩ : ∃ k, n = k + 1 := ⟨n - 1, by omega⟩
  refine call_val hw rfl ?_ rfl
  show wp (evSs _ ns bWhole [some d] m) _
  unfold bWhole
  cases d
  case dict => simp [nl] at hd
  all_goals simp [kOf, isWh]
theorem small1 {n : Nat} (h : n ≤ line) : -(2 ^ 62) ≤ (n : Int) ∧ (n : Int) < 2 ^ 62 := by
  unfold line at h
  constructor <;> omega
theorem same_items {xs : List D} {A : D} (sq : Sq m A xs) (hx : ∀ (k : Nat) (d : D), xs[k]? = some d → fnsN tab ns n ns [d, d] m = .ok (.bool true) m) (hl : xs.length ≤ line) :
    wp (evSs (fnsN tab ns n) ns (.cons (.for_ (.nm 2) (.range 0 (.cons (.bi 0 true .len (.cons (.v 1) .nil)) .nil)) (.cons (.ifs (.nt (.call 0 ns (.cons (.ix (.v 0) (.v 2)) (.cons (.ix (.v 1) (.v 2)) .nil)))) (.cons (.ret (.c (.bl false))) .nil) .nil) .nil)) (.cons (.ret (.c (.bl true))) .nil)) [some A, some A, none] m) fun p m' => p.1 = .ret (.bool true) ∧ m' = m := by
  have hlen := sq_len sq (fz := true)
  rw [xs_cons, x_for, i_range]
  simp only [es_cons, es_nil, e_bi, e_v, List.getElem?_cons_zero, List.getElem?_cons_succ, getV_ok, bind_ok]
  rw [hlen]
  simp only [bind_ok]
  rw [range_1 (small1 hl)]
  simp only [bind_ok, wp_seq]
  refine wp_mono (for_wp (fun _ sd m' => m' = m ∧ ∃ o, sd = [some A, some A, o]) (fun _ _ => False) ⟨rfl, _, rfl⟩ (fun _ _ _ _ => trivial) fun k d sd m' hk ⟨e1, o, e2⟩ => ?_) fun p m' hp => ?_
  · subst e1 e2
    obtain ⟨hk', rfl⟩ := range_get hk
    simp only [asg_nm, List.length_cons, List.length_nil, Nat.reduceAdd, Nat.reduceLT, if_true, opt_some, bind_ok, List.set_cons_succ, List.set_cons_zero, x_ifs, t_nt, t_call, e_call, es_cons, es_nil, e_ix, e_v, List.getElem?_cons_zero, List.getElem?_cons_succ, getV_ok, sq_ix sq, atI_nat, List.getElem?_eq_getElem hk', xs_cons]
    rw [hx k _ (List.getElem?_eq_getElem hk')]
    simp
  · obtain ⟨fl, sd⟩ := p
    cases fl with
    | nx =>
      obtain ⟨rfl, o, rfl⟩ := hp
      simp [K1.d]
    | _ => exact hp.elim
theorem same_refl (hs : tab ns = some ⟨3, 2, bSame ns nw⟩) (hw : tab nw = some ⟨1, 1, bWhole⟩) : ∀ (n : Nat) {d : D}, gd d = true → d.depth + 2 ≤ n → fnsN tab ns n ns [d, d] m = .ok (.bool true) m
  | 0, d, hg, hn => by omega
  | n + 1, d, hg, hn => by
    refine call_val hs rfl ?_ rfl
    show wp (evSs _ ns (bSame ns nw) [some d, some d, none] m) _
    unfold bSame
    cases d with
    | none => simp [K1.d]
    | bool b => cases b <;> simp [K1.d, kOf]
    | int i => simp [K1.d, kOf, whole_ok hw (show 1 ≤ n by simp only [PyData.depth] at hn; omega) (nl_int i), isWh]
    | str x =>
      rw [gd_str, Bool.and_eq_true] at hg
      simp [K1.d, kOf, c_eq_str hg.1 hg.1]
    | dict => simp [gd] at hg
    | list xs =>
      rw [gd_list, Bool.and_eq_true, decide_eq_true_eq] at hg
      have hl := hg.1
      have h1 : Sq m (.list xs) xs := .inl (rd_list m xs)
      have h2 : ∀ (k : Nat) (e : D), xs[k]? = some e → fnsN tab ns n ns [e, e] m = .ok (.bool true) m := by
        intro k e he
        have hd := depth_get he
        simp only [PyData.depth] at hn
        exact same_refl hs hw n (gds_iff.mp hg.2 e (List.mem_of_getElem? he)) (by omega)
      have q := same_items h1 h2
      have q := q hl
      simp only [xs_cons, x_ifs, t_cmp, t_isi, t_orr, t_an, t_nt, e_v, e_c, e_bi, es_cons, es_nil, K1.d, List.getElem?_cons_zero, List.getElem?_cons_succ, getV_ok, bind_ok, c_is_none, rd_list, ty_li, kOf, Bool.false_eq_true, if_false, if_true, seq_nx, xs_nil, Bool.not_true, bi_lenL, c_ne_int, decide_true]
      simpa only [xs_cons, xs_nil, e_bi, es_cons, es_nil] using q
    | tuple xs =>
      rw [gd_tuple, Bool.and_eq_true, decide_eq_true_eq] at hg
      have hl := hg.1
      have h1 : Sq m (.tuple xs) xs := .inr (rd_tuple m xs)
      have h2 : ∀ (k : Nat) (e : D), xs[k]? = some e → fnsN tab ns n ns [e, e] m = .ok (.bool true) m := by
        intro k e he
        have hd := depth_get he
        simp only [PyData.depth] at hn
        exact same_refl hs hw n (gds_iff.mp hg.2 e (List.mem_of_getElem? he)) (by omega)
      have q := same_items h1 h2
      have q := q hl
      simp only [xs_cons, x_ifs, t_cmp, t_isi, t_orr, t_an, t_nt, e_v, e_c, e_bi, es_cons, es_nil, K1.d, List.getElem?_cons_zero, List.getElem?_cons_succ, getV_ok, bind_ok, c_is_none, rd_tuple, ty_tuple, kOf, Bool.false_eq_true, if_false, if_true, seq_nx, xs_nil, Bool.not_true, bi_lenT, c_ne_int, decide_true]
      simpa only [xs_cons, xs_nil, e_bi, es_cons, es_nil] using q
end
end SS
end PT_PL2
section PT_PL3
set_option Elab.async false
set_option linter.all false
set_option maxRecDepth 100000
set_option maxHeartbeats 2000000
/-! Plain laws: methods, enumerations, the first place, what is heard. -/
namespace SS
open PySem
@[simp] theorem guard_tt {α : Type} {r : R α} : guard (true = true) r = r := guard_pos _ rfl
@[simp] theorem guard_T {α : Type} {r : R α} : guard True r = r := guard_pos _ trivial
@[simp] theorem mt_app (xs : List D) : meTy .append (.list xs) = true := nr rfl
@[simp] theorem mt_join (x : Str) : meTy .join (.str x) = true := nr rfl
@[simp] theorem mt_split (x : Str) : meTy .split (.str x) = true := nr rfl
@[simp] theorem mt_upper (x : Str) : meTy .upper (.str x) = true := nr rfl
@[simp] theorem mt_ixT (xs : List D) : meTy .indexT (.tuple xs) = true := nr rfl
theorem c_in_cell {m : Mem} {j : Nat} {a : D} {ds : List D} (h : m[j]? = some (.lst ds)) (ha : sh (rd m a) = true) (hb : sh (.list ds) = true) : cop .isin a (loc j) m = .ok (ds.any fun z => PyData.eqv z (rd m a)) m := by
  show copR .isin (rd m a) (rd m (loc j)) _ m = _
  rw [rd_cell h]
  exact guard_pos _ ⟨ha, hb⟩
theorem enum_get {xs : List D} : ∀ {i k : Nat} {d : D}, (enumD i xs)[k]? = some d → ∃ x, xs[k]? = some x ∧ d = .tuple [.int ((i + k : Nat) : Int), x] := by
  induction xs with
  | nil => intro i k d h; simp [enumD] at h
  | cons a r ih =>
    intro i k d h
    cases k with
    | zero =>
      simp [enumD] at h
      exact ⟨a, rfl, by rw [← h]; simp⟩
    | succ k =>
      simp only [enumD, List.getElem?_cons_succ] at h
      obtain ⟨x, h1, h2⟩ := ih h
      exact ⟨x, by simpa using h1, by rw [h2]; congr 3; omega⟩
theorem enum_length {xs : List D} : ∀ {i : Nat}, (enumD i xs).length = xs.length := by
  induction xs with
  | nil => intro i; rfl
  | cons a r ih => intro i; simp [enumD, ih]
/-- the first k below n with p -/
def least (n : Nat) (p : Nat → Bool) : Option Nat := (List.range n).find? p
theorem least_none {n : Nat} {p : Nat → Bool} (h : ∀ i, i < n → p i = false) : least n p = none := by
  unfold least
  rw [List.find?_eq_none]
  intro x hx
  simp [h x (List.mem_range.mp hx)]
theorem least_some {n k : Nat} {p : Nat → Bool} (hk : k < n) (hp : p k = true) (h : ∀ i, i < k → p i = false) : least n p = some k := by
  unfold least
  rw [List.find?_range_eq_some]
  exact ⟨hp, List.mem_range.mpr hk, fun i hi => by simp [h i hi]⟩
theorem least_of {n : Nat} {p : Nat → Bool} {o : Option Nat} (h : least n p = o) : match o with
    | none => ∀ i, i < n → p i = false
    | some k => k < n ∧ p k = true ∧ ∀ i, i < k → p i = false := by
  unfold least at h
  cases o with
  | none =>
    rw [List.find?_eq_none] at h
    exact fun i hi => by simpa using h i (List.mem_range.mpr hi)
  | some k =>
    rw [List.find?_range_eq_some] at h
    exact ⟨List.mem_range.mp h.2.1, h.1, fun i hi => by simpa using h.2.2 i hi⟩
/-- what is wrong, as data; what is heard -/
def wr : Option (Str × D) → D
  | none => .none
  | some (c, x) => .tuple [.str c, x]
def hrd (o : Option (Str × D)) (d : D) : D := match o with
  | none => .tuple [.str "told", d]
  | some (c, x) => .tuple [.str c, x]
def res (o : Option (Str × D)) (d : D) (m : Mem) : R D := match o with
  | none => .ok d m
  | some (c, x) => .ex c x m
@[simp] theorem said_res (o : Option (Str × D)) (d : D) (m : Mem) : said (res o d m) = .ok (hrd o d) m := by
  cases o with
  | none => rfl
  | some p => rfl
theorem res_of {r : R D} {o : Option (Str × D)} {d : D} {m : Mem} (h : wpx r (fun x m' => o = none ∧ x = d ∧ m' = m) fun c x m' => o = some (c, x) ∧ m' = m) : r = res o d m := by
  cases r with
  | no => simp at h
  | ok a m' =>
    rw [wpx_ok] at h
    obtain ⟨rfl, rfl, rfl⟩ := h
    rfl
  | ex c x m' =>
    rw [wpx_ex] at h
    obtain ⟨rfl, rfl⟩ := h
    rfl
theorem me_split {m : Mem} {x y : Str} (hy : (y.length == 0) = false) (hx : x.length + 2 ≤ line) : meD true .split (.str x) [.str y] m = newL true ((Txt.split x y).map PyData.str) m := guard_pos _ ⟨hy, hx⟩
theorem me_joinL {m : Mem} {fz : Bool} {x : Str} {ys : List Str} (h : (ys.map (·.length)).sum + ys.length * x.length ≤ line) : meD fz .join (.str x) [.list (ys.map PyData.str)] m = .ok (.str (Txt.join x ys)) m := by
  show meR fz .join (.str x) [.list (ys.map PyData.str)] m = _
  simp only [meR, strsOf_map]
  exact guard_pos _ h
theorem me_joinT {m : Mem} {fz : Bool} {x : Str} {ys : List Str} (h : (ys.map (·.length)).sum + ys.length * x.length ≤ line) : meD fz .join (.str x) [.tuple (ys.map PyData.str)] m = .ok (.str (Txt.join x ys)) m := by
  show meR fz .join (.str x) [.tuple (ys.map PyData.str)] m = _
  simp only [meR, strsOf_map]
  exact guard_pos _ h
theorem me_upper {m : Mem} {fz : Bool} {x : Str} (h : x.length ≤ 5592405) : meD fz .upper (.str x) [] m = .ok (.str (Txt.upper x)) m := guard_pos _ h
theorem me_indexT {m : Mem} {fz : Bool} {xs : List D} {d : D} (h : sh (rd m d) = true ∧ sh (.tuple xs) = true) : meD fz .indexT (.tuple xs) [d] m = opt ((firstAt (rd m d) xs 0).map fun (n : Nat) => (PyData.int (Int.ofNat n))) m := guard_pos _ h
theorem cut_hi {α : Type} (xs : List α) (k : Nat) : cut xs none (some (k : Int)) = xs.take k := by
  unfold cut
  rw [HT.sIx_none, HT.sIx_nat, List.drop_zero, Nat.sub_zero]
  by_cases h : k ≤ xs.length
  · rw [Nat.min_eq_left h]
  · rw [Nat.min_eq_right (by omega), List.take_length, List.take_of_length_le (by omega)]
theorem cut_lo {α : Type} (xs : List α) (k : Nat) : cut xs (some (k : Int)) none = xs.drop k := by
  unfold cut
  rw [HT.sIx_none, HT.sIx_nat]
  by_cases h : k ≤ xs.length
  · rw [Nat.min_eq_left h, List.take_of_length_le (by rw [List.length_drop]; omega)]
  · rw [Nat.min_eq_right (by omega), List.drop_of_length_le (by omega), List.drop_of_length_le (by omega)]
    simp
theorem comp_range {st : Mem → Prop} {f : D → Mem → R (Option D)} {m : Mem} {n : Nat} (p : Nat → Bool) (hst : st m) (h : ∀ k, k < n → f (.int (k : Nat)) m = .ok (if p k = true then some (.int (k : Nat)) else none) m) : compM st f (rangeD 0 (n : Int)) m = .ok (((List.range n).filter p).map fun (k : Nat) => PyData.int k) m := by
  rw [comp_pure hst (fun d => match d with | .int i => if p i.toNat = true then some d else none | _ => none) (fun d hd => by
    rw [rangeD_nat] at hd
    obtain ⟨k, hk, rfl⟩ := List.mem_map.mp hd
    rw [h k (List.mem_range.mp hk)]
    simp), rangeD_nat]
  congr 1
  induction List.range n with
  | nil => rfl
  | cons a r ih =>
    rw [List.map_cons, List.filterMap_cons, List.filter_cons, ih]
    simp only [Int.toNat_natCast]
    by_cases h : p a = true <;> simp [h]
theorem filter_least {n : Nat} {p : Nat → Bool} : match least n p with
    | none => (List.range n).filter p = []
    | some k => ∃ r, (List.range n).filter p = k :: r := by
  have h : ((List.range n).filter p).head? = least n p := List.head?_filter
  cases e : (List.range n).filter p with
  | nil => rw [e] at h; rw [← h]; exact rfl
  | cons a r => rw [e] at h; rw [← h]; exact ⟨r, rfl⟩
theorem ints_sh (ks : List Nat) : sh (.list (ks.map fun (k : Nat) => PyData.int k)) = true := by
  show (PyData.canLay0 (.list _) && decide ((PyData.list _).depth ≤ 64)) = true
  rw [Bool.and_eq_true]
  constructor
  · simp only [PyData.canLay0]
    induction ks with
    | nil => rfl
    | cons a r ih => simp only [List.map_cons, PyData.canLayAll0, PyData.canLay0, ih, Bool.and_self]
  · rw [decide_eq_true_eq]
    simp only [PyData.depth]
    have : PyData.depthAll (ks.map fun (k : Nat) => PyData.int k) ≤ 0 := depthAll_le fun d hd => by
      obtain ⟨c, _, rfl⟩ := List.mem_map.mp hd
      simp [PyData.depth]
    omega
theorem sh_nil : sh (.list []) = true := by decide +kernel
theorem eqv_nil (xs : List D) : PyData.eqv (.list xs) (.list []) = xs.isEmpty := by
  rw [PyData.eqv]
  cases xs <;> simp [PyData.eqvAll]
theorem ne_nil_ints {m : Mem} (ks : List Nat) : cop .ne (.list (ks.map fun (k : Nat) => PyData.int k)) (.list []) m = .ok (!ks.isEmpty) m := by
  rw [cop_ne, rd_list, rd_list, guard_pos _ ⟨ints_sh ks, sh_nil⟩, eqv_nil]
  cases ks <;> rfl
theorem lit2 {α : Type} {r : R α} : guard (2 ≤ line) r = r := guard_pos _ (by unfold line; omega)
theorem lit1 {α : Type} {r : R α} : guard (1 ≤ line) r = r := guard_pos _ (by unfold line; omega)
theorem nil_new {m : Mem} : newL true [] m = .ok (.list []) m := newL_true (Nat.zero_le _)
theorem nil_newF {m : Mem} : newL false [] m = .ok (loc m.length) (m ++ [.lst []]) := newL_false (Nat.zero_le _)
end SS
end PT_PL3
section PT_PL4
set_option Elab.async false
set_option linter.all false
set_option maxRecDepth 100000
set_option maxHeartbeats 2000000
/-! Plain laws: texts cut and joined; dicts from names. -/
namespace SS
open PySem
open TL (tl)
theorem tl_nl : tl "\n" = [10] := by decide +kernel
theorem tl_sp : tl " " = [32] := by decide +kernel
theorem join_tl (y : Str) (ps : List Str) : tl (Txt.join y ps) = TL.joinL (tl y) (ps.map tl) := by rw [TL.join_eq, TL.tl_join]
theorem joinL_mem {S : List Nat} : ∀ {ps : List (List Nat)} {p : List Nat}, p ∈ ps → (∀ c ∈ p, c ∈ TL.joinL S ps) ∧ p.length ≤ (TL.joinL S ps).length
  | [], _, h => by simp at h
  | [q], p, h => by
    rw [List.mem_singleton.mp h]
    exact ⟨fun c hc => hc, Nat.le_refl _⟩
  | q :: r :: t, p, h => by
    show (∀ c ∈ p, c ∈ q ++ (S ++ TL.joinL S (r :: t))) ∧ p.length ≤ (q ++ (S ++ TL.joinL S (r :: t))).length
    simp only [List.length_append, List.mem_append]
    rcases List.mem_cons.mp h with e | e
    · rw [e]
      exact ⟨fun c hc => .inl hc, by omega⟩
    · have := joinL_mem (S := S) e
      exact ⟨fun c hc => .inr (.inr (this.1 c hc)), by omega⟩
theorem joinL_inv {S : List Nat} {c : Nat} : ∀ {ps : List (List Nat)}, c ∈ TL.joinL S ps → c ∈ S ∨ ∃ p ∈ ps, c ∈ p
  | [], h => by simp [TL.joinL] at h
  | [q], h => .inr ⟨q, List.mem_singleton.mpr rfl, h⟩
  | q :: r :: t, h => by
    have h : c ∈ q ++ (S ++ TL.joinL S (r :: t)) := h
    simp only [List.mem_append] at h
    rcases h with h | h | h
    · exact .inr ⟨q, List.mem_cons_self, h⟩
    · exact .inl h
    · rcases joinL_inv h with z | ⟨p, z1, z2⟩
      · exact .inl z
      · exact .inr ⟨p, List.mem_cons_of_mem _ z1, z2⟩
theorem joinL_len {s : Nat} : ∀ {ps : List (List Nat)}, ps.length ≤ (TL.joinL [s] ps).length + 1 ∧ (TL.joinL [s] ps).length ≤ (ps.map (·.length)).sum + ps.length
  | [] => by simp [TL.joinL]
  | [q] => by simp [TL.joinL]
  | q :: r :: t => by
    have := joinL_len (s := s) (ps := r :: t)
    show _ ≤ (q ++ ([s] ++ TL.joinL [s] (r :: t))).length + 1 ∧ (q ++ ([s] ++ TL.joinL [s] (r :: t))).length ≤ _
    simp only [List.length_append, List.length_cons, List.length_nil, List.map_cons, List.sum_cons] at this ⊢
    omega
theorem join_split (x y : Str) : Txt.join y (Txt.split x y) = x := by
  rw [TL.join_eq]
  exact PySem.StrLaws.join_split x y
theorem split_part {x y p : Str} (h : p ∈ Txt.split x y) : (∀ c ∈ tl p, c ∈ tl x) ∧ p.length ≤ x.length := by
  have e := join_tl y (Txt.split x y)
  rw [join_split] at e
  rw [e, TL.len_tl, TL.len_tl, e]
  exact joinL_mem (List.mem_map.mpr ⟨p, h, rfl⟩)
theorem split_count {x y : Str} {s : Nat} (hy : tl y = [s]) : (Txt.split x y).length ≤ x.length + 1 := by
  have e := join_tl y (Txt.split x y)
  rw [join_split, hy] at e
  rw [TL.len_tl, e]
  have := (joinL_len (s := s) (ps := (Txt.split x y).map tl)).1
  rw [List.length_map] at this
  exact this
/-- plain strings -/
def sOk (x : Str) : Prop := PyData.strOk x = true ∧ x.length ≤ line
theorem sOk_of {x : Str} (h : gd (.str x) = true) : sOk x := by
  rw [gd_str, Bool.and_eq_true, decide_eq_true_eq] at h
  exact h
theorem sOk.gd {x : Str} (h : sOk x) : gd (.str x) = true := by
  rw [gd_str, Bool.and_eq_true, decide_eq_true_eq]
  exact h
theorem strOk_iff {x : Str} : PyData.strOk x = true ↔ ∀ c ∈ tl x, PyData.strOk ⟨#[c]⟩ = true := by
  unfold PyData.strOk
  rw [Array.all_eq_true_iff_forall_mem]
  constructor
  · intro h c hc
    have := h c (Array.mem_toList_iff.mp hc)
    simp at this ⊢
    exact this
  · intro h c hc
    have := h c (Array.mem_toList_iff.mpr hc)
    simp at this ⊢
    exact this
theorem sOk_sub {x z : Str} (h : sOk x) (hm : ∀ c ∈ tl z, c ∈ tl x) (hl : z.length ≤ x.length) : sOk z :=
  ⟨strOk_iff.mpr fun c hc => strOk_iff.mp h.1 c (hm c hc), Nat.le_trans hl h.2⟩
theorem strs_gd {ns : List Str} (h : ∀ x ∈ ns, sOk x) : gds (ns.map PyData.str) = true := gds_iff.mpr fun d hd => by
  obtain ⟨x, hx, rfl⟩ := List.mem_map.mp hd
  exact (h x hx).gd
theorem strs_depth (ns : List Str) : PyData.depthAll (ns.map PyData.str) ≤ 0 := depthAll_le fun d hd => by
  obtain ⟨c, _, rfl⟩ := List.mem_map.mp hd
  simp [PyData.depth]
theorem strs_sh {ns : List Str} (h : ∀ x ∈ ns, sOk x) : sh (.list (ns.map PyData.str)) = true ∧ sh (.tuple (ns.map PyData.str)) = true := by
  have h1 := gds_lay (strs_gd h)
  have h2 := strs_depth ns
  constructor
  · show (PyData.canLay0 (.list _) && decide ((PyData.list _).depth ≤ 64)) = true
    rw [Bool.and_eq_true]
    refine ⟨?_, decide_eq_true ?_⟩
    · simp only [PyData.canLay0, h1]
    · simp only [PyData.depth]
      omega
  · show (PyData.canLay0 (.tuple _) && decide ((PyData.tuple _).depth ≤ 64)) = true
    rw [Bool.and_eq_true]
    refine ⟨?_, decide_eq_true ?_⟩
    · simp only [PyData.canLay0, h1]
    · simp only [PyData.depth]
      omega
theorem eqvAll_strs : ∀ (as bs : List Str), PyData.eqvAll (as.map .str) (bs.map .str) = decide (as = bs)
  | [], [] => by simp [PyData.eqvAll]
  | [], _ :: _ => by simp [PyData.eqvAll]
  | _ :: _, [] => by simp [PyData.eqvAll]
  | a :: as, b :: bs => by
    simp only [List.map_cons, PyData.eqvAll, eqv_str, eqvAll_strs as bs, List.cons.injEq, Bool.decide_and]
theorem eqv_strs (as bs : List Str) : PyData.eqv (.list (as.map .str)) (.list (bs.map .str)) = decide (as = bs) := by
  rw [PyData.eqv, eqvAll_strs]
theorem any_eqv (ns : List Str) (x : Str) : ((ns.map PyData.str).any fun z => PyData.eqv z (.str x)) = ns.contains x := by
  induction ns with
  | nil => rfl
  | cons a r ih =>
    rw [List.map_cons, List.any_cons, ih, List.contains_cons, eqv_str]
    congr 1
    rw [Bool.eq_iff_iff]
    simp
    exact ⟨fun h => h.symm, fun h => h.symm⟩
theorem firstAt_strs {w : Str} : ∀ {ns : List Str} {i : Nat}, w ∈ ns → firstAt (.str w) (ns.map .str) i = some (i + ns.idxOf w)
  | [], _, h => by simp at h
  | a :: r, i, h => by
    simp only [List.map_cons, firstAt, eqv_str]
    by_cases e : a = w
    · subst e
      simp
    · have h : w ∈ r := (List.mem_cons.mp h).resolve_left fun z => e z.symm
      simp [e, firstAt_strs (i := i + 1) h, List.idxOf_cons, beq_eq_false_iff_ne.mpr e]
      omega
/-! ### a dict: words and places -/
def kvN : Nat → List Str → List (KeyD × D)
  | _, [] => []
  | i, x :: r => (.inr x, .int i) :: kvN (i + 1) r
theorem kvN_keys {i : Nat} {ns : List Str} : (kvN i ns).map (·.1) = ns.map Sum.inr := by
  induction ns generalizing i with
  | nil => rfl
  | cons a r ih => simp [kvN, ih]
theorem foldl_setK {κ : Type} [DecidableEq κ] : ∀ {ps acc : List (κ × D)}, ((acc ++ ps).map (·.1)).Nodup → ps.foldl (fun acc p => setK acc p.1 p.2) acc = acc ++ ps
  | [], acc, _ => by simp
  | p :: ps, acc, h => by
    have hs : setK acc p.1 p.2 = acc ++ [p] := by
      unfold setK
      rw [if_neg]
      rw [List.any_eq_true]
      rintro ⟨q, hq, e⟩
      rw [decide_eq_true_eq] at e
      rw [List.map_append, List.nodup_append] at h
      exact h.2.2 q.1 (List.mem_map.mpr ⟨q, hq, rfl⟩) p.1 (by simp) e
    rw [List.foldl_cons, hs, foldl_setK (by simpa using h)]
    simp
theorem getK_kvN {w : Str} : ∀ {ns : List Str} {i : Nat}, getK (kvN i ns) (.inr w) = if w ∈ ns then some (.int ((i + ns.idxOf w : Nat) : Int)) else none
  | [], i => rfl
  | a :: r, i => by
    unfold getK
    simp only [kvN, List.find?_cons]
    by_cases e : a = w
    · subst e
      simp
    · have ih := getK_kvN (w := w) (ns := r) (i := i + 1)
      unfold getK at ih
      have e1 : decide ((Sum.inr a : KeyD) = .inr w) = false := by simp [e]
      simp only [e1]
      rw [ih, List.idxOf_cons, beq_eq_false_iff_ne.mpr e]
      by_cases hw : w ∈ r
      · simp [hw]
        omega
      · simp [hw, Ne.symm e]
def enO : D → Option (KeyD × D)
  | .tuple [i, .str x] => some (.inr x, i)
  | _ => none
theorem en_map {ns : List Str} : ∀ {i : Nat}, (enumD i (ns.map PyData.str)).filterMap enO = kvN i ns := by
  induction ns with
  | nil => intro i; rfl
  | cons a r ih => intro i; simp only [List.map_cons, enumD, List.filterMap_cons, enO, ih, kvN]
theorem kvN_length {ns : List Str} : ∀ {i : Nat}, (kvN i ns).length = ns.length := by
  induction ns with
  | nil => intro i; rfl
  | cons a r ih => intro i; simp [kvN, ih]
theorem kvN_set {ns : List Str} (h : ns.Nodup) : (kvN 0 ns).foldl (fun acc p => setK acc p.1 p.2) [] = kvN 0 ns := by
  have := foldl_setK (ps := kvN 0 ns) (acc := []) (by
    rw [List.nil_append, kvN_keys]
    exact List.Pairwise.map _ (fun a b h e => h (Sum.inr.inj e)) h)
  rw [List.nil_append] at this
  exact this
theorem e_dcomp {F : Fns} {same : Nat} {sd : Env} {m : Mem} {k v : E} {g : Tg} {it : It} {own : List Nat} : evE F same (.dcomp k v g it own) sd m = (evI F same it sd m).bind fun w m => (compM w.stays (fun d m => (opt (asg g d (wipeE sd own)) m).bind fun sd' m => (evE F same k sd' m).bind fun x m => (evE F same v sd' m).bind fun y m => (opt (keyOf x) m).bind fun kk m => .ok (some (kk, y)) m) w.items m).bind fun kvs m => guard (kvs.length ≤ line) (.ok (loc m.length) (m ++ [.dK (kvs.foldl (fun acc p => setK acc p.1 p.2) [])])) := by
  simp only [evE]
section
variable {m : Mem} {j : Nat} {kvs : List (KeyD × D)} (h : m[j]? = some (.dK kvs))
include h
theorem rd_dict : rd m (loc j) = loc j := by
  unfold rd
  simp [h]
theorem of_dict : dictOf m (loc j) = some kvs := by
  unfold dictOf
  simp [h]
theorem notin_dict (w : Str) : cop .notin (.str w) (loc j) m = .ok (!(getK kvs (.inr w)).isSome) m := by
  show copR .notin (.str w) (rd m (loc j)) (dictOf m (loc j)) m = _
  rw [rd_dict h, of_dict h]
  rfl
theorem in_dict (w : Str) : cop .isin (.str w) (loc j) m = .ok (getK kvs (.inr w)).isSome m := by
  show copR .isin (.str w) (rd m (loc j)) (dictOf m (loc j)) m = _
  rw [rd_dict h, of_dict h]
  rfl
theorem ix_dk (w : Str) : ixD (loc j) (.str w) m = opt (getK kvs (.inr w)) m := by
  show ixR (rd m (loc j)) (.str w) (dictOf m (loc j)) m = _
  rw [rd_dict h, of_dict h]
  rfl
end
end SS
end PT_PL4
section PT_P2
set_option Elab.async false
set_option linter.all false
set_option maxRecDepth 100000
set_option maxHeartbeats 2000000
namespace SS.K90
open PySem SS
/-- a jar: two numbers; no cell leads to another -/
structure Js (m : Mem) (j : Nat) : Prop where
  at_ : ∃ a b : Int, m[j]? = some (.lst [.int a, .int b]) ∧ 0 ≤ a ∧ 0 ≤ b ∧ b < 2147483647
  nl : m.all nlO = true
/-- a jar that was asked -/
def Jd (m m' : Mem) (j : Nat) : Prop := ∃ a b : Int, m' = m.set j (.lst [.int a, .int b]) ∧ 0 ≤ a ∧ 0 ≤ b ∧ b < 2147483647
theorem Js.lt {m : Mem} {j : Nat} (h : Js m j) : j < m.length := by
  obtain ⟨a, b, hm, _⟩ := h.at_
  exact (List.getElem?_eq_some_iff.mp hm).1
theorem jar_nl (a b : Int) : nlO (.lst [.int a, .int b]) = true := by simp [nlO]
theorem Jd.js {m m' : Mem} {j : Nat} (h : Js m j) (d : Jd m m' j) : Js m' j := by
  obtain ⟨a, b, rfl, h1, h2, h3⟩ := d
  refine ⟨⟨a, b, cell_set h.lt, h1, h2, h3⟩, ?_⟩
  rw [List.all_eq_true]
  intro o ho
  rcases List.mem_or_eq_of_mem_set ho with z | z
  · exact List.all_eq_true.mp h.nl o z
  · rw [z]; exact jar_nl a b
theorem Jd.trans {m m' m'' : Mem} {j : Nat} (x : Jd m m' j) (y : Jd m' m'' j) : Jd m m'' j := by
  obtain ⟨a, b, rfl, _⟩ := x
  obtain ⟨a', b', rfl, h⟩ := y
  exact ⟨a', b', by rw [List.set_set], h⟩
theorem Jd.len {m m' : Mem} {j : Nat} (x : Jd m m' j) : m'.length = m.length := by
  obtain ⟨a, b, rfl, _⟩ := x
  simp
theorem Jd.other {m m' : Mem} {j k : Nat} (x : Jd m m' j) (h : k ≠ j) : m'[k]? = m[k]? := by
  obtain ⟨a, b, rfl, _⟩ := x
  rw [List.getElem?_set_ne (fun e => h e.symm)]
theorem Js.refl {m : Mem} {j : Nat} (h : Js m j) : Jd m m j := by
  obtain ⟨a, b, hm, hb⟩ := h.at_
  refine ⟨a, b, ?_, hb⟩
  apply List.ext_getElem?
  intro i
  by_cases hi : j = i
  · subst hi
    rw [cell_set h.lt, hm]
  · rw [List.getElem?_set_ne hi]
/-- a def left without new cells -/
theorem left_jd {m m' : Mem} {j : Nat} {p : Flow × Env} {d : D} {Q : D → Mem → Prop} (h : Js m j) (x : Jd m m' j) (hp : p.1 = .ret d) (hd : nl d = true) (q : Q d m') : Left m Q p m' := by
  refine ⟨d, .inl hp, hd, Nat.le_of_eq x.len.symm, ?_, ?_⟩
  · rw [← x.len, List.take_length]
    exact (x.js h).nl
  · rw [← x.len, List.take_length]
    exact q
section
variable {j : Nat} {m : Mem}
theorem sq_keep {m' : Mem} {d : D} {xs : List D} (h : Sq m d xs) (x : Jd m m' j) (hd : d ≠ loc j) : Sq m' d xs := by
  unfold Sq at h ⊢
  have e : rd m' d = rd m d := by
    unfold rd
    cases e : locOf d with
    | none => rfl
    | some i =>
      have hi : i ≠ j := by
        rintro rfl
        apply hd
        unfold locOf at e
        split at e
        · cases e; rfl
        · cases e
      simp only
      rw [x.other hi]
  rw [e]
  exact h
end
section
variable {tab : Nat → Option Fn} (H : Tb tab) {n j : Nat} {m : Mem}
include H
theorem take_ok (hn : 1 ≤ n) {t : Int} (h : Js m j) (ht : 0 < t) (ht2 : t < 1073741824) : wp (fnsN tab 8 n 14 [loc j, .int t] m) fun d m' => (∃ k : Int, d = .int k ∧ 0 ≤ k ∧ k < t) ∧ Jd m m' j := by
  obtain ⟨n, rfl⟩ : ∃ k, n = k + 1 := ⟨n - 1, by omega⟩
  refine call_wp (t__law_take H) rfl ?_
  obtain ⟨a, b, hm, ha, hb, hb2⟩ := h.at_
  have hj := h.lt
  show wp (evSs _ 8 b__law_take [some (loc j), some (.int t), none] m) _
  unfold b__law_take
  by_cases h0 : 0 < a
  · simp [ix_cell hm, K1.d, h0, b_mod ht, b_fdiv (show L2.CDiv a t from ⟨ht, ht2⟩), set_cell0 hm]
    exact left_jd h ⟨_, _, rfl, Int.ediv_nonneg ha (by omega), hb, hb2⟩ rfl rfl ⟨⟨_, rfl, Int.emod_nonneg _ (by omega), Int.emod_lt_of_pos _ ht⟩, _, _, rfl, Int.ediv_nonneg ha (by omega), hb, hb2⟩
  · have a0 : a = 0 := by omega
    subst a0
    have hx : 0 ≤ (b * 39373 + 7) % 2147483647 ∧ (b * 39373 + 7) % 2147483647 < 2147483647 := ⟨Int.emod_nonneg _ (by omega), Int.emod_lt_of_pos _ (by omega)⟩
    simp [ix_cell hm, K1.d, b_mod ht, b_mod, b_mul (show L2.CMul b 39373 from .inl ⟨by omega, by omega⟩), set_cell1 hm, ix_cell (cell_set hj)]
    generalize (b * 39373 + 7) % 2147483647 = x at hx
    simp [b_mul (show L2.CMul x x from .inl ⟨by omega, by omega⟩), b_mod, b_fdiv (show L2.CDiv _ 32 from ⟨by omega, by omega⟩), ht]
    exact left_jd h ⟨0, x, rfl, Int.le_refl 0, hx.1, hx.2⟩ rfl rfl ⟨⟨_, rfl, Int.emod_nonneg _ (by omega), Int.emod_lt_of_pos _ ht⟩, 0, x, rfl, Int.le_refl 0, hx.1, hx.2⟩
theorem one_ok (hn : 2 ≤ n) {d : D} {xs : List D} (h : Js m j) (hs : Sq m d xs) (hd : d ≠ loc j) (hx : xs ≠ []) (hl : xs.length < 1073741824) (hnl : nlAll xs = true) : wp (fnsN tab 8 n 15 [loc j, d] m) fun y m' => y ∈ xs ∧ Jd m m' j := by
  obtain ⟨n, rfl⟩ : ∃ k, n = k + 1 := ⟨n - 1, by omega⟩
  refine call_wp (t__law_one H) rfl ?_
  show wp (evSs _ 8 b__law_one [some (loc j), some d] m) _
  unfold b__law_one
  have hp : 0 < xs.length := List.length_pos_iff.mpr hx
  have hlen := sq_len hs (fz := true)
  simp only [xs_cons, x_ret, e_ix, e_v, List.getElem?_cons_zero, List.getElem?_cons_succ, getV_ok, bind_ok, e_call, es_cons, es_nil, e_bi, hlen, wp_seq, wp_bind]
  refine wp_mono (take_ok H (by omega) h (t := xs.length) (by omega) (by omega)) fun k m' ⟨⟨k, e, k0, k1⟩, x⟩ => ?_
  subst e
  obtain ⟨y, e1, e2⟩ := atI_of (xs := xs) k0 k1
  rw [sq_ix (sq_keep hs x hd), e1]
  simp only [opt_some, wp_ok]
  exact left_jd h x rfl (nlAll_iff.mp hnl y e2) ⟨e2, x⟩
theorem same_ok {d : D} (hg : gd d = true) (hn : d.depth + 2 ≤ n) : fnsN tab 8 n 8 [d, d] m = .ok (.bool true) m := same_refl (t__law_same H) (t__law_is_whole H) n hg hn
theorem isw_ok (hn : 1 ≤ n) {d : D} (hd : nl d = true) : fnsN tab 8 n 7 [d] m = .ok (.bool (isWh d)) m := whole_ok (t__law_is_whole H) hn hd
end
end SS.K90
end PT_P2
section PT_P3
set_option Elab.async false
set_option linter.all false
set_option maxRecDepth 100000
set_option maxHeartbeats 2000000
namespace SS.K90
open PySem SS
abbrev LET : Str := "abcdefghijklmnopqrstuvwxyz"
abbrev one (c : Nat) : Str := ⟨#[c]⟩
def lowB (c : Nat) : Bool := strIn (one c) LET
def KEPT : List Str := ["none", "from", "of", "out", "with", "apart"]
def isName (x : Str) : Bool := decide (1 ≤ x.length) && (decide (x.length ≤ 12) && (!(KEPT.any fun y => decide (y = x)) && x.cps.toList.all lowB))
def isNm : D → Bool
  | .str x => isName x
  | _ => false
theorem kept_sh : sh (.tuple [(.str "none"), (.str "from"), (.str "of"), (.str "out"), (.str "with"), (.str "apart")]) = true := by decide +kernel
theorem keptL_sh : sh (.list [(.str "none"), (.str "from"), (.str "of"), (.str "out"), (.str "with"), (.str "apart")]) = true := by decide +kernel
theorem kept_any (x : Str) : (([(.str "none"), (.str "from"), (.str "of"), (.str "out"), (.str "with"), (.str "apart")] : List D).any fun z => PyData.eqv z (.str x)) = KEPT.any fun y => decide (y = x) := by
  simp only [List.any_cons, List.any_nil, eqv_str, KEPT]
theorem strOk_mem {x : Str} (h : PyData.strOk x = true) {c : Nat} (hc : c ∈ x.cps.toList) : PyData.strOk (one c) = true := by
  unfold PyData.strOk at h ⊢
  have := Array.all_eq_true_iff_forall_mem.mp h c (Array.mem_toList_iff.mp hc)
  simp at this ⊢
  exact this
theorem chars_sh {x : Str} (h : PyData.strOk x = true) {cs : List Nat} (hc : ∀ c ∈ cs, c ∈ x.cps.toList) : sh (.list (cs.map fun c => .str (one c))) = true := by
  show (PyData.canLay0 (.list _) && decide ((PyData.list _).depth ≤ 64)) = true
  rw [Bool.and_eq_true]
  constructor
  · simp only [PyData.canLay0]
    induction cs with
    | nil => rfl
    | cons a r ih => simp only [List.map_cons, PyData.canLayAll0, PyData.canLay0, strOk_mem h (hc a List.mem_cons_self), ih fun c hc' => hc c (List.mem_cons_of_mem _ hc'), Bool.and_self]
  · rw [decide_eq_true_eq]
    simp only [PyData.depth]
    have : PyData.depthAll (cs.map fun c => PyData.str (one c)) ≤ 0 := depthAll_le fun d hd => by
      obtain ⟨c, _, rfl⟩ := List.mem_map.mp hd
      simp [PyData.depth]
    omega
theorem eqv_list_nil (xs : List D) : PyData.eqv (.list xs) (.list []) = xs.isEmpty := by
  rw [PyData.eqv]
  cases xs <;> simp [PyData.eqvAll]
section
variable {tab : Nat → Option Fn} (H : Tb tab) {n j : Nat} {m : Mem}
include H
theorem is_name_ok (hn : 1 ≤ n) {d : D} (hg : gd d = true) : fnsN tab 8 n 3 [d] m = .ok (.bool (isNm d)) m := by
  obtain ⟨n, rfl⟩ : ∃ k, n = k + 1 := ⟨n - 1, by omega⟩
  refine call_val (t_is_name H) rfl ?_ rfl
  show wp (evSs _ 8 b_is_name [some d, none] m) _
  unfold b_is_name
  cases d with
  | str x =>
    obtain ⟨h1, h2⟩ := sOk_of hg
    have hin : ∀ m : Mem, cop .isin (.str x) (.tuple [(.str "none"), (.str "from"), (.str "of"), (.str "out"), (.str "with"), (.str "apart")]) m = .ok (KEPT.any fun y => decide (y = x)) m := fun m => by
      rw [c_in_tuple (by rw [rd_str, sh_str]; exact h1) kept_sh, rd_str, kept_any]
    have hc : evE (fnsN tab 8 n) 8 (.comp true (.cmp .isin (.v 1) (.g 0 (.str "abcdefghijklmnopqrstuvwxyz"))) (.nm 1) (.e (.v 0)) .none [1]) [some (.str x), none] m = .ok (.list ((x.cps.toList.map lowB).map .bool)) m := by
      rw [e_comp, i_e]
      simp only [e_v, List.getElem?_cons_zero, getV_ok, bind_ok, walk_str']
      rw [comp_pure (by trivial) (fun d => match d with | .str z => some (.bool (strIn z LET)) | _ => none) (fun d hd => by
        obtain ⟨c, _, rfl⟩ := List.mem_map.mp hd
        simp [evC, c_in_str])]
      simp only [bind_ok]
      rw [newL_true (by
        refine Nat.le_trans (List.length_filterMap_le _ _) ?_
        rw [List.length_map]
        exact h2)]
      congr 2
      rw [List.filterMap_map]
      induction x.cps.toList with
      | nil => rfl
      | cons a r ih => simp [List.filterMap_cons, ih, lowB]
    simp [kOf, bi_lenS h2, K1.d, hin, hc]
    by_cases a1 : (1 : Int) ≤ x.length
    · by_cases a2 : (x.length : Int) ≤ 12
      · cases a3 : KEPT.any fun y => decide (y = x)
        · simp [-List.map_map, a1, a2, hc, bi_all]
          simp [isNm, isName, show 1 ≤ x.length by omega, show x.length ≤ 12 by omega, a3]
        · simp [a1, a2, isNm, isName, a3]
      · simp [a1, a2, isNm, isName, show ¬ x.length ≤ 12 by omega]
    · simp [a1, isNm, isName, show ¬ 1 ≤ x.length by omega]
  | dict => simp [gd] at hg
  | _ => simp [kOf, K1.d, isNm]
end
end SS.K90
end PT_P3
section PT_P4
set_option Elab.async false
set_option linter.all false
set_option maxRecDepth 100000
set_option maxHeartbeats 2000000
namespace SS.K90
open PySem SS
theorem sh_nilL : sh (.list []) = true := by decide +kernel
def dropLow : D → Option D
  | .str z => if (!strIn z LET) = true then some (.str z) else none
  | _ => none
theorem drop_eq (cs : List Nat) : (cs.map fun c => PyData.str ⟨#[c]⟩).filterMap dropLow = (cs.filter fun c => !lowB c).map fun c => .str (one c) := by
  induction cs with
  | nil => rfl
  | cons a r ih =>
    have e : dropLow (.str ⟨#[a]⟩) = if (!lowB a) = true then some (.str (one a)) else none := by simp only [dropLow, lowB, one]; rfl
    rw [List.map_cons, List.filterMap_cons, List.filter_cons, ih, e]
    cases lowB a <;> simp
section
variable {tab : Nat → Option Fn} (H : Tb tab) {n j : Nat} {m : Mem}
include H
theorem lname_ok (hn : 1 ≤ n) {d : D} (hg : gd d = true) : fnsN tab 8 n 18 [d] m = .ok (.bool (isNm d)) m := by
  obtain ⟨n, rfl⟩ : ∃ k, n = k + 1 := ⟨n - 1, by omega⟩
  refine call_val (t__law_is_name H) rfl ?_ rfl
  show wp (evSs _ 8 b__law_is_name [some d, none] m) _
  unfold b__law_is_name
  cases d with
  | str x =>
    obtain ⟨h1, h2⟩ := sOk_of hg
    have hnew : ∀ m : Mem, newL true [(.str "none"), (.str "from"), (.str "of"), (.str "out"), (.str "with"), (.str "apart")] m = .ok (.list [(.str "none"), (.str "from"), (.str "of"), (.str "out"), (.str "with"), (.str "apart")]) m := fun m => newL_true (by unfold line; simp)
    have hin : ∀ m : Mem, cop .isin (.str x) (.list [(.str "none"), (.str "from"), (.str "of"), (.str "out"), (.str "with"), (.str "apart")]) m = .ok (KEPT.any fun y => decide (y = x)) m := fun m => by
      rw [c_in_list (by rw [rd_str, sh_str]; exact h1) keptL_sh, rd_str, kept_any]
    have hc : evE (fnsN tab 8 n) 8 (.comp true (.v 1) (.nm 1) (.e (.v 0)) (.some (.cmp .notin (.v 1) (.c (.str "abcdefghijklmnopqrstuvwxyz")))) [1]) [some (.str x), none] m = .ok (.list ((x.cps.toList.filter fun c => !lowB c).map fun c => .str (SS.K90.one c))) m := by
      rw [e_comp, i_e]
      simp only [e_v, List.getElem?_cons_zero, getV_ok, bind_ok, walk_str']
      rw [comp_pure (by trivial) dropLow (fun d hd => by
        obtain ⟨c, _, rfl⟩ := List.mem_map.mp hd
        simp only [evC, wipe_cons, wipe_nil, asg_nm, List.length_set, List.length_cons, List.length_nil, Nat.reduceAdd, Nat.reduceLT, if_true, opt_some, bind_ok, o_some, e_cmp, e_v, e_c, K1.d, List.set_cons_succ, List.set_cons_zero, List.getElem?_cons_zero, List.getElem?_cons_succ, getV_ok, c_notin_str, if_some, tr_bool, dropLow]
        cases strIn (⟨#[c]⟩ : Str) LET <;> simp)]
      simp only [bind_ok]
      rw [drop_eq, newL_true (by
        rw [List.length_map]
        refine Nat.le_trans (List.length_filter_le _ _) ?_
        exact h2)]
    have he : ∀ m : Mem, cop .eq (.list ((x.cps.toList.filter fun c => !lowB c).map fun c => .str (SS.K90.one c))) (.list []) m = .ok (x.cps.toList.all lowB) m := fun m => by
      rw [cop_eq, rd_list, rd_list, guard_pos _ ⟨chars_sh h1 fun c hc => (List.mem_filter.mp hc).1, sh_nilL⟩, eqv_list_nil]
      congr 1
      induction x.cps.toList with
      | nil => rfl
      | cons a r ih =>
        rw [List.filter_cons, List.all_cons]
        cases lowB a <;> simp_all
    have h0 : ∀ m : Mem, newL true [] m = .ok (.list []) m := fun m => newL_true (Nat.zero_le _)
    simp [kOf, bi_lenS h2, K1.d]
    by_cases a1 : (1 : Int) ≤ x.length
    · by_cases a2 : (x.length : Int) ≤ 12
      · cases a3 : KEPT.any fun y => decide (y = x)
        · simp [-List.map_map, a1, a2, a3, hc, h0, he, hin, hnew, K1.d]
          simp [isNm, isName, show 1 ≤ x.length by omega, show x.length ≤ 12 by omega, a3]
        · simp [-List.map_map, a1, a2, a3, hin, hnew, K1.d]
          simp [isNm, isName, a3]
      · simp [a1, a2, isNm, isName, show ¬ x.length ≤ 12 by omega]
    · simp [a1, isNm, isName, show ¬ 1 ≤ x.length by omega]
  | dict => simp [gd] at hg
  | _ => simp [kOf, K1.d, isNm]
end
end SS.K90
end PT_P4
section PT_P5
set_option Elab.async false
set_option linter.all false
set_option maxRecDepth 100000
set_option maxHeartbeats 2000000
namespace SS.K90
open PySem SS
def badNm (xs : List D) (k : Nat) : Bool := match xs[k]? with
  | some x => !isNm x || (xs.take k).any fun z => PyData.eqv z x
  | none => false
def wrongN : D → Option (Str × D)
  | .tuple xs => if 24 < xs.length then some ("TooMany", .int xs.length) else (least xs.length (badNm xs)).map fun (k : Nat) => ("BadNames", PyData.int k)
  | _ => some ("BadNames", .int (-1))
section
variable {xs : List D} (hg : gd (.tuple xs) = true) (hd : (PyData.tuple xs).depth ≤ 60)
include hg hd
theorem tup_sh {k : Nat} {x : D} (hx : xs[k]? = some x) : gd x = true ∧ sh x = true ∧ sh (.list (xs.take k)) = true ∧ sh (.tuple (xs.take k)) = true := by
  rw [gd_tuple, Bool.and_eq_true] at hg
  have h1 := gds_iff.mp hg.2
  simp only [PyData.depth] at hd
  have h2 : ∀ y ∈ xs, y.depth ≤ PyData.depthAll xs := fun y hy => by
    obtain ⟨i, hi⟩ := List.mem_iff_getElem?.mp hy
    exact depth_get hi
  have h3 : gds (xs.take k) = true := gds_iff.mpr fun y hy => h1 y (List.mem_of_mem_take hy)
  have h4 : PyData.depthAll (xs.take k) ≤ PyData.depthAll xs := depthAll_le fun y hy => h2 y (List.mem_of_mem_take hy)
  refine ⟨h1 x (List.mem_of_getElem? hx), gd_sh (h1 x (List.mem_of_getElem? hx)) (by have := depth_get hx; omega), ?_, ?_⟩
  · show (PyData.canLay0 (.list _) && decide ((PyData.list _).depth ≤ 64)) = true
    rw [Bool.and_eq_true]
    refine ⟨?_, decide_eq_true ?_⟩
    · simp only [PyData.canLay0, gds_lay h3]
    · simp only [PyData.depth]
      omega
  · show (PyData.canLay0 (.tuple _) && decide ((PyData.tuple _).depth ≤ 64)) = true
    rw [Bool.and_eq_true]
    refine ⟨?_, decide_eq_true ?_⟩
    · simp only [PyData.canLay0, gds_lay h3]
    · simp only [PyData.depth]
      omega
end
section
variable {tab : Nat → Option Fn} (H : Tb tab) {n j : Nat} {m : Mem}
include H
theorem made_loop (hn : 1 ≤ n) {xs : List D} (hg : gd (.tuple xs) = true) (hd : (PyData.tuple xs).depth ≤ 60) (h24 : xs.length ≤ 24) : wpx (forM (Walk.stays ⟨enumD 0 xs, none⟩) (fun d sd m => (opt (asg (.tup (.cons (.nm 2) (.cons (.nm 3) .nil))) d sd) m).bind fun sd' m => evSs (fnsN tab 8 n) 8 l_made_names_1 sd' m) (enumD 0 xs) [some (.tuple xs), some (loc m.length), none, none] (m ++ [.lst []]))
    (fun p m' => match p.1 with
      | .nx => (∃ o o', p.2 = [some (.tuple xs), some (loc m.length), o, o']) ∧ m' = m ++ [.lst xs] ∧ least xs.length (badNm xs) = none
      | _ => False) fun c x m' => c = "BadNames" ∧ (∃ (k : Nat) (ys : List D), m' = m ++ [.lst ys] ∧ x = .int k ∧ least xs.length (badNm xs) = some k) := by
  refine wpx_mono (for_wpx (fun k sd m' => (∃ o o', sd = [some (.tuple xs), some (loc m.length), o, o']) ∧ m' = m ++ [.lst (xs.take k)] ∧ ∀ i, i < k → badNm xs i = false) (fun _ _ => False) (fun _ _ _ => False) (enumD 0 xs) 0 _ _ ⟨⟨_, _, rfl⟩, by simp, by omega⟩ (fun _ _ _ _ => trivial) fun k d sd m' hk ⟨⟨o, o', hs⟩, hm, hb⟩ => ?_) (fun p m' hp => ?_) fun c x m' hx => hx
  · subst hs hm
    rw [Nat.zero_add] at hb ⊢
    obtain ⟨x, hx, rfl⟩ := enum_get hk
    obtain ⟨g1, g2, g3, g4⟩ := tup_sh hg hd hx
    have hc : (m ++ [O.lst (xs.take k)])[m.length]? = some (.lst (xs.take k)) := by simp
    have hkl : k < xs.length := (List.getElem?_eq_some_iff.mp hx).1
    have hin := c_in_cell (a := x) hc (by rw [rd_nl (gd_nl g1)]; exact g2) g3
    rw [rd_nl (gd_nl g1)] at hin
    have hbad : badNm xs k = (!isNm x || (xs.take k).any fun z => PyData.eqv z x) := by simp only [badNm, hx]
    generalize (xs.take k).any (fun z => PyData.eqv z x) = q at hin hbad
    unfold l_made_names_1
    simp [is_name_ok H hn g1]
    cases h1 : isNm x
    · simp
      exact ⟨k, rfl, least_some hkl (by rw [hbad, h1]; rfl) hb⟩
    · cases q
      · simp [hin]
        simp [rd_cell hc, app_cell hc (by rw [List.length_take]; unfold line; omega)]
        refine ⟨?_, fun i hi => ?_⟩
        · rw [List.take_add_one, hx]
          simp
        · rcases Nat.lt_or_eq_of_le (Nat.le_of_lt_succ hi) with z | z
          · exact hb i z
          · rw [z, hbad, h1]; rfl
      · simp [hin]
        exact ⟨k, rfl, least_some hkl (by rw [hbad]; simp) hb⟩
  · obtain ⟨fl, sd⟩ := p
    cases fl with
    | nx =>
      rw [Nat.zero_add, enum_length] at hp
      obtain ⟨h1, h2, h3⟩ := hp.resolve_right id
      exact ⟨h1, by rw [h2, List.take_length], least_none h3⟩
    | _ => exact hp
end
end SS.K90
end PT_P5
section PT_P6
set_option Elab.async false
set_option linter.all false
set_option maxRecDepth 100000
set_option maxHeartbeats 2000000
namespace SS.K90
open PySem SS
theorem take_self {m : Mem} {xs : List O} : (m ++ xs).take m.length = m := by simp
section
variable {tab : Nat → Option Fn} (H : Tb tab) {n j : Nat} {m : Mem}
include H
theorem made_ok (hn : 2 ≤ n) (hm : m.all nlO = true) {d : D} (hg : gd d = true) (hd : d.depth ≤ 60) : fnsN tab 8 n 4 [d] m = res (wrongN d) d m := by
  obtain ⟨n, rfl⟩ : ∃ k, n = k + 1 := ⟨n - 1, by omega⟩
  refine res_of (call_wpx (t_made_names H) rfl ?_)
  show wpx (evSs _ 8 b_made_names [some d, none, none, none] m) _ _
  unfold b_made_names
  cases d with
  | dict => simp [gd] at hg
  | tuple xs =>
    simp [kOf, wrongN]
    by_cases h24 : 24 < xs.length
    · have h24' : (24 : Int) < xs.length := by omega
      simp [h24, h24']
      exact List.all_eq_true.mp hm
    · have h24' : ¬ (24 : Int) < xs.length := by omega
      have h0 : ∀ m : Mem, newL false [] m = .ok (loc m.length) (m ++ [.lst []]) := fun m => newL_false (Nat.zero_le _)
      simp [h24, h24', h0, x_for, i_enum, walkLT_tuple]
      rw [wpx_seq]
      refine wpx_mono (made_loop H (by omega) hg hd (by omega)) (fun p m' hp => ?_) fun c x m' hx => ?_
      · obtain ⟨fl, sd⟩ := p
        cases fl with
        | nx =>
          obtain ⟨⟨o, o', hs⟩, rfl, hb⟩ := hp
          have hs : sd = _ := hs
          subst hs
          have hc : (m ++ [O.lst xs])[m.length]? = some (.lst xs) := by simp
          simp [bi_tupleC hc]
          exact ⟨_, .inl rfl, by rw [gd_nl hg], by simp, by rw [take_self]; exact hm, hb, rfl, take_self⟩
        | _ => exact hp.elim
      · obtain ⟨rfl, k, ys, rfl, rfl, hb⟩ := hx
        refine ⟨rfl, by simp, by rw [take_self]; exact List.all_eq_true.mp hm, by rw [hb]; exact ⟨k, rfl, rfl, rfl⟩, take_self⟩
  | _ =>
    simp [kOf, K1.d, wrongN]
    exact List.all_eq_true.mp hm
theorem wnames_ok (hn : 2 ≤ n) {d : D} (hg : gd d = true) (hd : d.depth ≤ 60) : fnsN tab 8 n 19 [d] m = .ok (wr (wrongN d)) m := by
  obtain ⟨n, rfl⟩ : ∃ k, n = k + 1 := ⟨n - 1, by omega⟩
  have hnl : nl (wr (wrongN d)) = true := by
    unfold wrongN
    split
    · split
      · simp [wr]
      · cases least _ _ <;> simp [wr]
    · simp [wr]
  refine call_val (t__law_wrong_names H) rfl ?_ hnl
  show wp (evSs _ 8 b__law_wrong_names [some d, none] m) _
  unfold b__law_wrong_names
  have h1 : ∀ (c : Str) (i : D) (m : Mem), guard (2 ≤ line) (.ok (PyData.tuple [.str c, i]) m) = .ok (PyData.tuple [.str c, i]) m := fun c i m => guard_pos _ (by unfold line; omega)
  cases d with
  | dict => simp [gd] at hg
  | tuple xs =>
    have hxl : xs.length ≤ line := by
      rw [gd_tuple, Bool.and_eq_true, decide_eq_true_eq] at hg
      exact hg.1
    by_cases h24 : 24 < xs.length
    · have h24' : (24 : Int) < xs.length := by omega
      simp [kOf, wrongN, h24, h24', wr, K1.d, h1]
    · have h24' : ¬ (24 : Int) < xs.length := by omega
      simp [kOf, h24', K1.d, x_for, i_range]
      rw [range_1 (small1 hxl)]
      simp only [bind_ok, wp_seq]
      refine wp_mono (for_wp (fun k sd m' => m' = m ∧ (∃ o, sd = [some (.tuple xs), o]) ∧ ∀ i, i < k → badNm xs i = false) (fun v m' => m' = m ∧ v = wr (wrongN (.tuple xs))) ⟨rfl, ⟨_, rfl⟩, by omega⟩ (fun _ _ _ _ => trivial) fun k d sd m' hk ⟨hm, ⟨o, hs⟩, hb⟩ => ?_) fun p m' hp => ?_
      · subst hs hm
        obtain ⟨hk', rfl⟩ := range_get hk
        have hx := List.getElem?_eq_getElem hk'
        generalize xs[k] = x at hx
        obtain ⟨g1, g2, g3, g4⟩ := tup_sh hg hd hx
        have hin : cop .isin x (.tuple (xs.take k)) m' = _ := c_in_tuple (by rw [rd_nl (gd_nl g1)]; exact g2) g4
        rw [rd_nl (gd_nl g1)] at hin
        have hbad : badNm xs k = (!isNm x || (xs.take k).any fun z => PyData.eqv z x) := by simp only [badNm, hx]
        have hcut := cut_hi xs k
        generalize (xs.take k).any (fun z => PyData.eqv z x) = q at hin hbad
        have hw : badNm xs k = true → PyData.tuple [.str "BadNames", .int k] = wr (wrongN (.tuple xs)) := fun h => by
          simp [wrongN, h24, least_some hk' h hb, wr]
        unfold l__law_wrong_names_1
        simp [atI_nat, hx, lname_ok H (show 1 ≤ n by omega) g1]
        cases h1' : isNm x
        · simp [K1.d, h1]
          exact hw (by rw [hbad, h1']; rfl)
        · simp [sl_tuple, hcut, atI_nat, hx, hin]
          cases q
          · simp
            intro i hi
            rcases Nat.lt_or_eq_of_le (Nat.le_of_lt_succ hi) with z | z
            · exact hb i z
            · rw [z, hbad, h1']; rfl
          · simp [K1.d, h1]
            exact hw (by rw [hbad]; simp)
      · obtain ⟨fl, sd⟩ := p
        cases fl with
        | nx =>
          rw [range_length] at hp
          obtain ⟨rfl, ⟨o, rfl⟩, hb⟩ := hp
          simp [K1.d, wrongN, h24, least_none hb, wr]
        | ret v =>
          obtain ⟨rfl, rfl⟩ := hp
          exact ⟨rfl, rfl⟩
        | _ => exact hp.elim
  | _ => simp [kOf, K1.d, wrongN, wr, h1]
end
end SS.K90
end PT_P6
section PT_P7
set_option Elab.async false
set_option linter.all false
set_option maxRecDepth 100000
set_option maxHeartbeats 2000000
namespace SS.K90
open PySem SS
/-- wrongs of a good kind: a class, a small datum -/
def okW : Option (Str × D) → Bool
  | none => true
  | some (c, .int _) => gd (.str c)
  | some (c, .tuple [.int _, .int _]) => gd (.str c)
  | _ => false
theorem line2 : 2 ≤ line := by unfold line; omega
theorem hrd_gd {o : Option (Str × D)} {d : D} (ho : okW o = true) (hd : gd d = true) : gd (hrd o d) = true ∧ (hrd o d).depth ≤ max d.depth 1 + 1 := by
  unfold okW at ho
  split at ho
  · have h2 := line2
    refine ⟨?_, ?_⟩
    · show gd (.tuple [.str "told", d]) = true
      rw [gd_tuple, Bool.and_eq_true]
      refine ⟨decide_eq_true h2, ?_⟩
      simp only [gds, hd, Bool.and_true, gd_str]
      exact (Bool.and_eq_true _ _).mpr ⟨by decide +kernel, decide_eq_true (Nat.le_trans (by decide) (show 4 ≤ line by unfold line; omega))⟩
    · simp [hrd, PyData.depth, PyData.depthAll]
      omega
  · have h2 := line2
    refine ⟨?_, ?_⟩
    · simp only [hrd, gd_tuple, gds, ho, gd_int, Bool.and_true, decide_eq_true_eq]
      exact h2
    · simp [hrd, PyData.depth, PyData.depthAll]
  · have h2 := line2
    refine ⟨?_, ?_⟩
    · simp only [hrd, gd_tuple, gds, ho, gd_int, Bool.and_true, Bool.and_eq_true, decide_eq_true_eq]
      exact ⟨h2, trivial, h2⟩
    · simp [hrd, PyData.depth, PyData.depthAll]
      omega
  · cases ho
theorem okW_N (d : D) : okW (wrongN d) = true := by
  have h1 : gd (.str "BadNames") = true := by
    rw [gd_str]
    exact (Bool.and_eq_true _ _).mpr ⟨by decide +kernel, decide_eq_true (Nat.le_trans (by decide) (show 8 ≤ line by unfold line; omega))⟩
  have h2 : gd (.str "TooMany") = true := by
    rw [gd_str]
    exact (Bool.and_eq_true _ _).mpr ⟨by decide +kernel, decide_eq_true (Nat.le_trans (by decide) (show 8 ≤ line by unfold line; omega))⟩
  unfold wrongN
  split
  · split
    · exact h2
    · cases least _ _
      · rfl
      · exact h1
  · exact h1
theorem wr_hrd (o : Option (Str × D)) (d : D) : (match o with | none => PyData.tuple [.str "told", d] | some _ => wr o) = hrd o d := by
  cases o <;> rfl
theorem rd_wr {m : Mem} (o : Option (Str × D)) : rd m (wr o) = wr o := by
  cases o <;> rfl
@[simp high] theorem is_wr {m : Mem} (o : Option (Str × D)) : cop .is (wr o) .none m = .ok o.isNone m := by
  rw [c_is_none, rd_wr]
  cases o <;> rfl
@[simp high] theorem isnot_wr {m : Mem} (o : Option (Str × D)) : cop .isnot (wr o) .none m = .ok o.isSome m := by
  rw [c_isnot_none, rd_wr]
  cases o <;> rfl
section
variable {tab : Nat → Option Fn} (H : Tb tab) {n j : Nat} {m : Mem}
include H
theorem nright_ok (hn : 10 ≤ n) (hm : m.all nlO = true) {d : D} (hg : gd d = true) (hd : d.depth ≤ 3) : fnsN tab 8 n 25 [d] m = .ok (.bool true) m := by
  obtain ⟨n, rfl⟩ : ∃ k, n = k + 1 := ⟨n - 1, by omega⟩
  refine call_val (t__law_names_right H) rfl ?_ rfl
  show wp (evSs _ 8 b__law_names_right [some d, none] m) _
  unfold b__law_names_right
  have hs := hrd_gd (okW_N d) hg
  have hsame := same_ok H (m := m) hs.1 (n := n) (by omega)
  simp [wnames_ok H (show 2 ≤ n by omega) hg (by omega), made_ok H (show 2 ≤ n by omega) hm hg (by omega), is_wr, K1.d]
  cases h : wrongN d with
  | none =>
    rw [h] at hsame
    simp only [hrd] at hsame
    simp [lit2, wr, hrd, hsame]
  | some p =>
    obtain ⟨c, x⟩ := p
    rw [h] at hsame
    simp only [hrd] at hsame
    simp [lit2, wr, hrd, hsame]
end
end SS.K90
end PT_P7
section PT_P8
set_option Elab.async false
set_option linter.all false
set_option maxRecDepth 100000
set_option maxHeartbeats 2000000
namespace SS.K90
open PySem SS
def idxOk (sz : Int) : D → Bool
  | .int i => decide (0 ≤ i) && decide (i < sz)
  | _ => false
def badIx (sz : Int) (xs : List D) (k : Nat) : Bool := match xs[k]? with
  | some x => !idxOk sz x
  | none => false
def wrongR (sz : Int) : D → Option (Str × D)
  | .tuple xs => if 300 < xs.length then some ("TooMany", .int xs.length) else (least xs.length (badIx sz xs)).map fun (k : Nat) => ("BadRow", PyData.int k)
  | _ => some ("BadRow", .int (-1))
theorem gdL (s : String) (h : (PyData.strOk s && decide ((Str.ofString s).length ≤ 100)) = true) : gd (.str s) = true := by
  rw [Bool.and_eq_true, decide_eq_true_eq] at h
  rw [gd_str]
  exact (Bool.and_eq_true _ _).mpr ⟨h.1, decide_eq_true (Nat.le_trans h.2 (by unfold line; omega))⟩
theorem okW_R (sz : Int) (d : D) : okW (wrongR sz d) = true := by
  have h1 : gd (.str "BadRow") = true := gdL "BadRow" (by decide +kernel)
  have h2 : gd (.str "TooMany") = true := gdL "TooMany" (by decide +kernel)
  unfold wrongR
  split
  · split
    · exact h2
    · cases least _ _
      · rfl
      · exact h1
  · exact h1
theorem wr_nl {o : Option (Str × D)} (h : okW o = true) : nl (wr o) = true := by
  unfold okW at h
  split at h
  · simp [wr]
  · simp [wr]
  · simp [wr]
  · cases h
section
variable {tab : Nat → Option Fn} (H : Tb tab) {n j : Nat} {m : Mem}
include H
theorem whole0_ok (hn : 1 ≤ n) {d : D} {h : Int} (hd : nl d = true) : fnsN tab 8 n 0 [d, .int 0, .int h] m = .ok (.bool (idxOk (h + 1) d)) m := by
  obtain ⟨n, rfl⟩ : ∃ k, n = k + 1 := ⟨n - 1, by omega⟩
  refine call_val (t_whole H) rfl ?_ rfl
  show wp (evSs _ 8 b_whole [some d, some (.int 0), some (.int h)] m) _
  unfold b_whole
  cases d with
  | dict => simp [nl] at hd
  | int i =>
    simp [kOf, idxOk, K1.d]
    by_cases h1 : 0 ≤ i
    · simp [h1, show i < h + 1 ↔ i ≤ h by omega]
    · simp [h1]
  | _ => simp [kOf, idxOk, K1.d]
theorem wrow_ok (hn : 2 ≤ n) {d : D} {sz : Int} (hg : gd d = true) : fnsN tab 8 n 16 [.int sz, d] m = .ok (wr (wrongR sz d)) m := by
  obtain ⟨n, rfl⟩ : ∃ k, n = k + 1 := ⟨n - 1, by omega⟩
  refine call_val (t__law_wrong_row H) rfl ?_ (wr_nl (okW_R sz d))
  show wp (evSs _ 8 b__law_wrong_row [some (.int sz), some d, none, none] m) _
  unfold b__law_wrong_row
  cases d with
  | dict => simp [gd] at hg
  | tuple xs =>
    rw [gd_tuple, Bool.and_eq_true, decide_eq_true_eq] at hg
    obtain ⟨hl, hg⟩ := hg
    by_cases h3 : 300 < xs.length
    · have h3' : (300 : Int) < xs.length := by omega
      simp [kOf, K1.d, h3', wrongR, h3, wr, lit2]
    · have h3' : ¬ (300 : Int) < xs.length := by omega
      have hc : evE (fnsN tab 8 n) 8 (.comp true (.v 3) (.nm 3) (.range 0 (.cons (.bi 0 true .len (.cons (.v 1) .nil)) .nil)) (.some (.orr (.nt (.call 0 7 (.cons (.ix (.v 1) (.v 3)) .nil))) (.orr (.cmp .lt (.ix (.v 1) (.v 3)) (.c (.int 0))) (.cmp .ge (.ix (.v 1) (.v 3)) (.v 0))))) [3]) [some (.int sz), some (.tuple xs), none, none] m = .ok (.list (((List.range xs.length).filter (badIx sz xs)).map fun (k : Nat) => PyData.int k)) m := by
        rw [e_comp, i_range]
        simp only [e_v, e_bi, es_cons, es_nil, List.getElem?_cons_zero, List.getElem?_cons_succ, getV_ok, bind_ok, bi_lenT]
        rw [range_1 (small1 hl)]
        simp only [bind_ok]
        rw [comp_range (badIx sz xs) trivial fun k hk => ?_]
        · simp only [bind_ok]
          rw [newL_true]
          rw [List.length_map]
          refine Nat.le_trans (List.length_filter_le _ _) ?_
          rw [List.length_range]
          exact hl
        · have hx := List.getElem?_eq_getElem hk
          generalize xs[k] = x at hx
          have hgx := gds_iff.mp hg x (List.mem_of_getElem? hx)
          have hb : badIx sz xs k = !idxOk sz x := by simp only [badIx, hx]
          rw [hb]
          simp [evC, atI_nat, hx, isw_ok H (show 1 ≤ n by omega) (gd_nl hgx), K1.d]
          cases x with
          | int i =>
            simp [isWh, idxOk]
            by_cases h1 : i < 0
            · simp [h1, show ¬ 0 ≤ i by omega]
            · by_cases h2 : sz ≤ i
              · simp [h1, h2, show ¬ i < sz by omega]
              · simp [h1, h2, show 0 ≤ i by omega, show i < sz by omega]
          | _ => simp [isWh, idxOk]
      simp [kOf, K1.d, h3', hc, nil_new]
      have hf := filter_least (n := xs.length) (p := badIx sz xs)
      simp only [ne_nil_ints]
      cases hq : least xs.length (badIx sz xs) with
      | none =>
        rw [hq] at hf
        have hf : _ = _ := hf
        rw [hf]
        simp [K1.d, wrongR, h3, hq, wr]
      | some k =>
        rw [hq] at hf
        obtain ⟨r, hf⟩ := hf
        rw [hf]
        simp [K1.d, wrongR, h3, hq, wr, lit2]
  | _ => simp [kOf, K1.d, wrongR, wr, lit2]
end
end SS.K90
end PT_P8
section PT_P9
set_option Elab.async false
set_option linter.all false
set_option maxRecDepth 100000
set_option maxHeartbeats 2000000
namespace SS.K90
open PySem SS
/-- names, as a datum -/
abbrev nmD (ns : List Str) : D := .tuple (ns.map PyData.str)
structure Nms (ns : List Str) : Prop where
  len : ns.length ≤ 24
  ok : ∀ x ∈ ns, isName x = true
  nd : ns.Nodup
theorem low_mem {c : Nat} (h : lowB c = true) : 97 ≤ c ∧ c ≤ 122 := by
  unfold lowB strIn at h
  rw [PySem.StrLaws.found_one, decide_eq_true_eq] at h
  have : ∀ x ∈ (Str.ofString "abcdefghijklmnopqrstuvwxyz").cps.toList, 97 ≤ x ∧ x ≤ 122 := by decide +kernel
  exact this c h
theorem name_len {x : Str} (h : isName x = true) : 1 ≤ x.length ∧ x.length ≤ 12 := by
  unfold isName at h
  simp only [Bool.and_eq_true, decide_eq_true_eq] at h
  exact ⟨h.1, h.2.1⟩
theorem name_low {x : Str} (h : isName x = true) {c : Nat} (hc : c ∈ x.cps.toList) : 97 ≤ c ∧ c ≤ 122 := by
  unfold isName at h
  simp only [Bool.and_eq_true, decide_eq_true_eq, List.all_eq_true] at h
  exact low_mem (h.2.2.2 c hc)
theorem strOk_of {x : Str} (h : ∀ c ∈ x.cps.toList, c < 128) : PyData.strOk x = true := by
  unfold PyData.strOk
  rw [Array.all_eq_true_iff_forall_mem]
  intro c hc
  have := h c (Array.mem_toList_iff.mpr hc)
  simp
  omega
theorem name_ok {x : Str} (h : isName x = true) : sOk x := by
  refine ⟨strOk_of fun c hc => ?_, ?_⟩
  · have := name_low h hc
    omega
  · have := name_len h
    unfold line
    omega
theorem strsT_gd {ns : List Str} (h : ∀ x ∈ ns, sOk x) (hl : ns.length ≤ line) : gd (nmD ns) = true ∧ (nmD ns).depth ≤ 1 := by
  constructor
  · rw [gd_tuple, Bool.and_eq_true, decide_eq_true_eq, List.length_map]
    refine ⟨hl, gds_iff.mpr fun d hd => ?_⟩
    obtain ⟨x, hx, rfl⟩ := List.mem_map.mp hd
    exact (h x hx).gd
  · simp only [PyData.depth]
    have : PyData.depthAll (ns.map PyData.str) ≤ 0 := depthAll_le fun d hd => by
      obtain ⟨c, _, rfl⟩ := List.mem_map.mp hd
      simp [PyData.depth]
    omega
theorem Nms.gd {ns : List Str} (h : Nms ns) : gd (nmD ns) = true ∧ (nmD ns).depth ≤ 1 :=
  strsT_gd (fun x hx => name_ok (h.ok x hx)) (by have := h.len; unfold line; omega)
theorem Nms.right {ns : List Str} (h : Nms ns) : wrongN (nmD ns) = none := by
  have h24 := h.len
  simp only [wrongN, List.length_map, show ¬ 24 < ns.length by omega, if_false, Option.map_eq_none_iff]
  refine least_none fun i hi => ?_
  have hx : ns[i]? = some ns[i] := List.getElem?_eq_getElem hi
  have hx' : (ns.map PyData.str)[i]? = some (.str ns[i]) := by rw [List.getElem?_map, hx]; rfl
  simp only [badNm, hx']
  rw [← List.map_take, any_eqv]
  have h1 : isNm (.str ns[i]) = true := h.ok _ (List.getElem_mem hi)
  rw [h1]
  simp only [Bool.not_true, Bool.false_or, List.contains_eq_mem, decide_eq_false_iff_not]
  intro hm
  obtain ⟨j, hj, e⟩ := List.mem_iff_getElem.mp hm
  rw [List.length_take] at hj
  rw [List.getElem_take] at e
  exact List.pairwise_iff_getElem.mp h.nd j i (by omega) hi (by omega) e
/-- a place's name -/
def nameAt (ns : List Str) : D → Str
  | .int i => ns.getD i.toNat Str.empty
  | _ => Str.empty
def rowT (ns : List Str) : D → Str
  | .tuple xs => Txt.join " " (xs.map (nameAt ns))
  | _ => Str.empty
theorem nameAt_ok {ns : List Str} {d : D} (h : idxOk ns.length d = true) : ∃ i : Nat, d = .int i ∧ i < ns.length ∧ ns[i]? = some (nameAt ns d) := by
  unfold idxOk at h
  split at h
  · rename_i i
    rw [Bool.and_eq_true, decide_eq_true_eq, decide_eq_true_eq] at h
    obtain ⟨k, rfl⟩ := Int.eq_ofNat_of_zero_le h.1
    have hk : k < ns.length := by omega
    refine ⟨k, rfl, hk, ?_⟩
    simp [nameAt, List.getElem?_eq_getElem hk]
  · cases h
theorem sum_le {xs : List Str} {b : Nat} (h : ∀ x ∈ xs, x.length ≤ b) : (xs.map (·.length)).sum ≤ b * xs.length := by
  induction xs with
  | nil => simp
  | cons a r ih =>
    rw [List.map_cons, List.sum_cons, List.length_cons, Nat.mul_add, Nat.mul_one]
    have := h a List.mem_cons_self
    have := ih fun x hx => h x (List.mem_cons_of_mem _ hx)
    omega
theorem row_fit {ns : List Str} (h : Nms ns) {xs : List D} (hx : ∀ d ∈ xs, idxOk ns.length d = true) (hl : xs.length ≤ 100000) : ((xs.map (nameAt ns)).map (·.length)).sum + (xs.map (nameAt ns)).length * (Str.ofString " ").length ≤ line := by
  have h1 := sum_le (xs := xs.map (nameAt ns)) (b := 12) fun y hy => by
    obtain ⟨d, hd, rfl⟩ := List.mem_map.mp hy
    obtain ⟨i, _, hi, e⟩ := nameAt_ok (hx d hd)
    exact (name_len (h.ok _ (List.mem_of_getElem? e))).2
  rw [List.length_map] at h1 ⊢
  have : (Str.ofString " ").length = 1 := by decide
  rw [this]
  unfold line
  omega
section
variable {tab : Nat → Option Fn} (H : Tb tab) {n j : Nat} {m : Mem}
/-- the names at a row's places: where the comprehension stands in a frame -/
theorem names_comp {F : Fns} {ns : List Str} {xs : List D} {sd : Env} {a b v : Nat} (ha : sd[a]? = some (some (nmD ns))) (hb : sd[b]? = some (some (.tuple xs))) (hv : v < sd.length) (hav : a ≠ v) (hx : ∀ d ∈ xs, idxOk ns.length d = true) (hl : xs.length ≤ line) : evE F 8 (.comp true (.ix (.v a) (.v v)) (.nm v) (.e (.v b)) .none [v]) sd m = .ok (.list ((xs.map (nameAt ns)).map .str)) m := by
  rw [e_comp, i_e]
  simp only [e_v, hb, getV_ok, bind_ok, walk_tuple']
  rw [comp_pure trivial (fun d => some (.str (nameAt ns d))) (fun d hd => by
    obtain ⟨i, rfl, hi, e⟩ := nameAt_ok (hx d hd)
    have e' : (ns.map PyData.str)[i]? = some (.str (nameAt ns (.int i))) := by rw [List.getElem?_map, e]; rfl
    simp [evC, hv, ha, hav.symm, atI_nat, List.getElem?_set_ne hav.symm, e'])]
  simp only [bind_ok]
  rw [newL_true (Nat.le_trans (List.length_filterMap_le _ _) hl)]
  congr 2
  clear hx hl hb
  induction xs with
  | nil => rfl
  | cons d r ih =>
    rw [List.filterMap_cons, List.map_cons, List.map_cons]
    simp only
    rw [ih]
end
end SS.K90
end PT_P9
section PT_P10
set_option Elab.async false
set_option linter.all false
set_option maxRecDepth 100000
set_option maxHeartbeats 2000000
namespace SS.K90
open PySem SS
section
variable {tab : Nat → Option Fn} (H : Tb tab) {n j : Nat} {m : Mem}
include H
theorem ntext_ok (hn : 1 ≤ n) {ns : List Str} (hN : Nms ns) {xs : List D} (hx : ∀ d ∈ xs, idxOk ns.length d = true) (hl : xs.length ≤ 100000) : fnsN tab 8 n 20 [nmD ns, .tuple xs] m = .ok (.str (rowT ns (.tuple xs))) m := by
  obtain ⟨n, rfl⟩ : ∃ k, n = k + 1 := ⟨n - 1, by omega⟩
  refine call_val (t__law_named_text H) rfl ?_ rfl
  show wp (evSs _ 8 b__law_named_text [some (nmD ns), some (.tuple xs), none] m) _
  unfold b__law_named_text
  have hc := names_comp (F := fnsN tab 8 n) (m := m) (sd := [some (nmD ns), some (.tuple xs), none]) (a := 0) (b := 1) (v := 2) rfl rfl (by simp) (by simp) hx (by unfold line; omega)
  have hj := me_joinL (m := m) (fz := true) (row_fit hN hx hl)
  simp only [xs_cons, x_ret, e_me, e_c, K1.d, bind_ok, rd_str, mt_join, guard_tt, guard_T, es_cons, es_nil, hc, hj, seq_ret, wp_ok]
  exact ⟨rfl, trivial⟩
theorem nrow_bad (hn : 3 ≤ n) (hm : m.all nlO = true) {d r : D} (hg : gd d = true) (hd : d.depth ≤ 60) {e : Str × D} (he : wrongN d = some e) : fnsN tab 8 n 5 [d, r] m = .ex e.1 e.2 m := by
  obtain ⟨n, rfl⟩ : ∃ k, n = k + 1 := ⟨n - 1, by omega⟩
  have ho := okW_N d
  rw [he] at ho
  have hx : nl e.2 = true := by
    obtain ⟨c, x⟩ := e
    unfold okW at ho
    split at ho <;> simp_all
  rw [call_eq (t_named_row H) rfl]
  show trim _ ((evSs _ 8 b_named_row [some d, some r, none, none, none] m).bind _) = _
  unfold b_named_row
  simp [made_ok H (show 2 ≤ n by omega) hm hg hd, he, res]
  have := trim_ex (m := m) (m' := m) (c := e.1) hx (by rw [List.take_length]; exact hm) (Nat.le_refl _)
  rw [List.take_length] at this
  exact this
theorem nrow_ok (hn : 3 ≤ n) (hm : m.all nlO = true) {ns : List Str} (hN : Nms ns) {r : D} (hg : gd r = true) : fnsN tab 8 n 5 [nmD ns, r] m = res (wrongR ns.length r) (.str (rowT ns r)) m := by
  obtain ⟨n, rfl⟩ : ∃ k, n = k + 1 := ⟨n - 1, by omega⟩
  refine res_of (call_wpx (t_named_row H) rfl ?_)
  show wpx (evSs _ 8 b_named_row [some (nmD ns), some r, none, none, none] m) _ _
  unfold b_named_row
  have hmade := made_ok H (show 2 ≤ n by omega) hm hN.gd.1 (by have := hN.gd.2; omega)
  rw [hN.right] at hmade
  have hmade : fnsN tab 8 n 4 [nmD ns] m = .ok (nmD ns) m := hmade
  cases r with
  | dict => simp [gd] at hg
  | tuple xs =>
    rw [gd_tuple, Bool.and_eq_true, decide_eq_true_eq] at hg
    obtain ⟨hl, hg⟩ := hg
    by_cases h3 : 300 < xs.length
    · have h3' : (300 : Int) < xs.length := by omega
      simp [kOf, K1.d, hmade, h3', wrongR, h3]
      exact List.all_eq_true.mp hm
    · have h3' : ¬ (300 : Int) < xs.length := by omega
      simp [kOf, K1.d, hmade, h3', x_for, i_enum, walkLT_tuple]
      rw [wpx_seq]
      refine wpx_mono (for_wpx (fun k sd m' => m' = m ∧ (∃ o o', sd = [some (nmD ns), some (.tuple xs), some (nmD ns), o, o']) ∧ ∀ i, i < k → badIx ns.length xs i = false) (fun _ _ => False) (fun _ _ _ => False) (enumD 0 xs) 0 _ _ (X := fun c x m' => m' = m ∧ ∃ k : Nat, c = "BadRow" ∧ x = .int k ∧ least xs.length (badIx ns.length xs) = some k) ⟨rfl, ⟨_, _, rfl⟩, by omega⟩ (fun _ _ _ _ => trivial) fun k d sd m' hk ⟨hm', ⟨o, o', hs⟩, hb⟩ => ?_) (fun p m' hp => ?_) fun c x m' hx => ?_
      · subst hs hm'
        rw [Nat.zero_add] at hb ⊢
        obtain ⟨x, hx, rfl⟩ := enum_get hk
        have hkl : k < xs.length := (List.getElem?_eq_some_iff.mp hx).1
        have hgx := gds_iff.mp hg x (List.mem_of_getElem? hx)
        have hbad : badIx ns.length xs k = !idxOk ns.length x := by simp only [badIx, hx]
        have hw := whole0_ok H (m := m') (n := n) (by omega) (h := (ns.length : Int) - 1) (gd_nl hgx)
        rw [show (ns.length : Int) - 1 + 1 = ns.length by omega] at hw
        unfold l_named_row_1
        simp [K1.d, hw]
        cases h1 : idxOk ns.length x
        · simp
          exact ⟨k, rfl, least_some hkl (by rw [hbad, h1]; rfl) hb⟩
        · simp
          intro i hi
          rcases Nat.lt_or_eq_of_le (Nat.le_of_lt_succ hi) with z | z
          · exact hb i z
          · rw [z, hbad, h1]; rfl
      · obtain ⟨fl, sd⟩ := p
        cases fl with
        | nx =>
          rw [Nat.zero_add, enum_length] at hp
          obtain ⟨rfl, ⟨o, o', hs⟩, hb⟩ := hp.resolve_right id
          have hs : sd = _ := hs
          subst hs
          have hx : ∀ d ∈ xs, idxOk ns.length d = true := fun d hd => by
            obtain ⟨i, hi⟩ := List.mem_iff_getElem?.mp hd
            have := hb i (List.getElem?_eq_some_iff.mp hi).1
            simp only [badIx, hi] at this
            simpa using this
          have hc := names_comp (F := fnsN tab 8 n) (m := m') (sd := [some (nmD ns), some (.tuple xs), some (nmD ns), o, o']) (a := 2) (b := 1) (v := 4) rfl rfl (by simp) (by simp) hx hl
          have hj := me_joinL (m := m') (fz := true) (row_fit hN hx (by omega))
          simp only [xs_cons, x_ret, e_me, e_c, K1.d, bind_ok, rd_str, mt_join, guard_tt, guard_T, es_cons, es_nil, hc, hj, seq_ret, wpx_ok]
          refine ⟨_, .inl rfl, rfl, Nat.le_refl _, by rw [List.take_length]; exact hm, ?_, rfl, List.take_length⟩
          simp [wrongR, h3, least_none hb]
        | _ => exact hp.elim
      · obtain ⟨rfl, k, rfl, rfl, hq⟩ := hx
        refine ⟨rfl, Nat.le_refl _, by rw [List.take_length]; exact List.all_eq_true.mp hm, ?_, List.take_length⟩
        simp [wrongR, h3, hq]
  | _ =>
    simp [kOf, K1.d, hmade, wrongR]
    exact List.all_eq_true.mp hm
end
end SS.K90
end PT_P10
section PT_P11
set_option Elab.async false
set_option linter.all false
set_option maxRecDepth 100000
set_option maxHeartbeats 2000000
namespace SS.K90
open PySem SS
open TL (tl)
def wrongT : D → Option (Str × D)
  | .str x => if 400000 < x.length then some ("TooMany", .int x.length) else none
  | _ => some ("BadText", .int (-1))
def lines (x : Str) : List Str := Txt.split x "\n"
def words (x : Str) : List Str := Txt.split ((lines x).getD 0 Str.empty) " "
def badW (ns ws : List Str) (k : Nat) : Bool := match ws[k]? with
  | some w => !ns.contains w || decide (299 < k)
  | none => false
def readW (ns : List Str) (x : Str) : Option (Str × D) := if x = "" then none else match least (words x).length (badW ns (words x)) with
  | some k => some ("WrongLine", .tuple [.int 0, .int k])
  | none => if (lines x).length = 1 then none else some ("WrongLine", .tuple [.int 1, .int 0])
def readV (ns : List Str) (x : Str) : D := if x = "" then .tuple [] else .tuple ((words x).map fun w => .int ((ns.idxOf w : Nat) : Int))
def readO (ns : List Str) (d : D) : Option (Str × D) := match wrongT d with
  | some e => some e
  | none => match d with
    | .str x => readW ns x
    | _ => none
def readD (ns : List Str) : D → D
  | .str x => readV ns x
  | _ => .none
theorem okW_T (d : D) : okW (wrongT d) = true := by
  unfold wrongT
  split
  · split
    · exact gdL "TooMany" (by decide +kernel)
    · rfl
  · exact gdL "BadText" (by decide +kernel)
theorem okW_O (ns : List Str) (d : D) : okW (readO ns d) = true := by
  unfold readO
  have h := okW_T d
  cases e : wrongT d with
  | some p => rw [e] at h; exact h
  | none =>
    simp only
    split
    · unfold readW
      split
      · rfl
      · split
        · exact gdL "WrongLine" (by decide +kernel)
        · split
          · rfl
          · exact gdL "WrongLine" (by decide +kernel)
    · rfl
theorem lines_ne (x : Str) : lines x ≠ [] := by
  intro h
  have e := join_split x "\n"
  unfold lines at h
  rw [h] at e
  have : x = "" := by rw [← e]; decide +kernel
  rw [this] at h
  revert h
  decide +kernel
theorem split_sp_ne (x : Str) : Txt.split x " " ≠ [] := by
  intro h
  have e := join_split x " "
  rw [h] at e
  have : x = "" := by rw [← e]; decide +kernel
  rw [this] at h
  revert h
  decide +kernel
theorem lines_one {x : Str} : lines x = [("" : Str)] ↔ x = "" := by
  constructor
  · intro h
    have e := join_split x "\n"
    unfold lines at h
    rw [h] at e
    rw [← e]
    decide +kernel
  · rintro rfl
    decide +kernel
section
variable {x : Str} (h : sOk x)
include h
theorem lines_ok : ∀ y ∈ lines x, sOk y := fun y hy => sOk_sub h (split_part hy).1 (split_part hy).2
theorem line0_ok : ∃ l, (lines x)[0]? = some l ∧ sOk l ∧ l.length ≤ x.length := by
  cases e : lines x with
  | nil => exact absurd e (lines_ne x)
  | cons a r =>
    have ha : a ∈ Txt.split x "\n" := by
      show a ∈ lines x
      rw [e]
      exact List.mem_cons_self
    exact ⟨a, rfl, sOk_sub h (split_part ha).1 (split_part ha).2, (split_part ha).2⟩
theorem words_ok : ∀ y ∈ words x, sOk y := by
  obtain ⟨l, e, hl, _⟩ := line0_ok h
  unfold words
  rw [List.getD_eq_getElem?_getD, e]
  exact fun y hy => sOk_sub hl (split_part hy).1 (split_part hy).2
end
theorem words_len {x : Str} (h : sOk x) : (words x).length ≤ x.length + 1 := by
  obtain ⟨l, e, hl, hll⟩ := line0_ok h
  unfold words
  rw [List.getD_eq_getElem?_getD, e]
  exact Nat.le_trans (split_count tl_sp) (by simpa using hll)
theorem lines_len (x : Str) : (lines x).length ≤ x.length + 1 := split_count tl_nl
section
variable {tab : Nat → Option Fn} (H : Tb tab) {n j : Nat} {m : Mem}
include H
theorem twrong_ok (hn : 1 ≤ n) {d : D} (hg : gd d = true) : fnsN tab 8 n 17 [d, .int 400000] m = .ok (wr (wrongT d)) m := by
  obtain ⟨n, rfl⟩ : ∃ k, n = k + 1 := ⟨n - 1, by omega⟩
  refine call_val (t__law_text_wrong H) rfl ?_ (wr_nl (okW_T d))
  show wp (evSs _ 8 b__law_text_wrong [some d, some (.int 400000)] m) _
  unfold b__law_text_wrong
  cases d with
  | dict => simp [gd] at hg
  | str x =>
    obtain ⟨h1, h2⟩ := sOk_of hg
    by_cases h4 : 400000 < x.length
    · simp [kOf, K1.d, bi_lenS h2, wrongT, h4, show (400000 : Int) < x.length by omega, wr, lit2]
    · simp [kOf, K1.d, bi_lenS h2, wrongT, h4, show ¬ (400000 : Int) < x.length by omega, wr]
  | _ => simp [kOf, K1.d, wrongT, wr, lit2]
theorem alines_ok (hn : 1 ≤ n) {d : D} (hg : gd d = true) (hm : m.all nlO = true) : fnsN tab 8 n 1 [d, .int 400000] m = res (wrongT d) (match d with | .str x => .list ((lines x).map .str) | _ => .none) m := by
  obtain ⟨n, rfl⟩ : ∃ k, n = k + 1 := ⟨n - 1, by omega⟩
  refine res_of (call_wpx (t_all_lines H) rfl ?_)
  show wpx (evSs _ 8 b_all_lines [some d, some (.int 400000)] m) _ _
  unfold b_all_lines
  cases d with
  | dict => simp [gd] at hg
  | str x =>
    obtain ⟨h1, h2⟩ := sOk_of hg
    by_cases h4 : 400000 < x.length
    · simp [kOf, K1.d, bi_lenS h2, wrongT, h4, show (400000 : Int) < x.length by omega]
      exact List.all_eq_true.mp hm
    · have hs : meD true .split (.str x) [.str "\n"] m = .ok (.list ((lines x).map .str)) m := by
        rw [me_split (by decide +kernel) (by unfold line; omega)]
        refine newL_true ?_
        rw [List.length_map]
        have := lines_len x
        unfold lines at this
        unfold line
        omega
      simp [kOf, K1.d, bi_lenS h2, wrongT, h4, show ¬ (400000 : Int) < x.length by omega, hs]
      exact ⟨_, .inl rfl, by rw [nl_list]; exact nlAll_strs _, Nat.le_refl _, by rw [List.take_length]; exact hm, rfl, List.take_length⟩
  | _ =>
    simp [kOf, K1.d, wrongT]
    exact List.all_eq_true.mp hm
theorem wordsof_ok (hn : 1 ≤ n) {x : Str} (h : x.length ≤ 400000) : fnsN tab 8 n 2 [.str x] m = .ok (.list ((Txt.split x " ").map .str)) m := by
  obtain ⟨n, rfl⟩ : ∃ k, n = k + 1 := ⟨n - 1, by omega⟩
  refine call_val (t_words_of H) rfl ?_ (by rw [nl_list]; exact nlAll_strs _)
  show wp (evSs _ 8 b_words_of [some (.str x)] m) _
  unfold b_words_of
  have hs : meD true .split (.str x) [.str " "] m = .ok (.list ((Txt.split x " ").map .str)) m := by
    rw [me_split (by decide +kernel) (by unfold line; omega)]
    refine newL_true ?_
    rw [List.length_map]
    have := split_count (x := x) tl_sp
    unfold line
    omega
  simp [K1.d, hs]
end
end SS.K90
end PT_P11
section PT_P12
set_option Elab.async false
set_option linter.all false
set_option maxRecDepth 100000
set_option maxHeartbeats 2000000
namespace SS.K90
open PySem SS
open TL (tl)
theorem readV_gd {ns : List Str} {x : Str} (h : sOk x) (h4 : x.length ≤ 400000) : gd (readV ns x) = true ∧ (readV ns x).depth ≤ 1 := by
  unfold readV
  split
  · exact ⟨by simp [gd_tuple, gds], by simp [PyData.depth, PyData.depthAll]⟩
  · constructor
    · rw [gd_tuple, Bool.and_eq_true]
      refine ⟨decide_eq_true ?_, gds_iff.mpr fun d hd => ?_⟩
      · have := words_len h
        rw [List.length_map]
        unfold line
        omega
      · obtain ⟨w, _, rfl⟩ := List.mem_map.mp hd
        exact gd_int _
    · simp only [PyData.depth]
      have : PyData.depthAll ((words x).map fun w => PyData.int ((ns.idxOf w : Nat) : Int)) ≤ 0 := depthAll_le fun d hd => by
        obtain ⟨c, _, rfl⟩ := List.mem_map.mp hd
        simp [PyData.depth]
      omega
def idxO (ns : List Str) : D → Option D
  | .str w => some (.int ((ns.idxOf w : Nat) : Int))
  | _ => none
theorem idx_map (ns ws : List Str) : (ws.map PyData.str).filterMap (idxO ns) = ws.map fun w => .int ((ns.idxOf w : Nat) : Int) := by
  induction ws with
  | nil => rfl
  | cons a r ih => rw [List.map_cons, List.filterMap_cons, ih]; rfl
theorem res_nl {o : Option (Str × D)} {d : D} (h : okW o = true) (hd : nl d = true) : nl (hrd o d) = true := by
  unfold okW at h
  split at h
  · simp [hrd, hd]
  · simp [hrd]
  · simp [hrd]
  · cases h
theorem readD_nl (ns : List Str) (d : D) : nl (readD ns d) = true := by
  unfold readD
  split
  · unfold readV
    split
    · simp
    · rw [nl_tuple, nlAll_iff]
      intro d hd
      obtain ⟨w, _, rfl⟩ := List.mem_map.mp hd
      simp
  · simp
section
variable {tab : Nat → Option Fn} (H : Tb tab) {n j : Nat} {m : Mem}
include H
theorem lread_ok (hn : 2 ≤ n) {ns : List Str} (hN : Nms ns) {d : D} (hg : gd d = true) : fnsN tab 8 n 21 [nmD ns, d] m = .ok (hrd (readO ns d) (readD ns d)) m := by
  obtain ⟨n, rfl⟩ : ∃ k, n = k + 1 := ⟨n - 1, by omega⟩
  refine call_val (t__law_read_named_row H) rfl ?_ (res_nl (okW_O ns d) (readD_nl ns d))
  show wp (evSs _ 8 b__law_read_named_row [some (nmD ns), some d, none, none, none, none, none, none] m) _
  unfold b__law_read_named_row
  have hw := twrong_ok H (m := m) (n := n) (by omega) hg
  cases e : wrongT d with
  | some p =>
    obtain ⟨c, y⟩ := p
    rw [e] at hw
    simp [K1.d, hw, wr, readO, e, hrd]
  | none =>
    cases d with
    | str x =>
      rw [e] at hw
      have h4 : x.length ≤ 400000 := by
        rcases Nat.lt_or_ge 400000 x.length with z | z
        · simp [wrongT, z] at e
        · exact z
      have hs := sOk_of hg
      have heq : cop .eq (.str x) (.str "") m = .ok (decide (x = "")) m := c_eq_str hs.1 (by decide +kernel)
      have hO : readO ns (.str x) = readW ns x := by simp only [readO, e]
      by_cases hx : x = ""
      · rw [hO]
        subst hx
        simp [K1.d, hw, wr, heq, lit2, readW, readD, readV, hrd]
      · have hl : meD true .split (.str x) [.str "\n"] m = .ok (.list ((lines x).map .str)) m := by
          rw [me_split (by decide +kernel) (by unfold line; omega)]
          refine newL_true ?_
          rw [List.length_map]
          have := lines_len x
          unfold lines at this
          unfold line
          omega
        obtain ⟨l, e0, hl0, hl1⟩ := line0_ok hs
        have hws : words x = Txt.split l " " := by
          unfold words
          rw [List.getD_eq_getElem?_getD, e0]
          rfl
        have hwl := words_len hs
        have hl2 : meD true .split (.str l) [.str " "] m = .ok (.list ((words x).map .str)) m := by
          rw [me_split (by decide +kernel) (by unfold line; omega), ← hws]
          refine newL_true ?_
          rw [List.length_map]
          unfold line
          omega
        have e0' : atI ((lines x).map PyData.str) 0 = some (.str l) := by
          have := atI_nat (xs := (lines x).map PyData.str) (i := 0)
          rw [List.getElem?_map, e0] at this
          exact this
        have hc1 : evE (fnsN tab 8 n) 8 (.comp true (.v 7) (.nm 7) (.range 0 (.cons (.bi 0 true .len (.cons (.v 4) .nil)) .nil)) (.some (.orr (.cmp .notin (.ix (.v 4) (.v 7)) (.v 0)) (.cmp .gt (.v 7) (.c (.int 299))))) [7]) [some (nmD ns), some (.str x), some .none, some (.list ((lines x).map .str)), some (.list ((words x).map .str)), none, none, none] m = .ok (.list (((List.range (words x).length).filter (badW ns (words x))).map fun (k : Nat) => PyData.int k)) m := by
          rw [e_comp, i_range]
          simp only [e_v, e_bi, es_cons, es_nil, List.getElem?_cons_zero, List.getElem?_cons_succ, getV_ok, bind_ok, bi_lenL, List.length_map]
          rw [range_1 (small1 (by unfold line; omega))]
          simp only [bind_ok]
          rw [comp_range (badW ns (words x)) trivial fun k hk => ?_]
          · simp only [bind_ok]
            rw [newL_true]
            rw [List.length_map]
            refine Nat.le_trans (List.length_filter_le _ _) ?_
            rw [List.length_range]
            unfold line
            omega
          · have hy := List.getElem?_eq_getElem hk
            generalize (words x)[k] = w at hy
            have hwok := words_ok hs w (List.mem_of_getElem? hy)
            have hb : badW ns (words x) k = (!ns.contains w || decide (299 < k)) := by simp only [badW, hy]
            have hin : cop .notin (.str w) (nmD ns) m = .ok (!ns.contains w) m := by
              have q : cop .isin (.str w) (nmD ns) m = _ := c_in_tuple (by rw [rd_str, sh_str]; exact hwok.1) (strs_sh fun y hy => name_ok (hN.ok y hy)).2
              rw [rd_str, any_eqv] at q
              show (cop .isin (.str w) (nmD ns) m).bind _ = _
              rw [q]
              rfl
            have hy' : ((words x).map PyData.str)[k]? = some (.str w) := by rw [List.getElem?_map, hy]; rfl
            rw [hb]
            generalize ns.contains w = q at hin
            simp [evC, K1.d, atI_nat, hy', hin, -List.getElem?_map]
            cases q
            · simp
            · by_cases h9 : 299 < k
              · simp [h9, show (299 : Int) < k by omega]
              · simp [h9, show ¬ (299 : Int) < k by omega]
        have hf := filter_least (n := (words x).length) (p := badW ns (words x))
        have hne := ne_nil_ints (m := m) ((List.range (words x).length).filter (badW ns (words x)))
        simp [K1.d, hw, wr, heq, hx, hl, e0', hl2, hc1, nil_new, -List.getElem?_map]
        cases hq : least (words x).length (badW ns (words x)) with
        | some k =>
          rw [hq] at hf
          obtain ⟨r, hf⟩ := hf
          rw [hf] at hne ⊢
          rw [List.map_cons] at hne
          simp [hne, K1.d, lit2, hO, readW, hx, hq, hrd]
        | none =>
          rw [hq] at hf
          have hf : _ = _ := hf
          rw [hf] at hne ⊢
          rw [List.map_nil] at hne
          have hmem : ∀ w ∈ words x, w ∈ ns := fun w hw => by
            obtain ⟨i, hi⟩ := List.mem_iff_getElem?.mp hw
            have := least_of hq i (List.getElem?_eq_some_iff.mp hi).1
            simp only [badW, hi, Bool.or_eq_false_iff, Bool.not_eq_false', List.contains_eq_mem, decide_eq_true_eq] at this
            exact this.1
          have hc2 : evE (fnsN tab 8 n) 8 (.comp true (.me true .indexT (.v 0) (.cons (.v 6) .nil)) (.nm 6) (.e (.v 4)) .none [6]) [some (nmD ns), some (.str x), some .none, some (.list ((lines x).map .str)), some (.list ((words x).map .str)), some (.list []), none, none] m = .ok (.list ((words x).map fun w => .int ((ns.idxOf w : Nat) : Int))) m := by
            rw [e_comp, i_e]
            simp only [e_v, List.getElem?_cons_zero, List.getElem?_cons_succ, getV_ok, bind_ok, walk_list']
            rw [comp_pure trivial (idxO ns) (fun d hd => by
              obtain ⟨w, hw, rfl⟩ := List.mem_map.mp hd
              have hwok := words_ok hs w hw
              have q := me_indexT (m := m) (fz := true) (xs := ns.map PyData.str) (d := .str w) ⟨by rw [rd_str, sh_str]; exact hwok.1, (strs_sh fun y hy => name_ok (hN.ok y hy)).2⟩
              rw [rd_str, firstAt_strs (hmem w hw)] at q
              simp [evC, q, idxO])]
            simp only [bind_ok]
            rw [newL_true (by
              refine Nat.le_trans (List.length_filterMap_le _ _) ?_
              rw [List.length_map]
              unfold line
              omega)]
            rw [idx_map]
          simp [hne, K1.d]
          by_cases h1 : (lines x).length = 1
          · simp [h1, hc2, lit2, hO, readW, hx, hq, hrd, readD, readV]
          · simp [h1, show ¬ ((lines x).length : Int) = 1 by omega, lit2, hO, readW, hx, hq, hrd]
    | _ => simp [wrongT] at e
end
end SS.K90
end PT_P12
section PT_P13
set_option Elab.async false
set_option linter.all false
set_option maxRecDepth 100000
set_option maxHeartbeats 2000000
namespace SS.K90
open PySem SS
open TL (tl)
theorem lines_len1 {x : Str} (h : (lines x).length = 1) : lines x = [x] := by
  have e := join_split x "\n"
  have h' : (Txt.split x "\n").length = 1 := h
  unfold lines
  obtain ⟨a, ha⟩ := List.length_eq_one_iff.mp h'
  rw [ha] at e ⊢
  have e : tl (Txt.join "\n" [a]) = tl x := by rw [e]
  rw [join_tl] at e
  rw [TL.ext_tl e]
/-- the indices found -/
def idxs (ns ws : List Str) : List D := ws.map fun w => .int ((ns.idxOf w : Nat) : Int)
section
variable {tab : Nat → Option Fn} (H : Tb tab) {n j : Nat} {m : Mem}
include H
theorem read_bad (hn : 3 ≤ n) (hm : m.all nlO = true) {d r : D} (hg : gd d = true) (hd : d.depth ≤ 60) {e : Str × D} (he : wrongN d = some e) : fnsN tab 8 n 6 [d, r] m = .ex e.1 e.2 m := by
  obtain ⟨n, rfl⟩ : ∃ k, n = k + 1 := ⟨n - 1, by omega⟩
  have ho := okW_N d
  rw [he] at ho
  have hx : nl e.2 = true := by
    obtain ⟨c, x⟩ := e
    unfold okW at ho
    split at ho <;> simp_all
  rw [call_eq (t_read_named_row H) rfl]
  show trim _ ((evSs _ 8 b_read_named_row [some d, some r, none, none, none, none, none, none, none] m).bind _) = _
  unfold b_read_named_row
  simp [made_ok H (show 2 ≤ n by omega) hm hg hd, he, res]
  have := trim_ex (m := m) (m' := m) (c := e.1) hx (by rw [List.take_length]; exact hm) (Nat.le_refl _)
  rw [List.take_length] at this
  exact this
theorem read_loop (hn : 1 ≤ n) {ns : List Str} (hN : Nms ns) {x : Str} (hs : sOk x) (hwl : (words x).length < line) {A B : D} :
    wpx (forM (Walk.stays ⟨enumD 0 ((words x).map PyData.str), none⟩) (fun d sd m => (opt (asg (.tup (.cons (.nm 6) (.cons (.nm 7) .nil))) d sd) m).bind fun sd' m => evSs (fnsN tab 8 n) 8 l_read_named_row_1 sd' m) (enumD 0 ((words x).map PyData.str)) [some (nmD ns), some A, some (nmD ns), some B, some (loc m.length), some (loc (m.length + 1)), none, none, none] (m ++ [.dK (kvN 0 ns), .lst []]))
      (fun p m' => match p.1 with
        | .nx => (∃ o o', p.2 = [some (nmD ns), some A, some (nmD ns), some B, some (loc m.length), some (loc (m.length + 1)), o, o', none]) ∧ m' = m ++ [.dK (kvN 0 ns), .lst (idxs ns (words x))] ∧ least (words x).length (badW ns (words x)) = none
        | _ => False) fun c y m' => c = "WrongLine" ∧ (∃ (k : Nat) (ys : List D), m' = m ++ [.dK (kvN 0 ns), .lst ys] ∧ y = .tuple [.int 0, .int k] ∧ least (words x).length (badW ns (words x)) = some k) := by
  refine wpx_mono (for_wpx (fun k sd m' => (∃ o o', sd = [some (nmD ns), some A, some (nmD ns), some B, some (loc m.length), some (loc (m.length + 1)), o, o', none]) ∧ m' = m ++ [.dK (kvN 0 ns), .lst (idxs ns ((words x).take k))] ∧ ∀ i, i < k → badW ns (words x) i = false) (fun _ _ => False) (fun _ _ _ => False) (enumD 0 ((words x).map PyData.str)) 0 _ _ ⟨⟨_, _, rfl⟩, by simp [idxs], by omega⟩ (fun _ _ _ _ => trivial) fun k d sd m' hk ⟨⟨o, o', he⟩, hm, hb⟩ => ?_) (fun p m' hp => ?_) fun c x m' hx => hx
  · subst he hm
    rw [Nat.zero_add] at hb ⊢
    obtain ⟨d, hd, rfl⟩ := enum_get hk
    rw [List.getElem?_map, Option.map_eq_some_iff] at hd
    obtain ⟨w, hw, rfl⟩ := hd
    have hkl : k < (words x).length := (List.getElem?_eq_some_iff.mp hw).1
    have hc1 : (m ++ [O.dK (kvN 0 ns), O.lst (idxs ns ((words x).take k))])[m.length]? = some (.dK (kvN 0 ns)) := by simp
    have hc2 : (m ++ [O.dK (kvN 0 ns), O.lst (idxs ns ((words x).take k))])[m.length + 1]? = some (.lst (idxs ns ((words x).take k))) := by
      rw [List.getElem?_append_right (by omega)]
      simp
    have hbad : badW ns (words x) k = (!ns.contains w || decide (299 < k)) := by simp only [badW, hw]
    have hk300 : k ≤ 300 := by
      rcases Nat.lt_or_ge 300 k with z | z
      · have z2 := hb 300 z
        have h3 : (words x)[300]? = some (words x)[300] := List.getElem?_eq_getElem (by omega)
        simp only [badW, h3] at z2
        simp at z2
      · exact z
    have hin := notin_dict hc1 w
    have hix := ix_dk hc1 w
    rw [getK_kvN] at hin hix
    rw [Nat.zero_add] at hin hix
    have happ := app_cell (fz := true) hc2 (by unfold idxs; rw [List.length_map, List.length_take]; omega) (.int ((ns.idxOf w : Nat) : Int))
    have hrd : rd (m ++ [O.dK (kvN 0 ns), O.lst (idxs ns ((words x).take k))]) (loc (m.length + 1)) = .list (idxs ns ((words x).take k)) := rd_cell hc2
    unfold l_read_named_row_1
    by_cases h3 : k = 300
    · subst h3
      simp [K1.d, lit2]
      exact ⟨300, rfl, least_some hkl (by rw [hbad]; simp) hb⟩
    · by_cases h4 : w ∈ ns
      · simp [K1.d, show ¬ (k : Int) = 300 by omega, hin, hix, h4, hrd, happ]
        refine ⟨?_, fun i hi => ?_⟩
        · rw [List.take_add_one, hw]
          simp [idxs]
        · rcases Nat.lt_or_eq_of_le (Nat.le_of_lt_succ hi) with z | z
          · exact hb i z
          · rw [z, hbad]
            simp [h4]
            omega
      · simp [K1.d, show ¬ (k : Int) = 300 by omega, hin, h4, lit2]
        exact ⟨k, rfl, least_some hkl (by rw [hbad]; simp [h4]) hb⟩
  · obtain ⟨fl, sd⟩ := p
    cases fl with
    | nx =>
      rw [Nat.zero_add, enum_length, List.length_map] at hp
      obtain ⟨h1, h2, h3⟩ := hp.resolve_right id
      exact ⟨h1, by rw [h2, List.take_length], least_none h3⟩
    | _ => exact hp
end
end SS.K90
end PT_P13
section PT_P14
set_option Elab.async false
set_option linter.all false
set_option maxRecDepth 100000
set_option maxHeartbeats 2000000
namespace SS.K90
open PySem SS
open TL (tl)
theorem take_app {m : Mem} {xs : List O} : (m ++ xs).take m.length = m := by simp
section
variable {tab : Nat → Option Fn} (H : Tb tab) {n j : Nat} {m : Mem}
include H
theorem read_ok (hn : 3 ≤ n) (hm : m.all nlO = true) {ns : List Str} (hN : Nms ns) {d : D} (hg : gd d = true) : fnsN tab 8 n 6 [nmD ns, d] m = res (readO ns d) (readD ns d) m := by
  obtain ⟨n, rfl⟩ : ∃ k, n = k + 1 := ⟨n - 1, by omega⟩
  refine res_of (call_wpx (t_read_named_row H) rfl ?_)
  show wpx (evSs _ 8 b_read_named_row [some (nmD ns), some d, none, none, none, none, none, none, none] m) _ _
  unfold b_read_named_row
  have hmade := made_ok H (show 2 ≤ n by omega) hm hN.gd.1 (by have := hN.gd.2; omega)
  rw [hN.right] at hmade
  have hmade : fnsN tab 8 n 4 [nmD ns] m = .ok (nmD ns) m := hmade
  have hal := alines_ok H (n := n) (by omega) hg hm
  have hm' := List.all_eq_true.mp hm
  cases e : wrongT d with
  | some p =>
    have ho := okW_T d
    have hO : readO ns d = some p := by simp only [readO, e]
    obtain ⟨c, y⟩ := p
    rw [e] at hal ho
    have hy : nl y = true := by
      unfold okW at ho
      split at ho <;> simp_all
    simp [K1.d, hmade, hal, res, hO, hy]
    exact hm'
  | none =>
    cases d with
    | str x =>
      rw [e] at hal
      have hal : fnsN tab 8 n 1 [.str x, .int 400000] m = .ok (.list ((lines x).map .str)) m := hal
      have h4 : x.length ≤ 400000 := by
        rcases Nat.lt_or_ge 400000 x.length with z | z
        · simp [wrongT, z] at e
        · exact z
      have hs := sOk_of hg
      have hO : readO ns (.str x) = readW ns x := by simp only [readO, e]
      have h0 : ∀ m : Mem, newL true [PyData.str ""] m = .ok (.list [PyData.str ""]) m := fun m => newL_true (by simp [line])
      have heq : ∀ m : Mem, cop .eq (.list ((lines x).map .str)) (.list [PyData.str ""]) m = .ok (decide (x = "")) m := fun m => by
        have q := eqv_strs (lines x) [("" : Str)]
        rw [cop_eq, rd_list, rd_list, guard_pos _ ⟨(strs_sh (lines_ok hs)).1, by decide +kernel⟩]
        rw [show [PyData.str ""] = [("" : Str)].map PyData.str from rfl, q]
        congr 1
        exact decide_eq_decide.mpr lines_one
      by_cases hx : x = ""
      · subst hx
        simp [K1.d, hmade, hal, h0, heq, hO, readW, readD, readV]
        exact ⟨_, .inl rfl, by simp, Nat.le_refl _, by rw [List.take_length]; exact hm, rfl, List.take_length⟩
      · obtain ⟨l, e0, hl0, hl1⟩ := line0_ok hs
        have hws : words x = Txt.split l " " := by
          unfold words
          rw [List.getD_eq_getElem?_getD, e0]
          rfl
        have hwl := words_len hs
        have e0' : atI ((lines x).map PyData.str) 0 = some (.str l) := by
          have := atI_nat (xs := (lines x).map PyData.str) (i := 0)
          rw [List.getElem?_map, e0] at this
          exact this
        have hwo : ∀ m : Mem, fnsN tab 8 n 2 [.str l] m = .ok (.list ((words x).map .str)) m := fun m => by
          rw [hws]
          exact wordsof_ok H (by omega) (by omega)
        have hdc : evE (fnsN tab 8 n) 8 (.dcomp (.v 7) (.v 8) (.tup (.cons (.nm 8) (.cons (.nm 7) .nil))) (.enum 0 (.v 2)) [8, 7]) [some (nmD ns), some (.str x), some (nmD ns), some (.list ((lines x).map .str)), none, none, none, none, none] m = .ok (loc m.length) (m ++ [.dK (kvN 0 ns)]) := by
          rw [e_dcomp, i_enum]
          simp only [e_v, List.getElem?_cons_zero, List.getElem?_cons_succ, getV_ok, bind_ok, walkLT_tuple]
          rw [comp_pure trivial enO (fun d hd => by
            obtain ⟨k, hk⟩ := List.mem_iff_getElem?.mp hd
            obtain ⟨y, hy, rfl⟩ := enum_get hk
            rw [List.getElem?_map, Option.map_eq_some_iff] at hy
            obtain ⟨w, hw, rfl⟩ := hy
            simp [keyOf, enO])]
          simp only [bind_ok]
          rw [en_map, kvN_set hN.nd]
          refine guard_pos _ ?_
          rw [kvN_length]
          have := hN.len
          unfold line
          omega
        simp [K1.d, hmade, hal, h0, heq, hx, hdc, nil_newF, x_for, i_enum, e0', hwo, walkLT_list, -List.getElem?_map]
        rw [wpx_seq]
        refine wpx_mono (read_loop H (by omega) hN hs (by unfold line; omega) (A := .str x) (B := .list ((lines x).map .str))) (fun p m' hp => ?_) fun c y m' hy => ?_
        · obtain ⟨fl, sd⟩ := p
          cases fl with
          | nx =>
            obtain ⟨⟨o, o', hsd⟩, rfl, hq⟩ := hp
            have hsd : sd = _ := hsd
            subst hsd
            have hc2 : (m ++ [O.dK (kvN 0 ns), O.lst (idxs ns (words x))])[m.length + 1]? = some (.lst (idxs ns (words x))) := by
              rw [List.getElem?_append_right (by omega)]
              simp
            have hnl : nl (PyData.tuple (idxs ns (words x))) = true := by
              rw [nl_tuple, nlAll_iff]
              intro d hd
              obtain ⟨w, _, rfl⟩ := List.mem_map.mp hd
              simp
            by_cases h1 : (lines x).length = 1
            · have h1' : ¬ (1 : Int) < (lines x).length := by omega
              simp [K1.d, h1', bi_tupleC hc2]
              exact ⟨_, .inl rfl, hnl, by simp, by rw [take_app]; exact hm, by simp [hO, readW, hx, hq, h1], by simp [readD, readV, hx, idxs], take_app⟩
            · have h1' : (1 : Int) < (lines x).length := by
                have := List.length_pos_iff.mpr (lines_ne x)
                omega
              simp [K1.d, h1', lit2, hO, readW, hx, hq, h1]
              exact hm'
          | _ => exact hp.elim
        · obtain ⟨rfl, k, ys, rfl, rfl, hq⟩ := hy
          refine ⟨by simp, by simp, by rw [take_app]; exact hm', by simp [hO, readW, hx, hq], take_app⟩
    | _ => simp [wrongT] at e
end
end SS.K90
end PT_P14
section PT_P15
set_option Elab.async false
set_option linter.all false
set_option maxRecDepth 100000
set_option maxHeartbeats 2000000
namespace SS.K90
open PySem SS
open TL (tl)
theorem readO_some {ns : List Str} {d : D} {c : Str} {y : D} (h : readO ns d = some (c, y)) : c ≠ "told" := by
  have h1 : ("BadText" : Str) ≠ "told" := by decide +kernel
  have h2 : ("TooMany" : Str) ≠ "told" := by decide +kernel
  have h3 : ("WrongLine" : Str) ≠ "told" := by decide +kernel
  unfold readO at h
  cases e : wrongT d with
  | some p =>
    rw [e] at h
    cases h
    unfold wrongT at e
    split at e
    · split at e
      · cases e; exact h2
      · cases e
    · cases e; exact h1
  | none =>
    rw [e] at h
    simp only at h
    split at h
    · unfold readW at h
      split at h
      · cases h
      · split at h
        · cases h; exact h3
        · split at h
          · cases h
          · cases h; exact h3
    · cases h
theorem wrongT_none {x : Str} (h : wrongT (.str x) = none) : x.length ≤ 400000 := by
  rcases Nat.lt_or_ge 400000 x.length with z | z
  · simp [wrongT, z] at h
  · exact z
theorem nameAt_idx {ns : List Str} {w : Str} (h : w ∈ ns) : nameAt ns (.int ((ns.idxOf w : Nat) : Int)) = w := by
  have hl : ns.idxOf w < ns.length := List.idxOf_lt_length_of_mem h
  simp [nameAt, List.getElem?_eq_getElem hl]
theorem row_back {ns : List Str} {x : Str} (hO : readO ns (.str x) = none) : wrongT (.str x) = none ∧ wrongR ns.length (readV ns x) = none ∧ rowT ns (readV ns x) = x := by
  unfold readO at hO
  cases e : wrongT (.str x) with
  | some p => rw [e] at hO; cases hO
  | none =>
    rw [e] at hO
    refine ⟨rfl, ?_⟩
    have hO : readW ns x = none := hO
    unfold readW at hO
    by_cases hx : x = ""
    · subst hx
      refine ⟨by simp [readV, wrongR, least], ?_⟩
      simp only [readV, if_true, rowT, List.map_nil]
      decide +kernel
    · rw [if_neg hx] at hO
      cases hq : least (words x).length (badW ns (words x)) with
      | some k => rw [hq] at hO; cases hO
      | none =>
        rw [hq] at hO
        have h1 : (lines x).length = 1 := by
          by_cases h1 : (lines x).length = 1
          · exact h1
          · simp [h1] at hO
        have hb := least_of hq
        have hmem : ∀ w ∈ words x, w ∈ ns := fun w hw => by
          obtain ⟨i, hi⟩ := List.mem_iff_getElem?.mp hw
          have := hb i (List.getElem?_eq_some_iff.mp hi).1
          simp only [badW, hi, Bool.or_eq_false_iff, Bool.not_eq_false', List.contains_eq_mem, decide_eq_true_eq] at this
          exact this.1
        have h300 : (words x).length ≤ 300 := by
          rcases Nat.lt_or_ge 300 (words x).length with z | z
          · have z2 := hb 300 z
            have h3 : (words x)[300]? = some (words x)[300] := List.getElem?_eq_getElem (by omega)
            simp only [badW, h3] at z2
            simp at z2
          · exact z
        simp only [readV, if_neg hx]
        constructor
        · have hq : least (words x).length (badIx ns.length ((words x).map fun w => .int ((ns.idxOf w : Nat) : Int))) = none := least_none fun i hi => by
            have hi' := List.getElem?_eq_getElem hi
            have hm := hmem _ (List.getElem_mem hi)
            simp only [badIx, List.getElem?_map, hi', Option.map_some, idxOk, Bool.not_eq_false', Bool.and_eq_true, decide_eq_true_eq]
            have := List.idxOf_lt_length_of_mem hm
            omega
          simp only [wrongR, List.length_map, show ¬ 300 < (words x).length by omega, if_false, hq]
          rfl
        · have e1 : ((words x).map fun w => PyData.int ((ns.idxOf w : Nat) : Int)).map (nameAt ns) = words x := by
            rw [List.map_map]
            have : ∀ ws : List Str, (∀ w ∈ ws, w ∈ ns) → ws.map (nameAt ns ∘ fun w => PyData.int ((ns.idxOf w : Nat) : Int)) = ws := fun ws h => by
              induction ws with
              | nil => rfl
              | cons a r ih =>
                rw [List.map_cons, ih fun w hw => h w (List.mem_cons_of_mem _ hw)]
                show nameAt ns (.int ((ns.idxOf a : Nat) : Int)) :: r = a :: r
                rw [nameAt_idx (h a List.mem_cons_self)]
            exact this _ hmem
          show Txt.join " " _ = x
          rw [e1]
          unfold words
          rw [lines_len1 h1]
          exact join_split x " "
theorem told_gd {x : Str} (h : sOk x) : gd (.tuple [.str "told", .str x]) = true ∧ (PyData.tuple [.str "told", .str x]).depth ≤ 1 := by
  have := hrd_gd (o := none) rfl h.gd
  refine ⟨this.1, ?_⟩
  simp [PyData.depth, PyData.depthAll]
section
variable {tab : Nat → Option Fn} (H : Tb tab) {n j : Nat} {m : Mem}
include H
theorem tright_ok (hn : 8 ≤ n) (hm : m.all nlO = true) {ns : List Str} (hN : Nms ns) {x : Str} (hs : sOk x) : fnsN tab 8 n 27 [nmD ns, .str x] m = .ok (.bool true) m := by
  obtain ⟨n, rfl⟩ : ∃ k, n = k + 1 := ⟨n - 1, by omega⟩
  refine call_val (t__law_text_right H) rfl ?_ rfl
  show wp (evSs _ 8 b__law_text_right [some (nmD ns), some (.str x), none] m) _
  unfold b__law_text_right
  have hr := read_ok H (show 3 ≤ n by omega) hm hN hs.gd
  have hl := lread_ok H (m := m) (show 2 ≤ n by omega) hN hs.gd
  cases e : readO ns (.str x) with
  | some p =>
    obtain ⟨c, y⟩ := p
    have hc := readO_some e
    have ho := okW_O ns (.str x)
    rw [e] at hr hl ho
    have hA := hrd_gd (d := .none) ho rfl
    have hsame := same_ok H (m := m) hA.1 (n := n) (by have := hA.2; simp [PyData.depth] at this; omega)
    simp only [hrd, res] at hl hr hsame
    have hc1 : PyData.strOk c = true := by
      unfold okW at ho
      split at ho
      · rename_i h; cases h
      · rename_i h; cases h; exact (sOk_of ho).1
      · rename_i h; cases h; exact (sOk_of ho).1
      · cases ho
    have hne : cop .ne (.str c) (.str "told") m = .ok true m := by
      rw [c_ne_str hc1 (by decide +kernel)]
      simp [hc]
    simp [hl, hr, hsame, K1.d, hne]
  | none =>
    obtain ⟨h1, h2, h3⟩ := row_back e
    rw [e] at hr hl
    have hV := readV_gd (ns := ns) hs (wrongT_none h1)
    have hA := hrd_gd (o := none) rfl hV.1
    have hsame := same_ok H (m := m) hA.1 (n := n) (by have := hA.2; omega)
    have hT := told_gd hs
    have hsame2 := same_ok H (m := m) hT.1 (n := n) (by have := hT.2; omega)
    have hrow := nrow_ok H (show 3 ≤ n by omega) hm hN hV.1
    rw [h2, h3] at hrow
    simp only [hrd, res, readD] at hl hr hsame hrow
    have hne : cop .ne (.str "told") (.str "told") m = .ok false m := by
      rw [c_ne_str (by decide +kernel) (by decide +kernel)]
      simp
    simp [hl, hr, hsame, K1.d, hne, hrow, hsame2]
end
end SS.K90
end PT_P15
section PT_P16
set_option Elab.async false
set_option linter.all false
set_option maxRecDepth 100000
set_option maxHeartbeats 2000000
namespace SS.K90
open PySem SS
theorem intsZ_sh (ks : List Int) : sh (.list (ks.map PyData.int)) = true := by
  show (PyData.canLay0 (.list _) && decide ((PyData.list _).depth ≤ 64)) = true
  rw [Bool.and_eq_true]
  constructor
  · simp only [PyData.canLay0]
    induction ks with
    | nil => rfl
    | cons a r ih => simp only [List.map_cons, PyData.canLayAll0, PyData.canLay0, ih, Bool.and_self]
  · rw [decide_eq_true_eq]
    simp only [PyData.depth]
    have : PyData.depthAll (ks.map PyData.int) ≤ 0 := depthAll_le fun d hd => by
      obtain ⟨c, _, rfl⟩ := List.mem_map.mp hd
      simp [PyData.depth]
    omega
theorem ne_nilZ {m : Mem} (ks : List Int) : cop .ne (.list (ks.map PyData.int)) (.list []) m = .ok (!ks.isEmpty) m := by
  rw [cop_ne, rd_list, rd_list, guard_pos _ ⟨intsZ_sh ks, sh_nil⟩, eqv_nil]
  cases ks <;> rfl
theorem trim_new {m m' : Mem} {k : Nat} {o : O} (ht : m'.take m.length = m) (hm : m.all nlO = true) (hl : m.length ≤ m'.length) (hk : m.length ≤ k) (ho : m'[k]? = some o) (hn : nlO o = true) : trim m.length (.ok (loc k) m') = .ok (loc m.length) (m ++ [o]) := by
  have h1 : nl (loc k) = false := by simp [loc, nl]
  unfold trim
  simp only [ht, hm, decide_eq_true hl, Bool.and_self, if_true, h1, Bool.false_eq_true, if_false, locOf_loc, if_neg (show ¬ k < m.length by omega), ho, hn]
section
variable {tab : Nat → Option Fn} (H : Tb tab) {n j : Nat} {m : Mem}
include H
theorem pool_ok (hn : 1 ≤ n) (hm : m.all nlO = true) {ns : List Int} {k : Nat} (hk : k ≤ 4) : ∃ a b : Int, fnsN tab 8 n 13 [.list (ns.map PyData.int), .int k] m = .ok (loc m.length) (m ++ [.lst [.int a, .int b]]) ∧ 0 ≤ a ∧ 0 ≤ b ∧ b < 2147483647 := by
  obtain ⟨n, rfl⟩ : ∃ k, n = k + 1 := ⟨n - 1, by omega⟩
  rw [call_eq (t__law_pool H) rfl]
  show ∃ a b, trim _ ((evSs _ 8 b__law_pool [some (.list (ns.map PyData.int)), some (.int k), none, none, none] m).bind _) = _ ∧ _
  have hb : wp (evSs (fnsN tab 8 n) 8 b__law_pool [some (.list (ns.map PyData.int)), some (.int k), none, none, none] m) fun p m' => ∃ a b : Int, p.1 = .ret (loc m.length) ∧ m' = m ++ [.lst [.int a, .int b]] ∧ 0 ≤ a ∧ 0 ≤ b ∧ b < 2147483647 := by
    unfold b__law_pool
    rw [xs_cons, x_set]
    simp only [e_c, K1.d, bind_ok, seq_nx, List.set_cons_succ, List.set_cons_zero]
    rw [xs_cons, wp_seq]
    have hc : wp (evS (fnsN tab 8 n) 8 (.ifs (.cmp .lt (.v 1) (.bi 0 true .len (.cons (.v 0) .nil))) (.cons (.set 2 (.ix (.v 0) (.v 1))) .nil) (.cons (.ifs (.cmp .ne (.v 0) (.lst true .nil)) (.cons (.set 2 (.ix (.v 0) (.c (.int 0)))) .nil) .nil) .nil)) [some (.list (ns.map PyData.int)), some (.int k), some (.int 0), none, none] m) fun p m' => p.1 = .nx ∧ m' = m ∧ ∃ c : Int, p.2 = [some (.list (ns.map PyData.int)), some (.int k), some (.int c), none, none] := by
      by_cases h1 : k < ns.length
      · have h2 : ns[k]? = some ns[k] := List.getElem?_eq_getElem h1
        simp [h1, atI_nat, h2]
      · cases ns with
        | nil =>
          have q := ne_nilZ (m := m) []
          rw [List.map_nil] at q
          have h1' : ¬ (k : Int) < 0 := by omega
          simp [h1', nil_new, q]
        | cons a r =>
          have q := ne_nilZ (m := m) (a :: r)
          rw [List.map_cons] at q
          have h1' : ¬ (k : Int) < (r.length : Int) + 1 := by simp at h1; omega
          simp [h1', nil_new, q, K1.d]
    refine wp_mono hc fun p m' ⟨h1, h2, c, h3⟩ => ?_
    obtain ⟨fl, sd⟩ := p
    have h1 : fl = .nx := h1
    have h3 : sd = _ := h3
    subst h1 h2 h3
    have hbig : 0 ≤ (if -1 - c > c then -1 - c else c) := by split <;> omega
    simp only [xs_cons, x_set, e_bi, es_cons, es_nil, e_v, e_bin, e_neg, e_c, K1.d, List.getElem?_cons_zero, List.getElem?_cons_succ, getV_ok, bind_ok, bi_int, negR_int, b_sub, bi_max, seq_nx, List.set_cons_succ, List.set_cons_zero]
    generalize (if -1 - c > c then -1 - c else c) = big at hbig
    have hx : 0 ≤ big % 2147483629 ∧ big % 2147483629 < 2147483629 := ⟨Int.emod_nonneg _ (by omega), Int.emod_lt_of_pos _ (by omega)⟩
    have e1 := b_mod (m := m') (fz := true) (i := big) (j := 2147483629) (by omega)
    have e2 := b_mul (m := m') (fz := true) (i := 7919) (j := k) (.inl ⟨by omega, by omega⟩)
    have e3 := b_mul (m := m') (fz := true) (i := 7919 * k) (j := k) (.inr ⟨by omega, by omega⟩)
    have e4 := b_mul (m := m') (fz := true) (i := 31) (j := k) (.inl ⟨by omega, by omega⟩)
    rw [e1]
    simp only [bind_ok]
    rw [e2]
    simp only [bind_ok]
    rw [e3]
    simp only [bind_ok, b_add]
    rw [e4]
    simp only [bind_ok, b_add]
    generalize big % 2147483629 + 7919 * (k : Int) * k + 31 * k + 17 = y
    have e5 := b_mul (m := m') (fz := true) (i := y) (j := 48271) (.inr ⟨by omega, by omega⟩)
    rw [e5]
    simp only [bind_ok, bi_int]
    rw [b_mod (by omega)]
    have hy : 0 ≤ y * 48271 % 2147483647 ∧ y * 48271 % 2147483647 < 2147483647 := ⟨Int.emod_nonneg _ (by omega), Int.emod_lt_of_pos _ (by omega)⟩
    generalize y * 48271 % 2147483647 = z at hy
    have e6 := b_pow (m := m') (fz := true) (i := 10) (j := 18) ⟨by omega, by omega, by omega⟩
    simp only [bind_ok, seq_nx, List.set_cons_succ, List.set_cons_zero, x_ret, xs_cons, e_lst, es_cons, es_nil, e_bin, e_bi, e_v, List.getElem?_cons_zero, List.getElem?_cons_succ, getV_ok, e_an, e_cmp, e_c, K1.d]
    rw [e6]
    simp only [bind_ok, c_ge_int, tr_bool]
    have hl : ∀ b : Bool, ∃ a : Int, bop true .mul (.int big) (.int (if b = true then 1 else 0)) m' = .ok (.int a) m' ∧ 0 ≤ a := fun b => by
      cases b
      · exact ⟨big * 0, b_mul (.inr ⟨by omega, by omega⟩), by omega⟩
      · exact ⟨big * 1, b_mul (.inr ⟨by omega, by omega⟩), by omega⟩
    cases hb : decide ((10 : Int) ^ (18 : Int).toNat ≤ big)
    · obtain ⟨a, ha, ha0⟩ := hl false
      simp only [Bool.false_eq_true, if_false, bind_ok, bi_bool] at ha ⊢
      rw [ha]
      simp only [bind_ok]
      rw [newL_false (by unfold line; simp)]
      simp only [bind_ok, seq_ret, wp_ok]
      exact ⟨a, z, trivial, rfl, ha0, hy⟩
    · simp only [if_true, bi_lenL, bind_ok, c_lt_int, bi_bool]
      obtain ⟨a, ha, ha0⟩ := hl (decide ((k : Int) < (ns.map PyData.int).length))
      rw [ha]
      simp only [bind_ok]
      rw [newL_false (by unfold line; simp)]
      simp only [bind_ok, seq_ret, wp_ok]
      exact ⟨a, z, trivial, rfl, ha0, hy⟩
  obtain ⟨⟨fl, sd⟩, m', e, a, b, h1, rfl, h2⟩ := wp_ex' hb
  have h1 : fl = .ret (loc m.length) := h1
  subst h1
  rw [e]
  refine ⟨a, b, ?_, h2⟩
  show trim m.length (.ok (loc m.length) (m ++ [.lst [.int a, .int b]])) = _
  exact trim_new (by simp) hm (by simp) (Nat.le_refl _) (by simp) (by simp [nlO])
end
end SS.K90
end PT_P16
section PT_P17
set_option Elab.async false
set_option linter.all false
set_option maxRecDepth 100000
set_option maxHeartbeats 2000000
namespace SS.K90
open PySem SS
open TL (tl)
/-- plain signs, at most so many -/
structure Asc (x : Str) (L : Nat) : Prop where
  lt : ∀ c ∈ tl x, c < 128
  len : x.length ≤ L
theorem Asc.ok {x : Str} {L : Nat} (h : Asc x L) (hL : L ≤ line) : sOk x := ⟨strOk_of h.lt, Nat.le_trans h.len hL⟩
theorem Asc.le {x : Str} {L L' : Nat} (h : Asc x L) (hL : L ≤ L') : Asc x L' := ⟨h.lt, Nat.le_trans h.len hL⟩
theorem len_app (x y : Str) : (x ++ y).length = x.length + y.length := by
  rw [TL.len_tl, TL.tl_append, List.length_append, ← TL.len_tl, ← TL.len_tl]
theorem Asc.app {x y : Str} {L L' : Nat} (h : Asc x L) (k : Asc y L') : Asc (x ++ y) (L + L') := by
  refine ⟨fun c hc => ?_, ?_⟩
  · rw [TL.tl_append, List.mem_append] at hc
    exact hc.elim (h.lt c) (k.lt c)
  · rw [len_app]
    have := h.len
    have := k.len
    omega
theorem cutS_sub (z : Str) (lo hi : Option Int) : (∀ c ∈ tl (L2.cutS z lo hi), c ∈ tl z) ∧ (L2.cutS z lo hi).length ≤ z.length := by
  have e : tl (L2.cutS z lo hi) = (tl z |>.drop (HT.sIx z.length 0 lo)).take (HT.sIx z.length z.length hi - HT.sIx z.length 0 lo) := rfl
  rw [TL.len_tl (L2.cutS z lo hi), TL.len_tl z, e]
  refine ⟨fun c hc => List.mem_of_mem_drop (List.mem_of_mem_take hc), ?_⟩
  rw [List.length_take, List.length_drop]
  omega
theorem Asc.cut {x : Str} {L : Nat} (h : Asc x L) (lo hi : Option Int) : Asc (L2.cutS x lo hi) L :=
  ⟨fun c hc => h.lt c ((cutS_sub x lo hi).1 c hc), Nat.le_trans (cutS_sub x lo hi).2 h.len⟩
theorem ascL (s : String) (L : Nat) (h : ((Str.ofString s).cps.toList.all (fun c => decide (c < 128)) && decide ((Str.ofString s).length ≤ L)) = true) : Asc s L := by
  rw [Bool.and_eq_true, decide_eq_true_eq, List.all_eq_true] at h
  exact ⟨fun c hc => by simpa using h.1 c hc, h.2⟩
theorem name_asc {x : Str} (h : isName x = true) : Asc x 12 := ⟨fun c hc => by have := name_low h hc; omega, (name_len h).2⟩
/-- data that are texts, as texts -/
theorem strs_of {p : Str → Prop} : ∀ {xs : List D}, (∀ d ∈ xs, ∃ x, d = .str x ∧ p x) → ∃ ys : List Str, xs = ys.map PyData.str ∧ ∀ y ∈ ys, p y
  | [], _ => ⟨[], rfl, by simp⟩
  | d :: r, h => by
    obtain ⟨x, rfl, hx⟩ := h d List.mem_cons_self
    obtain ⟨ys, rfl, hy⟩ := strs_of (p := p) (xs := r) fun e he => h e (List.mem_cons_of_mem _ he)
    exact ⟨x :: ys, rfl, fun y hz => (List.mem_cons.mp hz).elim (fun e => by rw [e]; exact hx) (hy y)⟩
theorem joinL0_len : ∀ {ps : List (List Nat)}, (TL.joinL [] ps).length = (ps.map (·.length)).sum
  | [] => rfl
  | [q] => by simp [TL.joinL]
  | q :: r :: t => by
    have := joinL0_len (ps := r :: t)
    show (q ++ ([] ++ TL.joinL [] (r :: t))).length = _
    simp only [List.length_append, List.length_nil, List.map_cons, List.sum_cons] at this ⊢
    omega
theorem len_sum (ys : List Str) : ((ys.map tl).map (·.length)).sum = (ys.map (·.length)).sum := by
  rw [List.map_map]
  congr 1
theorem Asc.join {ys : List Str} {S : Str} {L N : Nat} (h : ∀ y ∈ ys, Asc y L) (hN : ys.length ≤ N) (hS : ∀ c ∈ tl S, c < 128) (hl : S.length ≤ 1) : Asc (Txt.join S ys) (L * N + N) := by
  have hs := sum_le (xs := ys) (b := L) fun y hy => (h y hy).len
  have hLN : L * ys.length ≤ L * N := Nat.mul_le_mul (Nat.le_refl L) hN
  refine ⟨fun c hc => ?_, ?_⟩
  · rw [join_tl] at hc
    rcases joinL_inv hc with z | ⟨p, hp, z⟩
    · exact hS c z
    · obtain ⟨y, hy, rfl⟩ := List.mem_map.mp hp
      exact (h y hy).lt c z
  · rw [TL.len_tl, join_tl]
    have hl' : (tl S).length ≤ 1 := by rw [← TL.len_tl]; exact hl
    match hq : tl S with
    | [] =>
      rw [joinL0_len, len_sum]
      omega
    | [s] =>
      have := (joinL_len (s := s) (ps := ys.map tl)).2
      rw [len_sum, List.length_map] at this
      omega
    | s :: t :: r =>
      rw [hq] at hl'
      simp at hl'
theorem list_ne {xs : List D} {j : Nat} : PyData.list xs ≠ loc j := by simp [loc]
theorem tuple_ne {xs : List D} {j : Nat} : PyData.tuple xs ≠ loc j := by simp [loc]
section
variable {tab : Nat → Option Fn} (H : Tb tab) {n j : Nat} {m : Mem}
include H
theorem onel_ok (hn : 2 ≤ n) {xs : List D} (h : Js m j) (hx : xs ≠ []) (hl : xs.length < 1073741824) (hnl : nlAll xs = true) : wp (fnsN tab 8 n 15 [loc j, .list xs] m) fun y m' => y ∈ xs ∧ Jd m m' j :=
  one_ok H hn h (.inl (rd_list m xs)) list_ne hx hl hnl
theorem drawn_ok (hn : 4 ≤ n) (h : Js m j) {t : Int} (ht : 0 < t) (ht2 : t ≤ 12) : wp (fnsN tab 8 n 22 [loc j, .int t] m) fun d m' => (∃ x, d = .str x ∧ Asc x 25) ∧ Jd m m' j := by
  obtain ⟨n, rfl⟩ : ∃ k, n = k + 1 := ⟨n - 1, by omega⟩
  refine call_wp (t__law_drawn_name H) rfl ?_
  show wp (evSs _ 8 b__law_drawn_name [some (loc j), some (.int t), none, none, none] m) _
  unfold b__law_drawn_name
  simp only [xs_cons, x_set, e_bin, e_c, K1.d, bind_ok, e_call, es_cons, es_nil, e_v, List.getElem?_cons_zero, List.getElem?_cons_succ, getV_ok]
  rw [wp_seq, wp_bind, wp_bind]
  refine wp_mono (take_ok H (by omega) h ht (by omega)) fun d m1 ⟨⟨k, e, hk0, hk1⟩, hj1⟩ => ?_
  subst e
  have hJ1 := hj1.js h
  simp only [b_add, wp_ok, List.set_cons_succ, List.set_cons_zero]
  obtain ⟨k, rfl⟩ := Int.eq_ofNat_of_zero_le hk0
  rw [xs_cons, wp_seq, x_set, wp_bind, e_me]
  simp only [e_c, K1.d, bind_ok, rd_str, mt_join, guard_tt, guard_T]
  rw [wp_bind]
  simp only [es_cons, es_nil]
  rw [wp_bind, e_comp, i_range]
  simp only [es_cons, es_nil, e_v, List.getElem?_cons_zero, List.getElem?_cons_succ, getV_ok, bind_ok]
  rw [show (1 : Int) + (k : Int) = ((1 + k : Nat) : Int) by omega, range_1 (small1 (by unfold line; omega))]
  simp only [bind_ok]
  rw [wp_bind]
  refine wp_mono (comp_wp (fun m' => Jd m m' j) (fun d => ∃ x, d = .str x ∧ Asc x 1) (fun _ _ => trivial) hj1 fun d hd m' hm' => ?_) fun xs m2 ⟨hl, hx, hj2⟩ => ?_
  · have hJ' := hm'.js h
    have hnew : newL true [PyData.str "a", .str "b", .str "e", .str "o", .str "z"] m' = .ok (.list [PyData.str "a", .str "b", .str "e", .str "o", .str "z"]) m' := newL_true (by unfold line; simp)
    simp [evC, K1.d, hnew]
    rw [wp_bind]
    refine wp_mono (onel_ok H (by omega) hJ' (by simp) (by simp) (by simp)) fun y m2 ⟨hy, hj⟩ => ?_
    rw [wp_ok]
    refine ⟨⟨y, rfl, ?_⟩, hm'.trans hj⟩
    simp only [List.mem_cons, List.not_mem_nil, or_false] at hy
    rcases hy with rfl | rfl | rfl | rfl | rfl
    · exact ⟨_, rfl, ascL "a" 1 (by decide +kernel)⟩
    · exact ⟨_, rfl, ascL "b" 1 (by decide +kernel)⟩
    · exact ⟨_, rfl, ascL "e" 1 (by decide +kernel)⟩
    · exact ⟨_, rfl, ascL "o" 1 (by decide +kernel)⟩
    · exact ⟨_, rfl, ascL "z" 1 (by decide +kernel)⟩
  · obtain ⟨ys, rfl, hy⟩ := strs_of hx
    rw [range_length, List.length_map] at hl
    have hs := sum_le (xs := ys) (b := 1) fun y hy' => (hy y hy').len
    rw [newL_true (by rw [List.length_map]; unfold line; omega)]
    have hj := me_joinL (m := m2) (fz := true) (x := "") (ys := ys) (by
      rw [show (Str.ofString "").length = 0 by decide]
      unfold line
      omega)
    have hA := Asc.join (S := "") (N := 12) hy (by omega) (by rw [show tl "" = [] by decide +kernel]; simp) (by decide)
    generalize Txt.join "" ys = x at hj hA
    have hok := hA.ok (by unfold line; omega)
    have hnm := lname_ok H (m := m2) (show 1 ≤ n by omega) hok.gd
    have hA2 := hA.app (ascL "x" 1 (by decide +kernel))
    have hcat := b_cat (m := m2) (fz := true) (x := x) (y := "x") (by
      have := hA.len
      rw [show (Str.ofString "x").length = 1 by decide]
      unfold line
      omega)
    simp [hj, hnm, K1.d]
    cases isNm (.str x)
    · simp [hcat]
      exact left_jd h hj2 rfl rfl ⟨⟨_, rfl, hA2⟩, hj2⟩
    · simp
      exact left_jd h hj2 rfl rfl ⟨⟨_, rfl, hA.le (by omega)⟩, hj2⟩
end
end SS.K90
end PT_P17
section PT_P18
set_option Elab.async false
set_option linter.all false
set_option maxRecDepth 100000
set_option maxHeartbeats 2000000
namespace SS.K90
open PySem SS
open TL (tl)
section
variable {m m1 m2 : Mem} {j : Nat} {o : O}
theorem Js.app (h : Js m j) (ho : nlO o = true) : Js (m ++ [o]) j := by
  obtain ⟨a, b, hm, hb⟩ := h.at_
  refine ⟨⟨a, b, ?_, hb⟩, ?_⟩
  · rw [List.getElem?_append_left h.lt, hm]
  · rw [List.all_append, h.nl]
    simp [ho]
theorem Jd.app (h : j < m.length) (x : Jd (m ++ [o]) m2 j) : ∃ m', m2 = m' ++ [o] ∧ Jd m m' j := by
  obtain ⟨a, b, rfl, hb⟩ := x
  exact ⟨_, List.set_append_left _ _ h, a, b, rfl, hb⟩
end
/-- names being gathered, in a cell behind the memory -/
def Gath (m : Mem) (j : Nat) (m' : Mem) (ns : List Str) : Prop := ∃ m1, m' = m1 ++ [.lst (ns.map PyData.str)] ∧ Jd m m1 j ∧ (∀ x ∈ ns, isName x = true) ∧ ns.Nodup
theorem strs_nlO (ns : List Str) : nlO (.lst (ns.map PyData.str)) = true := nlAll_strs ns
section
variable {m m' : Mem} {j : Nat} {ns : List Str}
theorem Gath.js (h : Js m j) (g : Gath m j m' ns) : Js m' j := by
  obtain ⟨m1, rfl, hj, _⟩ := g
  exact (hj.js h).app (strs_nlO ns)
theorem Gath.step (h : Js m j) (g : Gath m j m' ns) {m2 : Mem} (x : Jd m' m2 j) : Gath m j m2 ns := by
  obtain ⟨m1, rfl, hj, hn⟩ := g
  obtain ⟨m3, rfl, h3⟩ := x.app (hj.js h).lt
  exact ⟨m3, rfl, hj.trans h3, hn⟩
theorem Gath.cell (g : Gath m j m' ns) : m'[m.length]? = some (.lst (ns.map PyData.str)) := by
  obtain ⟨m1, rfl, hj, hn⟩ := g
  rw [← hj.len]
  simp
theorem Gath.add (g : Gath m j m' ns) {x : Str} (hx : isName x = true) (hn : x ∉ ns) : Gath m j (m'.set m.length (.lst ((ns ++ [x]).map PyData.str))) (ns ++ [x]) := by
  obtain ⟨m1, rfl, hj, h1, h2⟩ := g
  refine ⟨m1, ?_, hj, ?_, ?_⟩
  · rw [← hj.len, List.set_append_right _ _ (Nat.le_refl _)]
    simp
  · intro y hy
    rcases List.mem_append.mp hy with z | z
    · exact h1 y z
    · rw [List.mem_singleton.mp z]
      exact hx
  · rw [List.nodup_append]
    exact ⟨h2, by simp, fun a ha b hb e => hn (by rw [← List.mem_singleton.mp hb, ← e]; exact ha)⟩
end
section
variable {tab : Nat → Option Fn} (H : Tb tab) {n j : Nat} {m : Mem}
include H
theorem some_turn (hn : 5 ≤ n) (h : Js m j) {m' : Mem} {ns : List Str} (g : Gath m j m' ns) (hl : ns.length < 1000) {o o1 o2 o3 : Option D} : wp (evSs (fnsN tab 8 n) 8 l__law_some_names_1 [some (loc j), some (loc m.length), o, o1, o2, o3] m') fun p m2 => p.1 = .nx ∧ (∃ o1 o2 o3, p.2 = [some (loc j), some (loc m.length), o, o1, o2, o3]) ∧ ∃ ns', ns'.length ≤ ns.length + 1 ∧ Gath m j m2 ns' := by
  unfold l__law_some_names_1
  have hnew : ∀ m : Mem, newL true [PyData.int 1, .int 2, .int 3, .int 12] m = .ok (.list [PyData.int 1, .int 2, .int 3, .int 12]) m := fun m => newL_true (by unfold line; simp)
  rw [xs_cons, wp_seq]
  simp only [x_set, e_call, es_cons, es_nil, e_v, e_lst, e_c, K1.d, List.getElem?_cons_zero, List.getElem?_cons_succ, getV_ok, bind_ok, hnew]
  rw [wp_bind, wp_bind, wp_bind, wp_bind]
  refine wp_mono (onel_ok H (by omega) (g.js h) (by simp) (by simp) (by simp)) fun d m1 ⟨hd, hj1⟩ => ?_
  have g := g.step h hj1
  obtain ⟨t, rfl, ht, ht2⟩ : ∃ t : Int, d = .int t ∧ 0 < t ∧ t ≤ 12 := by
    simp only [List.mem_cons, List.not_mem_nil, or_false] at hd
    rcases hd with rfl | rfl | rfl | rfl <;> exact ⟨_, rfl, by omega, by omega⟩
  simp only [bind_ok, wp_ok]
  refine wp_mono (drawn_ok H (by omega) (g.js h) ht ht2) fun d m2 ⟨⟨x, e, hx⟩, hj2⟩ => ?_
  subst e
  have g := g.step h hj2
  simp only [wp_ok, List.set_cons_succ, List.set_cons_zero]
  -- v4
  rw [xs_cons, wp_seq]
  have hv4 : wp (evS (fnsN tab 8 n) 8 (.set 4 (.ite (.cmp .ne (.v 1) (.lst true .nil)) (.call 0 15 (.cons (.v 0) (.cons (.v 1) .nil))) (.v 3))) [some (loc j), some (loc m.length), o, some (.str x), o2, o3] m2) fun p m3 => p.1 = .nx ∧ (∃ y, p.2 = [some (loc j), some (loc m.length), o, some (.str x), some (.str y), o3] ∧ Asc y 25) ∧ Gath m j m3 ns := by
    have hc := g.cell
    have hsh : sh (.list (ns.map PyData.str)) = true := (strs_sh fun y hy => name_ok (by obtain ⟨_, _, _, q, _⟩ := g; exact q y hy)).1
    have hne : cop .ne (loc m.length) (.list []) m2 = .ok (!ns.isEmpty) m2 := by
      rw [cop_ne, rd_cell hc, rd_list, guard_pos _ ⟨hsh, sh_nil⟩, eqv_nil]
      cases ns <;> rfl
    simp only [x_set, e_ite, t_cmp, e_v, e_lst, es_nil, List.getElem?_cons_zero, List.getElem?_cons_succ, getV_ok, bind_ok, nil_new, hne]
    cases hq : ns.isEmpty
    · simp only [Bool.not_false, if_true, e_call, es_cons, es_nil, e_v, List.getElem?_cons_zero, List.getElem?_cons_succ, getV_ok, bind_ok]
      rw [wp_bind]
      have hjl : loc m.length ≠ loc j := by
        intro e
        have := congrArg locOf e
        simp only [locOf_loc, Option.some.injEq] at this
        have := h.lt
        omega
      refine wp_mono (one_ok H (by omega) (g.js h) (.inl (rd_cell hc)) hjl (by intro e; rw [List.map_eq_nil_iff] at e; rw [e] at hq; simp at hq) (by rw [List.length_map]; omega) (nlAll_strs ns)) fun d m3 ⟨hd, hj3⟩ => ?_
      obtain ⟨y, hy, rfl⟩ := List.mem_map.mp hd
      simp only [wp_ok, List.set_cons_succ, List.set_cons_zero]
      refine ⟨trivial, ⟨y, rfl, ?_⟩, g.step h hj3⟩
      obtain ⟨_, _, _, q, _⟩ := g
      exact (name_asc (q y hy)).le (by omega)
    · simp [-List.isEmpty_iff]
      exact ⟨hx, g⟩
  refine wp_mono hv4 fun p m3 ⟨hp, ⟨y, hs, hy⟩, g⟩ => ?_
  obtain ⟨fl, sd⟩ := p
  have hp : fl = .nx := hp
  have hs : sd = _ := hs
  subst hp hs
  -- v5
  have hk : ∀ m : Mem, newL true [PyData.str "none", .str "from", .str "of", .str "out", .str "with", .str "apart"] m = .ok (.list [PyData.str "none", .str "from", .str "of", .str "out", .str "with", .str "apart"]) m := fun m => newL_true (by unfold line; simp)
  have hk2 : ∀ m : Mem, newL true [PyData.str "", .str "a", .str "s"] m = .ok (.list [PyData.str "", .str "a", .str "s"]) m := fun m => newL_true (by unfold line; simp)
  have hcat : ∀ m : Mem, bop true .add (.str y) (.str "a") m = .ok (.str (y ++ "a")) m := fun m => b_cat (by
    have := hy.len
    rw [show (Str.ofString "a").length = 1 by decide]
    unfold line
    omega)
  have hsl : ∀ m : Mem, slD true (.str y) (some 1) none m = .ok (.str (L2.cutS y (some 1) none)) m := fun m => sl_str (by have := hy.len; unfold line; omega) _ _
  simp only [xs_cons, x_set, e_lst, es_cons, es_nil, e_v, e_bin, e_sl, e_call, e_c, K1.d, o_some, o_none, optI_int, optI_none, List.getElem?_cons_zero, List.getElem?_cons_succ, getV_ok, bind_ok, hk, hcat, hsl]
  simp only [wp_seq, wp_bind]
  refine wp_mono (onel_ok H (by omega) (g.js h) (by simp) (by simp) (by simp)) fun d m4 ⟨hd, hj4⟩ => ?_
  have g := g.step h hj4
  obtain ⟨z, rfl, hz⟩ : ∃ z : Str, d = .str z ∧ Asc z 5 := by
    simp only [List.mem_cons, List.not_mem_nil, or_false] at hd
    rcases hd with rfl | rfl | rfl | rfl | rfl | rfl
    · exact ⟨_, rfl, ascL "none" 5 (by decide +kernel)⟩
    · exact ⟨_, rfl, ascL "from" 5 (by decide +kernel)⟩
    · exact ⟨_, rfl, ascL "of" 5 (by decide +kernel)⟩
    · exact ⟨_, rfl, ascL "out" 5 (by decide +kernel)⟩
    · exact ⟨_, rfl, ascL "with" 5 (by decide +kernel)⟩
    · exact ⟨_, rfl, ascL "apart" 5 (by decide +kernel)⟩
  simp only [bind_ok, hk2, wp_ok]
  refine wp_mono (onel_ok H (by omega) (g.js h) (by simp) (by simp) (by simp)) fun d m5 ⟨hd, hj5⟩ => ?_
  have g := g.step h hj5
  obtain ⟨w, rfl, hw⟩ : ∃ z : Str, d = .str z ∧ Asc z 1 := by
    simp only [List.mem_cons, List.not_mem_nil, or_false] at hd
    rcases hd with rfl | rfl | rfl
    · exact ⟨_, rfl, ascL "" 1 (by decide +kernel)⟩
    · exact ⟨_, rfl, ascL "a" 1 (by decide +kernel)⟩
    · exact ⟨_, rfl, ascL "s" 1 (by decide +kernel)⟩
  have hcat2 : ∀ m : Mem, bop true .add (.str z) (.str w) m = .ok (.str (z ++ w)) m := fun m => b_cat (by
    have := hz.len
    have := hw.len
    unfold line
    omega)
  have hn5 : ∀ m : Mem, newL true [PyData.str x, .str x, .str (y ++ "a"), .str (L2.cutS y (some 1) none), .str (z ++ w)] m = .ok (.list [PyData.str x, .str x, .str (y ++ "a"), .str (L2.cutS y (some 1) none), .str (z ++ w)]) m := fun m => newL_true (by unfold line; simp)
  simp only [bind_ok, hcat2, wp_ok, hn5, List.set_cons_succ, List.set_cons_zero, List.getElem?_cons_zero, List.getElem?_cons_succ, getV_ok]
  simp only [xs_cons, x_set, e_call, es_cons, es_nil, e_v, List.getElem?_cons_zero, List.getElem?_cons_succ, getV_ok, bind_ok]
  simp only [wp_seq, wp_bind]
  refine wp_mono (onel_ok H (by omega) (g.js h) (by simp) (by simp) (by simp)) fun d m6 ⟨hd, hj6⟩ => ?_
  have g := g.step h hj6
  obtain ⟨x', rfl, hx'⟩ : ∃ z : Str, d = .str z ∧ Asc z 26 := by
    simp only [List.mem_cons, List.not_mem_nil, or_false] at hd
    rcases hd with rfl | rfl | rfl | rfl | rfl
    · exact ⟨_, rfl, hx.le (by omega)⟩
    · exact ⟨_, rfl, hx.le (by omega)⟩
    · exact ⟨_, rfl, (hy.app (ascL "a" 1 (by decide +kernel))).le (by omega)⟩
    · exact ⟨_, rfl, (hy.cut _ _).le (by omega)⟩
    · exact ⟨_, rfl, (hz.app hw).le (by omega)⟩
  have hok := hx'.ok (by unfold line; omega)
  have hnm := lname_ok H (m := m6) (show 1 ≤ n by omega) hok.gd
  have hc := g.cell
  have hsh : sh (.list (ns.map PyData.str)) = true := (strs_sh fun y hy => name_ok (by obtain ⟨_, _, _, q, _⟩ := g; exact q y hy)).1
  have hin : cop .notin (.str x') (loc m.length) m6 = .ok (!ns.contains x') m6 := by
    have q := c_in_cell (a := .str x') hc (by rw [rd_str, sh_str]; exact hok.1) hsh
    rw [rd_str, any_eqv] at q
    show (cop .isin (.str x') (loc m.length) m6).bind _ = _
    rw [q]
    rfl
  have happ := app_cell (fz := true) hc (by rw [List.length_map]; unfold line; omega) (.str x')
  have hrd : rd m6 (loc m.length) = .list (ns.map PyData.str) := rd_cell hc
  have hadd : isNm (.str x') = true → x' ∉ ns → Gath m j (m6.set m.length (.lst (ns.map PyData.str ++ [.str x']))) (ns ++ [x']) := fun a b => by
    have := g.add a b
    rw [List.map_append] at this
    exact this
  simp [hnm, -List.contains_eq_mem]
  cases h1 : isNm (.str x')
  · simp
    exact ⟨ns, by omega, g⟩
  · simp [hin, -List.contains_eq_mem]
    cases h2 : ns.contains x'
    · simp [hrd, happ]
      exact ⟨ns ++ [x'], by simp, hadd h1 (by simpa using h2)⟩
    · simp
      exact ⟨ns, by omega, g⟩
end
end SS.K90
end PT_P18
section PT_P19
set_option Elab.async false
set_option linter.all false
set_option maxRecDepth 100000
set_option maxHeartbeats 2000000
namespace SS.K90
open PySem SS
open TL (tl)
section
variable {tab : Nat → Option Fn} (H : Tb tab) {n j : Nat} {m : Mem}
include H
theorem some_ok (hn : 6 ≤ n) (h : Js m j) : wp (fnsN tab 8 n 24 [loc j] m) fun d m' => (∃ ns, d = nmD ns ∧ Nms ns) ∧ Jd m m' j := by
  obtain ⟨n, rfl⟩ : ∃ k, n = k + 1 := ⟨n - 1, by omega⟩
  refine call_wp (t__law_some_names H) rfl ?_
  show wp (evSs _ 8 b__law_some_names [some (loc j), none, none, none, none, none] m) _
  unfold b__law_some_names
  have g0 : Gath m j (m ++ [.lst []]) [] := ⟨m, rfl, h.refl, by simp, List.nodup_nil⟩
  have hk : ∀ m : Mem, newL true [PyData.int 0, .int 1, .int 2, .int 3, .int 5, .int 8, .int 24] m = .ok (.list [PyData.int 0, .int 1, .int 2, .int 3, .int 5, .int 8, .int 24]) m := fun m => newL_true (by unfold line; simp)
  simp only [xs_cons, x_set, e_lst, es_nil, bind_ok, nil_newF, seq_nx, List.set_cons_succ, List.set_cons_zero, x_for, i_range, es_cons, e_bin, e_call, e_v, e_c, K1.d, List.getElem?_cons_zero, List.getElem?_cons_succ, getV_ok, hk]
  simp only [wp_seq, wp_bind]
  refine wp_mono (onel_ok H (by omega) (g0.js h) (by simp) (by simp) (by simp)) fun d m1 ⟨hd, hj1⟩ => ?_
  have g := g0.step h hj1
  obtain ⟨t, rfl, ht⟩ : ∃ t : Nat, d = .int t ∧ t ≤ 24 := by
    simp only [List.mem_cons, List.not_mem_nil, or_false] at hd
    rcases hd with rfl | rfl | rfl | rfl | rfl | rfl | rfl
    · exact ⟨0, rfl, by omega⟩
    · exact ⟨1, rfl, by omega⟩
    · exact ⟨2, rfl, by omega⟩
    · exact ⟨3, rfl, by omega⟩
    · exact ⟨5, rfl, by omega⟩
    · exact ⟨8, rfl, by omega⟩
    · exact ⟨24, rfl, by omega⟩
  rw [b_mul (.inl ⟨by omega, by omega⟩)]
  simp only [wp_ok]
  rw [show (t : Int) * 2 = ((t * 2 : Nat) : Int) by omega, range_1 (small1 (by unfold line; omega))]
  simp only [wp_ok]
  refine wp_mono (for_wp (fun k sd m' => (∃ o o1 o2 o3, sd = [some (loc j), some (loc m.length), o, o1, o2, o3]) ∧ ∃ ns, ns.length ≤ k ∧ Gath m j m' ns) (fun _ _ => False) ⟨⟨_, _, _, _, rfl⟩, [], by simp, g⟩ (fun _ _ _ _ => trivial) fun k d sd m' hk ⟨⟨o, o1, o2, o3, hs⟩, ns, hl, g⟩ => ?_) fun p m' hp => ?_
  · subst hs
    have hk' := (range_get hk).1
    simp only [asg_nm, List.length_cons, List.length_nil, Nat.reduceAdd, Nat.reduceLT, if_true, opt_some, bind_ok, List.set_cons_succ, List.set_cons_zero]
    refine wp_mono (some_turn H (by omega) h g (by omega)) fun p m2 ⟨hp, ⟨o1, o2, o3, hs⟩, ns', hl', g'⟩ => ?_
    obtain ⟨fl, sd⟩ := p
    have hp : fl = .nx := hp
    subst hp
    exact ⟨⟨_, o1, o2, o3, hs⟩, ns', by omega, g'⟩
  · obtain ⟨fl, sd⟩ := p
    cases fl with
    | nx =>
      obtain ⟨⟨o, o1, o2, o3, hs⟩, ns, hl, g⟩ := hp
      have hs : sd = _ := hs
      subst hs
      rw [range_length] at hl
      have hc := g.cell
      have hsl : slD true (loc m.length) none (some 24) m' = .ok (.list ((ns.take 24).map PyData.str)) m' := by
        show slR true (rd m' (loc m.length)) none (some 24) m' = _
        rw [rd_cell hc]
        show newL true (cut _ _ _) m' = _
        have := cut_hi (ns.map PyData.str) 24
        rw [show ((24 : Nat) : Int) = 24 from rfl] at this
        rw [this, ← List.map_take]
        refine newL_true ?_
        rw [List.length_map, List.length_take]
        unfold line
        omega
      simp only [xs_cons, x_ret, e_bi, es_cons, es_nil, e_sl, e_v, o_none, o_some, e_c, K1.d, optI_none, optI_int, List.getElem?_cons_zero, List.getElem?_cons_succ, getV_ok, bind_ok, hsl, bi_tupleL, seq_ret, wp_ok]
      obtain ⟨m1, rfl, hj, hnm, hnd⟩ := g
      have e : (m1 ++ [O.lst (ns.map PyData.str)]).take m.length = m1 := by
        rw [← hj.len]
        simp
      refine ⟨_, .inl rfl, by rw [nl_tuple]; exact nlAll_strs _, by rw [List.length_append, hj.len]; omega, by rw [e]; exact (hj.js h).nl, ⟨_, rfl, by rw [List.length_take]; omega, fun x hx => hnm x (List.mem_of_mem_take hx), hnd.sublist (List.take_sublist _ _)⟩, by rw [e]; exact hj⟩
    | _ => exact hp.elim
end
end SS.K90
end PT_P19
section PT_P20
set_option Elab.async false
set_option linter.all false
set_option maxRecDepth 100000
set_option maxHeartbeats 2000000
namespace SS.K90
open PySem SS
open TL (tl)
/-- good, not deep -/
def gk (k : Nat) (d : D) : Bool := gd d && decide (d.depth ≤ k)
theorem gk_iff {k : Nat} {d : D} : gk k d = true ↔ gd d = true ∧ d.depth ≤ k := by
  unfold gk
  rw [Bool.and_eq_true, decide_eq_true_eq]
theorem gk_le {k k' : Nat} {d : D} (h : gk k d = true) (hk : k ≤ k') : gk k' d = true := by
  rw [gk_iff] at h ⊢
  exact ⟨h.1, Nat.le_trans h.2 hk⟩
theorem gk_tuple {k : Nat} {xs : List D} (h : ∀ d ∈ xs, gk k d = true) (hl : xs.length ≤ line) : gk (k + 1) (.tuple xs) = true := by
  rw [gk_iff, gd_tuple, Bool.and_eq_true]
  refine ⟨⟨decide_eq_true hl, gds_iff.mpr fun d hd => (gk_iff.mp (h d hd)).1⟩, ?_⟩
  simp only [PyData.depth]
  have : PyData.depthAll xs ≤ k := depthAll_le fun d hd => (gk_iff.mp (h d hd)).2
  omega
theorem gk_list {k : Nat} {xs : List D} (h : ∀ d ∈ xs, gk k d = true) (hl : xs.length ≤ line) : gk (k + 1) (.list xs) = true := by
  rw [gk_iff, gd_list, Bool.and_eq_true]
  refine ⟨⟨decide_eq_true hl, gds_iff.mpr fun d hd => (gk_iff.mp (h d hd)).1⟩, ?_⟩
  simp only [PyData.depth]
  have : PyData.depthAll xs ≤ k := depthAll_le fun d hd => (gk_iff.mp (h d hd)).2
  omega
theorem gk_str {x : Str} (h : sOk x) : gk 0 (.str x) = true := by
  rw [gk_iff]
  exact ⟨h.gd, by simp [PyData.depth]⟩
theorem gk_nl {k : Nat} {xs : List D} (h : ∀ d ∈ xs, gk k d = true) : nlAll xs = true := nlAll_iff.mpr fun d hd => gd_nl (gk_iff.mp (h d hd)).1
theorem cut_mem {α : Type} {xs : List α} {lo hi : Option Int} {x : α} (h : x ∈ cut xs lo hi) : x ∈ xs := List.mem_of_mem_drop (List.mem_of_mem_take h)
theorem eqv_nilT (xs : List D) : PyData.eqv (.tuple xs) (.tuple []) = xs.isEmpty := by
  rw [PyData.eqv]
  cases xs <;> simp [PyData.eqvAll]
theorem sh_nilT : sh (.tuple []) = true := by decide +kernel
theorem ne_nilT {m : Mem} {ns : List Str} (h : ∀ x ∈ ns, sOk x) : cop .ne (nmD ns) (.tuple []) m = .ok (!ns.isEmpty) m := by
  rw [cop_ne, rd_tuple, rd_tuple, guard_pos _ ⟨(strs_sh h).2, sh_nilT⟩, eqv_nilT]
  cases ns <;> rfl
theorem nil_tup {m : Mem} : guard (([] : List D).length ≤ line) (.ok (PyData.tuple []) m) = .ok (PyData.tuple []) m := guard_pos _ (Nat.zero_le _)
section
variable {tab : Nat → Option Fn} (H : Tb tab) {n j : Nat} {m : Mem}
include H
theorem odd_ok (hn : 4 ≤ n) (h : Js m j) {ns : List Str} (hN : Nms ns) : wp (fnsN tab 8 n 26 [loc j, nmD ns] m) fun d m' => gk 3 d = true ∧ Jd m m' j := by
  obtain ⟨n, rfl⟩ : ∃ k, n = k + 1 := ⟨n - 1, by omega⟩
  have hns : ∀ x ∈ ns, sOk x := fun x hx => name_ok (hN.ok x hx)
  have hnl := hN.len
  have hnk : ∀ d ∈ ns.map PyData.str, gk 0 d = true := fun d hd => by
    obtain ⟨x, hx, rfl⟩ := List.mem_map.mp hd
    exact gk_str (hns x hx)
  refine call_wp (t__law_odd_names H) rfl ?_
  show wp (evSs _ 8 b__law_odd_names [some (loc j), some (nmD ns), none, none, none] m) _
  unfold b__law_odd_names
  rw [xs_cons]
  simp only [x_set, e_call, es_cons, es_nil, e_v, e_lst, e_bi, e_bin, e_c, K1.d, List.getElem?_cons_zero, List.getElem?_cons_succ, getV_ok, bind_ok, bi_lenT, b_add]
  simp only [wp_seq, wp_bind]
  refine wp_mono (take_ok H (by omega) h (by omega) (by rw [List.length_map]; omega)) fun d m1 ⟨⟨t, e, ht0, ht1⟩, hj1⟩ => ?_
  subst e
  have hJ1 := hj1.js h
  simp only [wp_ok]
  rw [newL_true (by unfold line; simp)]
  simp only [wp_ok]
  refine wp_mono (onel_ok H (by omega) hJ1 (by simp) (by simp) (by simp)) fun d m2 ⟨hd, hj2⟩ => ?_
  have hJ2 := hj2.js hJ1
  obtain ⟨at_, rfl⟩ : ∃ k : Int, d = .int k := by
    simp only [List.mem_cons, List.not_mem_nil, or_false] at hd
    rcases hd with rfl | rfl <;> exact ⟨_, rfl⟩
  simp only [wp_ok, List.set_cons_succ, List.set_cons_zero]
  -- the odd thing
  have hodd : wp (evE (fnsN tab 8 n) 8 (.ite (.cmp .ne (.v 1) (.tup .nil)) (.call 0 15 (.cons (.v 0) (.cons (.v 1) .nil))) (.c (.str "of"))) [some (loc j), some (nmD ns), some (.int at_), none, none] m2) fun d m3 => gk 1 d = true ∧ Jd m2 m3 j := by
    simp only [e_ite, t_cmp, e_v, e_tup, es_nil, List.getElem?_cons_zero, List.getElem?_cons_succ, getV_ok, bind_ok, nil_tup, ne_nilT hns]
    cases hq : ns.isEmpty
    · simp only [Bool.not_false, if_true, e_call, es_cons, es_nil, e_v, List.getElem?_cons_zero, List.getElem?_cons_succ, getV_ok, bind_ok]
      refine wp_mono (one_ok H (by omega) hJ2 (.inr (rd_tuple _ _)) tuple_ne (by intro e; rw [List.map_eq_nil_iff] at e; rw [e] at hq; simp at hq) (by rw [List.length_map]; omega) (nlAll_strs ns)) fun d m3 ⟨hd, hj3⟩ => ?_
      exact ⟨gk_le (hnk d hd) (by omega), hj3⟩
    · simp only [Bool.not_true, Bool.false_eq_true, if_false, e_c, K1.d, wp_ok]
      exact ⟨by decide +kernel, hJ2.refl⟩
  rw [xs_cons]
  have ha13 : ∀ m : Mem, bop true .mul (.str "a") (.int 13) m = .ok (.str (Txt.mul "a" 13)) m := fun m => b_repS ⟨by omega, by omega, by rw [show (Str.ofString "a").length = 1 by decide]; unfold line; omega⟩
  have h1t : ∀ m : Mem, guard ([PyData.str "a"].length ≤ line) (.ok (PyData.tuple [.str "a"]) m) = .ok (PyData.tuple [.str "a"]) m := fun m => guard_pos _ (by unfold line; simp)
  have h1l : ∀ m : Mem, newL true [PyData.str "a"] m = .ok (.list [PyData.str "a"]) m := fun m => newL_true (by unfold line; simp)
  simp only [x_set, e_call, es_cons, es_nil, e_v, e_lst, e_tup, e_bi, e_bin, e_c, K1.d, List.getElem?_cons_zero, List.getElem?_cons_succ, getV_ok, bind_ok, ha13, h1t, h1l]
  simp only [wp_seq, wp_bind]
  refine wp_mono hodd fun w m3 ⟨hw, hj3⟩ => ?_
  have hJ3 := hj3.js hJ2
  simp only [wp_ok]
  rw [newL_true (by unfold line; simp)]
  simp only [wp_ok]
  have hall : ∀ d ∈ [PyData.str "", .str "A", .str "a1", .str "a b", .str (Txt.mul "a" 13), .str "none", .str "from", .str "of", .str "out", .str "with", .str "apart", .str " a", .str "a\n", .str "a-b", .none, .int 0, .bool true, .tuple [.str "a"], .list [.str "a"], w], gk 1 d = true := by
    intro d hd
    simp only [List.mem_cons, List.not_mem_nil, or_false] at hd
    rcases hd with rfl | rfl | rfl | rfl | rfl | rfl | rfl | rfl | rfl | rfl | rfl | rfl | rfl | rfl | rfl | rfl | rfl | rfl | rfl | rfl
    all_goals first | exact hw | decide +kernel
  refine wp_mono (onel_ok H (by omega) hJ3 (by simp) (by simp) (gk_nl hall)) fun y m4 ⟨hy, hj4⟩ => ?_
  have hJ4 := hj4.js hJ3
  have hy := hall y hy
  simp only [wp_ok, List.set_cons_succ, List.set_cons_zero]
  rw [xs_cons]
  have hcl : ∀ lo hi, (cut (ns.map PyData.str) lo hi).length ≤ 24 := fun lo hi => Nat.le_trans (cut_len _ _ _) (by rw [List.length_map]; omega)
  have hck : ∀ lo hi, ∀ d ∈ cut (ns.map PyData.str) lo hi, gk 1 d = true := fun lo hi d hd => gk_le (hnk d (cut_mem hd)) (by omega)
  have h1y : ∀ m : Mem, guard ([y].length ≤ line) (.ok (PyData.tuple [y]) m) = .ok (PyData.tuple [y]) m := fun m => guard_pos _ (by unfold line; simp)
  have h2y : ∀ m : Mem, guard ([y, .str "of"].length ≤ line) (.ok (PyData.tuple [y, .str "of"]) m) = .ok (PyData.tuple [y, .str "of"]) m := fun m => guard_pos _ (by unfold line; simp)
  have h1o : ∀ m : Mem, guard ([PyData.str "of"].length ≤ line) (.ok (PyData.tuple [.str "of"]) m) = .ok (PyData.tuple [.str "of"]) m := fun m => guard_pos _ (by unfold line; simp)
  have hb : ∀ (xs ys : List D) (m : Mem), xs.length ≤ 100 → ys.length ≤ 100 → bop true .add (.tuple xs) (.tuple ys) m = .ok (.tuple (xs ++ ys)) m := fun xs ys m h1 h2 => b_catT (by unfold line; omega)
  have hr : ∀ m : Mem, bop true .mul (.tuple [.str "of"]) (.int 25) m = .ok (.tuple (List.replicate (25 : Int).toNat [PyData.str "of"]).flatten) m := fun m => b_repT ⟨by simp, by omega, by omega, by simp⟩
  have hli : ∀ m : Mem, biD true .list [nmD ns] m = .ok (.list (ns.map PyData.str)) m := fun m => bi_listT (by rw [List.length_map]; unfold line; omega)
  have hl1 := fun lo hi => hcl lo hi
  simp only [x_set, e_call, es_cons, es_nil, e_v, e_lst, e_tup, e_bi, e_bin, e_sl, e_c, K1.d, o_some, o_none, optI_int, optI_none, List.getElem?_cons_zero, List.getElem?_cons_succ, getV_ok, bind_ok, sl_tuple, h1y, h2y, h1o, hr, hli]
  rw [hb _ _ _ (Nat.le_trans (hcl _ _) (by omega)) (by simp)]
  simp only [bind_ok]
  rw [hb _ _ _ (by rw [List.length_append]; have := hcl none (some at_); simp; omega) (Nat.le_trans (hcl _ _) (by omega))]
  simp only [bind_ok]
  rw [hb _ _ _ (by rw [List.length_map]; omega) (Nat.le_trans (hcl _ _) (by omega))]
  simp only [bind_ok]
  rw [hb _ _ _ (Nat.le_trans (hcl _ _) (by omega)) (by simp)]
  simp only [bind_ok]
  rw [hb _ _ _ (by rw [List.length_append]; have := hcl none (some at_); simp; omega) (Nat.le_trans (hcl _ _) (by omega))]
  simp only [bind_ok]
  rw [newL_true (by unfold line; simp)]
  simp only [bind_ok, wp_seq, wp_ok, List.set_cons_succ, List.set_cons_zero]
  simp only [xs_cons, x_ret, e_call, es_cons, es_nil, e_v, List.getElem?_cons_zero, List.getElem?_cons_succ, getV_ok, bind_ok]
  simp only [wp_seq, wp_bind]
  have happ : ∀ xs ys : List D, (∀ d ∈ xs, gk 1 d = true) → (∀ d ∈ ys, gk 1 d = true) → xs.length ≤ 1000 → ys.length ≤ 1000 → gk 2 (.tuple (xs ++ ys)) = true := fun xs ys h1 h2 h3 h4 => gk_tuple (fun d hd => (List.mem_append.mp hd).elim (h1 d) (h2 d)) (by rw [List.length_append]; unfold line; omega)
  have happ3 : ∀ xs ys zs : List D, (∀ d ∈ xs, gk 1 d = true) → (∀ d ∈ ys, gk 1 d = true) → (∀ d ∈ zs, gk 1 d = true) → xs.length ≤ 1000 → ys.length ≤ 1000 → zs.length ≤ 1000 → gk 2 (.tuple (xs ++ ys ++ zs)) = true := fun xs ys zs h1 h2 h3 h4 h5 h6 => gk_tuple (fun d hd => (List.mem_append.mp hd).elim (fun z => (List.mem_append.mp z).elim (h1 d) (h2 d)) (h3 d)) (by rw [List.length_append, List.length_append]; unfold line; omega)
  have hof : gk 1 (.str "of") = true := by decide +kernel
  have hys : ∀ d ∈ [y], gk 1 d = true := fun d hd => by rw [List.mem_singleton.mp hd]; exact hy
  have hys2 : ∀ d ∈ [y, .str "of"], gk 1 d = true := fun d hd => by
    simp only [List.mem_cons, List.not_mem_nil, or_false] at hd
    rcases hd with rfl | rfl
    · exact hy
    · exact hof
  have hlen : ∀ lo hi, (cut (ns.map PyData.str) lo hi).length ≤ 1000 := fun lo hi => Nat.le_trans (hcl lo hi) (by omega)
  have hall : ∀ d ∈ [PyData.tuple (cut (ns.map PyData.str) none (some at_) ++ [y] ++ cut (ns.map PyData.str) (some at_) none), .list (ns.map PyData.str), .none, .str "ab", .tuple (ns.map PyData.str ++ cut (ns.map PyData.str) none (some 1)), .tuple (cut (ns.map PyData.str) none (some at_) ++ [y, .str "of"] ++ cut (ns.map PyData.str) (some at_) none), .tuple (List.replicate (25 : Int).toNat [PyData.str "of"]).flatten, .int 0], gk 2 d = true := by
    intro d hd
    simp only [List.mem_cons, List.not_mem_nil, or_false] at hd
    rcases hd with rfl | rfl | rfl | rfl | rfl | rfl | rfl | rfl
    · exact happ3 _ _ _ (hck _ _) hys (hck _ _) (hlen _ _) (by simp) (hlen _ _)
    · exact gk_le (gk_list hnk (by rw [List.length_map]; unfold line; omega)) (by omega)
    · decide +kernel
    · decide +kernel
    · exact happ _ _ (fun d hd => gk_le (hnk d hd) (by omega)) (hck _ _) (by rw [List.length_map]; omega) (hlen _ _)
    · exact happ3 _ _ _ (hck _ _) hys2 (hck _ _) (hlen _ _) (by simp) (hlen _ _)
    · decide +kernel
    · decide +kernel
  refine wp_mono (onel_ok H (by omega) hJ4 (by simp) (by simp) (gk_nl hall)) fun z m5 ⟨hz, hj5⟩ => ?_
  have hz := hall z hz
  have hJJ := ((hj1.trans hj2).trans hj3).trans (hj4.trans hj5)
  simp only [wp_ok]
  exact left_jd h hJJ rfl (gd_nl (gk_iff.mp hz).1) ⟨gk_le hz (by omega), hJJ⟩
end
end SS.K90
end PT_P20
section PT_P21
set_option Elab.async false
set_option linter.all false
set_option maxRecDepth 100000
set_option maxHeartbeats 2000000
namespace SS.K90
open PySem SS
open TL (tl)
theorem cut_map {xs : List Str} {lo hi : Option Int} : cut (xs.map PyData.str) lo hi = (cut xs lo hi).map PyData.str := by
  unfold cut
  rw [List.map_take, List.map_drop, List.length_map]
theorem lines_asc {x : Str} {L : Nat} (h : Asc x L) {y S : Str} (hy : y ∈ Txt.split x S) : Asc y L :=
  ⟨fun c hc => h.lt c ((split_part hy).1 c hc), Nat.le_trans (split_part hy).2 h.len⟩
theorem joinL_sum {S : List Nat} : ∀ {ps : List (List Nat)}, (ps.map (·.length)).sum ≤ (TL.joinL S ps).length
  | [] => by simp [TL.joinL]
  | [q] => by simp [TL.joinL]
  | q :: r :: t => by
    have := joinL_sum (S := S) (ps := r :: t)
    show _ ≤ (q ++ (S ++ TL.joinL S (r :: t))).length
    simp only [List.length_append, List.map_cons, List.sum_cons] at this ⊢
    omega
theorem split_sum (x S : Str) : ((Txt.split x S).map (·.length)).sum ≤ x.length := by
  have e := join_tl S (Txt.split x S)
  rw [join_split] at e
  rw [TL.len_tl, e, ← len_sum]
  exact joinL_sum
theorem cut_sum (xs : List Str) (lo hi : Option Int) : ((cut xs lo hi).map (·.length)).sum ≤ (xs.map (·.length)).sum := by
  unfold cut
  have h : ∀ (l : List Nat) (a b : Nat), ((l.drop a).take b).sum ≤ l.sum := fun l a b => by
    have h1 := congrArg List.sum (List.take_append_drop a l)
    have h2 := congrArg List.sum (List.take_append_drop b (l.drop a))
    rw [List.sum_append] at h1 h2
    omega
  rw [List.map_take, List.map_drop]
  exact h _ _ _
/-- a joined text: its size by the sum -/
theorem join_size {ys : List Str} {S : Str} (hl : S.length ≤ 1) : (Txt.join S ys).length ≤ (ys.map (·.length)).sum + ys.length := by
  rw [TL.len_tl, join_tl]
  have hl' : (tl S).length ≤ 1 := by rw [← TL.len_tl]; exact hl
  match hq : tl S with
  | [] =>
    rw [joinL0_len, len_sum]
    omega
  | [s] =>
    have := (joinL_len (s := s) (ps := ys.map tl)).2
    rw [len_sum, List.length_map] at this
    omega
  | s :: t :: r =>
    rw [hq] at hl'
    simp at hl'
theorem asc_join {ys : List Str} {S : Str} {B : Nat} (h : ∀ y ∈ ys, ∀ c ∈ tl y, c < 128) (hS : ∀ c ∈ tl S, c < 128) (hl : S.length ≤ 1) (hB : (ys.map (·.length)).sum + ys.length ≤ B) : Asc (Txt.join S ys) B := by
  refine ⟨fun c hc => ?_, Nat.le_trans (join_size hl) hB⟩
  rw [join_tl] at hc
  rcases joinL_inv hc with z | ⟨p, hp, z⟩
  · exact hS c z
  · obtain ⟨y, hy, rfl⟩ := List.mem_map.mp hp
    exact h y hy c z
/-- the most that a bent text has -/
def bnd (L : Nat) : Nat := 4 * L + 10
theorem asc_nl : ∀ c ∈ tl "\n", c < 128 := by rw [tl_nl]; simp
theorem asc_sp : ∀ c ∈ tl " ", c < 128 := by rw [tl_sp]; simp
section
variable {tab : Nat → Option Fn} (H : Tb tab) {n j : Nat} {m : Mem}
include H
theorem bent_ok (hn : 4 ≤ n) (h : Js m j) {x : Str} {L : Nat} (hx : Asc x L) (hL : L ≤ 100000) : wp (fnsN tab 8 n 23 [loc j, .str x] m) fun d m' => (∃ y, d = .str y ∧ Asc y (bnd L)) ∧ Jd m m' j := by
  obtain ⟨n, rfl⟩ : ∃ k, n = k + 1 := ⟨n - 1, by omega⟩
  refine call_wp (t__law_bent_text H) rfl ?_
  show wp (evSs _ 8 b__law_bent_text [some (loc j), some (.str x), none, none, none, none, none] m) _
  unfold b__law_bent_text
  have hxl := hx.len
  have hlen : ∀ m : Mem, biD true .len [.str x] m = .ok (.int x.length) m := fun m => bi_lenS (by unfold line; omega)
  rw [xs_cons]
  simp only [x_par, e_call, es_cons, es_nil, e_v, e_bi, e_bin, e_c, K1.d, List.getElem?_cons_zero, List.getElem?_cons_succ, getV_ok, bind_ok, hlen, b_add]
  simp only [wp_seq, wp_bind]
  refine wp_mono (take_ok H (by omega) h (by omega) (by omega)) fun d m1 ⟨⟨f, e, hf0, hf1⟩, hj1⟩ => ?_
  subst e
  have hJ1 := hj1.js h
  simp only [wp_bind, hlen, wp_ok, b_add]
  refine wp_mono (take_ok H (by omega) hJ1 (by omega) (by omega)) fun d m2 ⟨⟨at_, e, ha0, ha1⟩, hj2⟩ => ?_
  subst e
  have hJ2 := hj2.js hJ1
  have hlc : (lines x).length ≤ x.length + 1 := lines_len x
  have hl : ∀ m : Mem, meD true .split (.str x) [.str "\n"] m = .ok (.list ((lines x).map .str)) m := fun m => by
    rw [me_split (by decide +kernel) (by unfold line; omega)]
    refine newL_true ?_
    rw [List.length_map]
    unfold lines at hlc
    unfold line
    omega
  have hlp : 0 < (lines x).length := List.length_pos_iff.mpr (lines_ne x)
  simp only [wp_ok, List.set_cons_succ, List.set_cons_zero, xs_cons, x_set, e_me, e_c, K1.d, bind_ok, rd_str, mt_split, guard_tt, guard_T, es_cons, es_nil, e_v, List.getElem?_cons_zero, List.getElem?_cons_succ, getV_ok, hl, seq_nx, e_call, e_bi, bi_lenL, List.length_map]
  simp only [wp_seq, wp_bind]
  refine wp_mono (take_ok H (by omega) hJ2 (by omega) (by omega)) fun d m3 ⟨⟨k, e, hk0, hk1⟩, hj3⟩ => ?_
  subst e
  have hJ3 := hj3.js hJ2
  have hJJ3 := (hj1.trans hj2).trans hj3
  have hsl : ∀ (lo hi : Option Int) (m : Mem), slD true (.str x) lo hi m = .ok (.str (L2.cutS x lo hi)) m := fun lo hi m => sl_str (by unfold line; omega) _ _
  have hsll : ∀ (lo hi : Option Int) (m : Mem), slD true (.list ((lines x).map .str)) lo hi m = .ok (.list ((cut (lines x) lo hi).map .str)) m := fun lo hi m => by
    rw [sl_list (by rw [List.length_map]; unfold line; omega), cut_map]
  have hcc : ∀ lo hi, (L2.cutS x lo hi).length ≤ 100000 := fun lo hi => Nat.le_trans (hx.cut lo hi).len hL
  have hbl : ∀ a : Str, Asc a (L + 5 + L) → Asc a (bnd L) := fun a ha => ha.le (by unfold bnd; omega)
  simp only [wp_ok, List.set_cons_succ, List.set_cons_zero, xs_cons, x_ifs, t_cmp, e_v, e_c, K1.d, List.getElem?_cons_zero, List.getElem?_cons_succ, getV_ok, bind_ok, c_eq_int, c_lt_int]
  by_cases h0 : f = 0
  · have hb : ∀ (lo hi lo' hi' : Option Int) (m : Mem), bop true .add (.str (L2.cutS x lo hi)) (.str (L2.cutS x lo' hi')) m = .ok (.str (L2.cutS x lo hi ++ L2.cutS x lo' hi')) m := fun lo hi lo' hi' m => b_cat (by
      have := hcc lo hi
      have := hcc lo' hi'
      unfold line
      omega)
    simp [h0, K1.d, hsl, hb]
    exact left_jd h hJJ3 rfl rfl ⟨⟨_, rfl, hbl _ (((hx.cut _ _).app (hx.cut _ _)).le (by omega))⟩, hJJ3⟩
  · by_cases h4 : f < 4
    · have hk : ∀ m : Mem, newL true [PyData.str " ", .str "\n", .str "-", .str "0", .str "1", .str "7", .str ",", .str "a", .str "none", .str "x", .str "+", .str "of", .str "2", .str "from"] m = .ok (.list [PyData.str " ", .str "\n", .str "-", .str "0", .str "1", .str "7", .str ",", .str "a", .str "none", .str "x", .str "+", .str "of", .str "2", .str "from"]) m := fun m => newL_true (by unfold line; simp)
      simp only [h0, h4, decide_true, decide_false, if_true, Bool.false_eq_true, if_false, xs_nil, seq_nx, xs_cons, x_ifs, t_cmp, e_v, e_c, K1.d, List.getElem?_cons_zero, List.getElem?_cons_succ, getV_ok, bind_ok, c_lt_int, x_set, e_call, es_cons, es_nil, e_lst, hk]
      simp only [wp_seq, wp_bind]
      refine wp_mono (onel_ok H (by omega) hJ3 (by simp) (by simp) (by simp)) fun d m4 ⟨hd, hj4⟩ => ?_
      have hJ4 := hj4.js hJ3
      obtain ⟨s, rfl, hs⟩ : ∃ z : Str, d = .str z ∧ Asc z 5 := by
        simp only [List.mem_cons, List.not_mem_nil, or_false] at hd
        rcases hd with rfl | rfl | rfl | rfl | rfl | rfl | rfl | rfl | rfl | rfl | rfl | rfl | rfl | rfl
        all_goals exact ⟨_, rfl, ascL _ 5 (by decide +kernel)⟩
      have hb : ∀ (lo hi : Option Int) (m : Mem), bop true .add (.str (L2.cutS x lo hi)) (.str s) m = .ok (.str (L2.cutS x lo hi ++ s)) m := fun lo hi m => b_cat (by
        have := hcc lo hi
        have := hs.len
        unfold line
        omega)
      have hb2 : ∀ (lo hi lo' hi' : Option Int) (m : Mem), bop true .add (.str (L2.cutS x lo hi ++ s)) (.str (L2.cutS x lo' hi')) m = .ok (.str (L2.cutS x lo hi ++ s ++ L2.cutS x lo' hi')) m := fun lo hi lo' hi' m => b_cat (by
        rw [len_app]
        have := hcc lo hi
        have := hcc lo' hi'
        have := hs.len
        unfold line
        omega)
      simp [K1.d, hsl, hb, hb2]
      exact left_jd h (hJJ3.trans hj4) rfl rfl ⟨⟨_, rfl, hbl _ (((hx.cut _ _).app hs).app (hx.cut _ _))⟩, hJJ3.trans hj4⟩
    · have hcl : ∀ lo hi, (cut (lines x) lo hi).length ≤ L + 1 := fun lo hi => Nat.le_trans (cut_len _ _ _) (by omega)
      have hb : ∀ (lo hi lo' hi' : Option Int) (m : Mem), bop true .add (.list ((cut (lines x) lo hi).map .str)) (.list ((cut (lines x) lo' hi').map .str)) m = .ok (.list ((cut (lines x) lo hi ++ cut (lines x) lo' hi').map .str)) m := fun lo hi lo' hi' m => by
        rw [b_catL (by
          rw [List.length_map, List.length_map]
          have := hcl lo hi
          have := hcl lo' hi'
          unfold line
          omega), List.map_append]
      have hel : ∀ (lo hi lo' hi' : Option Int), ∀ y ∈ cut (lines x) lo hi ++ cut (lines x) lo' hi', Asc y L := fun lo hi lo' hi' y hy => by
        rcases List.mem_append.mp hy with z | z
        · exact lines_asc hx (cut_mem z)
        · exact lines_asc hx (cut_mem z)
      have hN : ∀ (lo hi lo' hi' : Option Int), ((cut (lines x) lo hi ++ cut (lines x) lo' hi').map (·.length)).sum + (cut (lines x) lo hi ++ cut (lines x) lo' hi').length ≤ 4 * L + 2 := fun lo hi lo' hi' => by
        rw [List.length_append, List.map_append, List.sum_append]
        have := hcl lo hi
        have := hcl lo' hi'
        have := cut_sum (lines x) lo hi
        have := cut_sum (lines x) lo' hi'
        have := split_sum x "\n"
        unfold lines at *
        omega
      have hjn : ∀ (lo hi lo' hi' : Option Int) (m : Mem), meD true .join (.str "\n") [.list ((cut (lines x) lo hi ++ cut (lines x) lo' hi').map .str)] m = .ok (.str (Txt.join "\n" (cut (lines x) lo hi ++ cut (lines x) lo' hi'))) m := fun lo hi lo' hi' m => me_joinL (by
        have h2 := hN lo hi lo' hi'
        rw [show (Str.ofString "\n").length = 1 by decide]
        unfold line
        omega)
      have hA : ∀ (lo hi lo' hi' : Option Int), Asc (Txt.join "\n" (cut (lines x) lo hi ++ cut (lines x) lo' hi')) (bnd L) := fun lo hi lo' hi' =>
        asc_join (fun y hy => (hel lo hi lo' hi' y hy).lt) asc_nl (by decide) (by have := hN lo hi lo' hi'; unfold bnd; omega)
      simp [h0, h4, K1.d, hsll, hb, hjn, -List.map_append]
      by_cases h5 : f = 4
      · simp [h5, K1.d, hsll, hb, hjn, -List.map_append]
        exact left_jd h hJJ3 rfl rfl ⟨⟨_, rfl, hA _ _ _ _⟩, hJJ3⟩
      · simp [h5, K1.d, hsll, hb, hjn, -List.map_append]
        exact left_jd h hJJ3 rfl rfl ⟨⟨_, rfl, hA _ _ _ _⟩, hJJ3⟩
end
end SS.K90
end PT_P21
section PT_P22
set_option Elab.async false
set_option linter.all false
set_option maxRecDepth 100000
set_option maxHeartbeats 2000000
namespace SS.K90
open PySem SS
open TL (tl)
theorem Asc.upper {x : Str} {L : Nat} (h : Asc x L) : Asc (Txt.upper x) L := by
  have e := PyProof.Rows.upper_ascii (x := x) h.lt
  rw [e]
  refine ⟨fun c hc => ?_, ?_⟩
  · have hc : c ∈ (x.cps.map PyProof.Rows.up1).toList := hc
    rw [Array.toList_map, List.mem_map] at hc
    obtain ⟨a, ha, rfl⟩ := hc
    have := h.lt a ha
    unfold PyProof.Rows.up1
    split <;> omega
  · have := h.len
    simpa [Str.length] using this
theorem appS {x y : Str} {L L' : Nat} (h : Asc x L) (k : Asc y L') (hl : L + L' ≤ line) {fz : Bool} {m : Mem} : bop fz .add (.str x) (.str y) m = .ok (.str (x ++ y)) m := b_cat (by
  have := h.len
  have := k.len
  omega)
section
variable {tab : Nat → Option Fn} (H : Tb tab) {n j : Nat} {m : Mem}
include H
theorem texts_ok (hn : 5 ≤ n) (h : Js m j) {A : D} (hA : nl A = true) {x : Str} (hx : Asc x 200) : wp (fnsN tab 8 n 28 [loc j, A, .str x] m) fun d m' => (∃ ys : List Str, d = .list (ys.map PyData.str) ∧ ∀ y ∈ ys, sOk y) ∧ Jd m m' j := by
  obtain ⟨n, rfl⟩ : ∃ k, n = k + 1 := ⟨n - 1, by omega⟩
  refine call_wp (t__law_texts_of H) rfl ?_
  show wp (evSs _ 8 b__law_texts_of [some (loc j), some A, some (.str x), none, none, none, none] m) _
  unfold b__law_texts_of
  have hxl := hx.len
  have hwc : (Txt.split x " ").length ≤ x.length + 1 := split_count tl_sp
  have hwp : 0 < (Txt.split x " ").length := List.length_pos_iff.mpr (split_sp_ne x)
  have hwa : ∀ y ∈ Txt.split x " ", Asc y 200 := fun y hy => lines_asc hx hy
  generalize hws : Txt.split x " " = ws at hwc hwp hwa
  have hsp : meD true .split (.str x) [.str " "] m = .ok (.list (ws.map .str)) m := by
    rw [me_split (by decide +kernel) (by unfold line; omega), hws]
    refine newL_true ?_
    rw [List.length_map]
    unfold line
    omega
  rw [xs_cons]
  simp only [x_set, e_me, e_c, K1.d, bind_ok, rd_str, mt_split, guard_tt, guard_T, es_cons, es_nil, e_v, List.getElem?_cons_zero, List.getElem?_cons_succ, getV_ok, hsp, seq_nx, List.set_cons_succ, List.set_cons_zero]
  rw [xs_cons]
  simp only [x_set, e_call, e_bi, es_cons, es_nil, e_v, List.getElem?_cons_zero, List.getElem?_cons_succ, getV_ok, bind_ok, bi_lenL, List.length_map]
  simp only [wp_seq, wp_bind]
  refine wp_mono (take_ok H (by omega) h (by omega) (by omega)) fun d m1 ⟨⟨k, e, hk0, hk1⟩, hj1⟩ => ?_
  subst e
  have hJ1 := hj1.js h
  obtain ⟨k, rfl⟩ := Int.eq_ofNat_of_zero_le hk0
  have hk : k < ws.length := by omega
  have hw0 : atI (ws.map PyData.str) (k : Int) = some (.str ws[k]) := by
    rw [atI_nat, List.getElem?_map, List.getElem?_eq_getElem hk]
    rfl
  have hw := hwa _ (List.getElem_mem hk)
  generalize ws[k] = w at hw0 hw
  have hwl := hw.len
  have u1 := @appS w "a" 200 1 hw (ascL "a" 1 (by decide +kernel)) (by unfold line; omega)
  have u2 := @appS w "," 200 1 hw (ascL "," 1 (by decide +kernel)) (by unfold line; omega)
  have u3 := @appS w "\t" 200 1 hw (ascL "\t" 1 (by decide +kernel)) (by unfold line; omega)
  have u4 := @appS "\n" w 1 200 (ascL "\n" 1 (by decide +kernel)) hw (by unfold line; omega)
  have u5 : ∀ m : Mem, slD true (.str w) (some 1) none m = .ok (.str (L2.cutS w (some 1) none)) m := fun m => sl_str (by unfold line; omega) _ _
  have u6 : ∀ m : Mem, meD true .upper (.str w) [] m = .ok (.str (Txt.upper w)) m := fun m => me_upper (by omega)
  simp only [wp_ok, List.set_cons_succ, List.set_cons_zero]
  rw [xs_cons]
  simp only [x_set, e_call, e_lst, e_bin, e_sl, e_ix, e_me, es_cons, es_nil, e_v, e_c, K1.d, o_some, o_none, optI_int, optI_none, List.getElem?_cons_zero, List.getElem?_cons_succ, getV_ok, bind_ok, ix_list, hw0, opt_some, u1, u2, u3, u4, u5, u6, rd_str, mt_upper, guard_tt, guard_T]
  rw [newL_true (by unfold line; simp)]
  simp only [bind_ok, wp_seq, wp_bind]
  have hall : ∀ d ∈ [PyData.str "", .str "of", .str "none", .str "xyz", .str "A", .str (w ++ "a"), .str (L2.cutS w (some 1) none), .str (Txt.upper w), .str (w ++ ","), .str "0", .str (w ++ "\t"), .str ("\n" ++ w)], ∃ z : Str, d = .str z ∧ Asc z 201 := by
    intro d hd
    simp only [List.mem_cons, List.not_mem_nil, or_false] at hd
    rcases hd with rfl | rfl | rfl | rfl | rfl | rfl | rfl | rfl | rfl | rfl | rfl | rfl
    · exact ⟨_, rfl, ascL "" 201 (by decide +kernel)⟩
    · exact ⟨_, rfl, ascL "of" 201 (by decide +kernel)⟩
    · exact ⟨_, rfl, ascL "none" 201 (by decide +kernel)⟩
    · exact ⟨_, rfl, ascL "xyz" 201 (by decide +kernel)⟩
    · exact ⟨_, rfl, ascL "A" 201 (by decide +kernel)⟩
    · exact ⟨_, rfl, hw.app (ascL "a" 1 (by decide +kernel))⟩
    · exact ⟨_, rfl, (hw.cut _ _).le (by omega)⟩
    · exact ⟨_, rfl, hw.upper.le (by omega)⟩
    · exact ⟨_, rfl, hw.app (ascL "," 1 (by decide +kernel))⟩
    · exact ⟨_, rfl, ascL "0" 201 (by decide +kernel)⟩
    · exact ⟨_, rfl, hw.app (ascL "\t" 1 (by decide +kernel))⟩
    · exact ⟨_, rfl, ((ascL "\n" 1 (by decide +kernel)).app hw).le (by omega)⟩
  have hnl : nlAll [PyData.str "", .str "of", .str "none", .str "xyz", .str "A", .str (w ++ "a"), .str (L2.cutS w (some 1) none), .str (Txt.upper w), .str (w ++ ","), .str "0", .str (w ++ "\t"), .str ("\n" ++ w)] = true := by simp
  refine wp_mono (onel_ok H (by omega) hJ1 (by simp) (by simp) hnl) fun d m2 ⟨hd, hj2⟩ => ?_
  obtain ⟨z, rfl, hz⟩ := hall d hd
  have hJ2 := hj2.js hJ1
  have hJJ2 := hj1.trans hj2
  simp only [wp_ok, List.set_cons_succ, List.set_cons_zero]
  -- the texts
  have hcl : ∀ lo hi, (cut ws lo hi).length ≤ 201 := fun lo hi => Nat.le_trans (cut_len _ _ _) (by omega)
  have v1 : ∀ (lo hi : Option Int) (m : Mem), slD true (.list (ws.map .str)) lo hi m = .ok (.list ((cut ws lo hi).map .str)) m := fun lo hi m => by
    rw [sl_list (by rw [List.length_map]; unfold line; omega), cut_map]
  have v2 : ∀ (lo hi : Option Int) (m : Mem), bop true .add (.list ((cut ws lo hi).map .str)) (.list [.str z]) m = .ok (.list ((cut ws lo hi ++ [z]).map .str)) m := fun lo hi m => by
    rw [b_catL (by
      rw [List.length_map]
      have := hcl lo hi
      simp
      unfold line
      omega), List.map_append]
    rfl
  have v3 : ∀ (lo hi lo' hi' : Option Int) (m : Mem), bop true .add (.list ((cut ws lo hi ++ [z]).map .str)) (.list ((cut ws lo' hi').map .str)) m = .ok (.list ((cut ws lo hi ++ [z] ++ cut ws lo' hi').map .str)) m := fun lo hi lo' hi' m => by
    rw [b_catL (by
      rw [List.length_map, List.length_map, List.length_append]
      have := hcl lo hi
      have := hcl lo' hi'
      simp
      unfold line
      omega), List.map_append (l₁ := cut ws lo hi ++ [z])]
  have hel : ∀ (lo hi lo' hi' : Option Int), ∀ y ∈ cut ws lo hi ++ [z] ++ cut ws lo' hi', Asc y 201 := fun lo hi lo' hi' y hy => by
    rcases List.mem_append.mp hy with q | q
    · rcases List.mem_append.mp q with r | r
      · exact (hwa y (cut_mem r)).le (by omega)
      · rw [List.mem_singleton.mp r]; exact hz
    · exact (hwa y (cut_mem q)).le (by omega)
  have hen : ∀ (lo hi lo' hi' : Option Int), (cut ws lo hi ++ [z] ++ cut ws lo' hi').length ≤ 403 := fun lo hi lo' hi' => by
    rw [List.length_append, List.length_append]
    have := hcl lo hi
    have := hcl lo' hi'
    simp
    omega
  have v4 : ∀ (lo hi lo' hi' : Option Int) (m : Mem), meD true .join (.str " ") [.list ((cut ws lo hi ++ [z] ++ cut ws lo' hi').map .str)] m = .ok (.str (Txt.join " " (cut ws lo hi ++ [z] ++ cut ws lo' hi'))) m := fun lo hi lo' hi' m => me_joinL (by
    have h1 := sum_le (b := 201) fun y hy => (hel lo hi lo' hi' y hy).len
    have h2 := hen lo hi lo' hi'
    rw [show (Str.ofString " ").length = 1 by decide]
    unfold line
    omega)
  have v5 : ∀ (lo hi lo' hi' : Option Int), sOk (Txt.join " " (cut ws lo hi ++ [z] ++ cut ws lo' hi')) := fun lo hi lo' hi' => (Asc.join (hel lo hi lo' hi') (hen lo hi lo' hi') asc_sp (by decide)).ok (by unfold line; omega)
  have w1 := @appS x " " 200 1 hx (ascL " " 1 (by decide +kernel)) (by unfold line; omega)
  have w2 := @appS " " x 1 200 (ascL " " 1 (by decide +kernel)) hx (by unfold line; omega)
  have w3 := @appS x "\n" 200 1 hx (ascL "\n" 1 (by decide +kernel)) (by unfold line; omega)
  have a3 := hx.app (ascL "\n" 1 (by decide +kernel))
  have w4 := @appS (x ++ "\n") x 201 200 a3 hx (by unfold line; omega)
  have w5 := @appS x "  " 200 2 hx (ascL "  " 2 (by decide +kernel)) (by unfold line; omega)
  have a5 := hx.app (ascL "  " 2 (by decide +kernel))
  have w6 := @appS (x ++ "  ") x 202 200 a5 hx (by unfold line; omega)
  have w7 : ∀ m : Mem, meD true .upper (.str x) [] m = .ok (.str (Txt.upper x)) m := fun m => me_upper (by omega)
  have hz1 : ∀ m : Mem, newL true [PyData.str z] m = .ok (.list [PyData.str z]) m := fun m => newL_true (by unfold line; simp)
  rw [xs_cons]
  simp only [x_set, e_lst, e_bin, e_sl, e_me, es_cons, es_nil, e_v, e_c, K1.d, o_some, o_none, optI_int, optI_none, List.getElem?_cons_zero, List.getElem?_cons_succ, getV_ok, bind_ok, b_add, v1, v2, v3, v4, hz1, w1, w2, w3, w4, w5, w6, w7, rd_str, mt_upper, mt_join, guard_tt, guard_T]
  rw [newL_true (by unfold line; simp)]
  simp only [bind_ok, seq_nx, List.set_cons_succ, List.set_cons_zero]
  simp only [xs_cons, x_ret, e_lst, e_bin, e_call, es_cons, es_nil, e_v, List.getElem?_cons_zero, List.getElem?_cons_succ, getV_ok, bind_ok]
  simp only [wp_seq, wp_bind]
  refine wp_mono (bent_ok H (by omega) hJ2 hx (by omega)) fun d m3 ⟨⟨b1, e, hb1⟩, hj3⟩ => ?_
  subst e
  have hJ3 := hj3.js hJ2
  refine wp_mono (bent_ok H (by omega) hJ3 hx (by omega)) fun d m4 ⟨⟨b2, e, hb2⟩, hj4⟩ => ?_
  subst e
  have hJ4 := hj4.js hJ3
  simp only [wp_ok]
  refine wp_mono (bent_ok H (by omega) hJ4 hb2 (by unfold bnd; omega)) fun d m5 ⟨⟨b3, e, hb3⟩, hj5⟩ => ?_
  subst e
  have hJJ := ((hJJ2.trans hj3).trans hj4).trans hj5
  have hn2 : newL true [PyData.str b1, .str b3] m5 = .ok (.list [PyData.str b1, .str b3]) m5 := newL_true (by unfold line; simp)
  simp only [wp_ok, hn2]
  rw [b_catL (by unfold line; simp)]
  simp only [wp_ok]
  have aok : ∀ {y : Str} {L : Nat}, Asc y L → L ≤ 100000 → sOk y := fun h hl => h.ok (by unfold line; omega)
  let ys : List Str := [Txt.join " " (cut ws none (some (k : Int)) ++ [z] ++ cut ws (some ((k : Int) + 1)) none), Txt.join " " (cut ws none (some (k : Int)) ++ [z] ++ cut ws (some (k : Int)) none), x ++ " ", " " ++ x, x ++ "\n", x ++ "\n" ++ x, "\n", " ", "", Txt.upper x, "none", x ++ "  " ++ x, b1, b3]
  refine left_jd h hJJ rfl (by simp) ⟨⟨ys, rfl, ?_⟩, hJJ⟩
  intro y hy
  simp only [ys, List.mem_cons, List.not_mem_nil, or_false] at hy
  rcases hy with rfl | rfl | rfl | rfl | rfl | rfl | rfl | rfl | rfl | rfl | rfl | rfl | rfl | rfl
  · exact v5 _ _ _ _
  · exact v5 _ _ _ _
  · exact aok (hx.app (ascL " " 1 (by decide +kernel))) (by omega)
  · exact aok ((ascL " " 1 (by decide +kernel)).app hx) (by omega)
  · exact aok a3 (by omega)
  · exact aok (a3.app hx) (by omega)
  · exact aok (ascL "\n" 1 (by decide +kernel)) (by omega)
  · exact aok (ascL " " 1 (by decide +kernel)) (by omega)
  · exact aok (ascL "" 1 (by decide +kernel)) (by omega)
  · exact aok hx.upper (by omega)
  · exact aok (ascL "none" 4 (by decide +kernel)) (by omega)
  · exact aok (a5.app hx) (by omega)
  · exact aok hb1 (by unfold bnd; omega)
  · exact aok hb3 (by unfold bnd; omega)
end
end SS.K90
end PT_P22
section PT_P23
set_option Elab.async false
set_option linter.all false
set_option maxRecDepth 100000
set_option maxHeartbeats 2000000
namespace SS.K90
open PySem SS
open TL (tl)
theorem nameAt_low {ns : List Str} (hN : Nms ns) {d : D} (h : idxOk ns.length d = true) : nameAt ns d ∈ ns ∧ isName (nameAt ns d) = true := by
  obtain ⟨i, _, hi, e⟩ := nameAt_ok h
  have := List.mem_of_getElem? e
  exact ⟨this, hN.ok _ this⟩
theorem idx_back {ns : List Str} (hN : Nms ns) {d : D} (h : idxOk ns.length d = true) : PyData.int ((ns.idxOf (nameAt ns d) : Nat) : Int) = d := by
  obtain ⟨i, rfl, hi, e⟩ := nameAt_ok h
  have e2 : nameAt ns (.int i) = ns[i] := by
    rw [List.getElem?_eq_getElem hi] at e
    exact (Option.some.inj e).symm
  rw [e2, List.Nodup.idxOf_getElem hN.nd i hi]
theorem row_asc {ns : List Str} (hN : Nms ns) {xs : List D} (hx : ∀ d ∈ xs, idxOk ns.length d = true) {B : Nat} (hB : 13 * xs.length ≤ B) : Asc (rowT ns (.tuple xs)) B := by
  have hy : ∀ y ∈ xs.map (nameAt ns), isName y = true := fun y hy => by
    obtain ⟨d, hd, rfl⟩ := List.mem_map.mp hy
    exact (nameAt_low hN (hx d hd)).2
  refine asc_join (fun y h => (name_asc (hy y h)).lt) asc_sp (by decide) ?_
  have := sum_le (xs := xs.map (nameAt ns)) (b := 12) fun y h => (name_len (hy y h)).2
  rw [List.length_map] at this ⊢
  omega
theorem wrongT_ok {x : Str} (h : x.length ≤ 400000) : wrongT (.str x) = none := by
  simp [wrongT, show ¬ 400000 < x.length by omega]
/-- a row's text, read, is the row -/
theorem row_read {ns : List Str} (hN : Nms ns) {xs : List D} (hx : ∀ d ∈ xs, idxOk ns.length d = true) (hl : xs.length ≤ 300) : readO ns (.str (rowT ns (.tuple xs))) = none ∧ readV ns (rowT ns (.tuple xs)) = .tuple xs := by
  have hA := row_asc hN hx (B := 3900) (by omega)
  have hT := wrongT_ok (x := rowT ns (.tuple xs)) (by have := hA.len; omega)
  unfold readO
  rw [hT]
  show readW ns _ = none ∧ _
  cases xs with
  | nil =>
    have e : rowT ns (.tuple []) = "" := by
      show Txt.join " " [] = ""
      decide +kernel
    rw [e]
    exact ⟨by simp [readW], by simp [readV]⟩
  | cons a r =>
    have hmem : ∀ y ∈ (a :: r).map (nameAt ns), y ∈ ns ∧ isName y = true := fun y hy => by
      obtain ⟨d, hd, rfl⟩ := List.mem_map.mp hy
      exact nameAt_low hN (hx d hd)
    have hne : rowT ns (.tuple (a :: r)) ≠ "" := by
      intro e
      have h1 := (joinL_mem (S := tl " ") (ps := ((a :: r).map (nameAt ns)).map tl) (p := tl (nameAt ns a)) (by simp)).2
      rw [← join_tl, ← TL.len_tl, ← TL.len_tl] at h1
      have h2 : (Txt.join " " ((a :: r).map (nameAt ns))).length = 0 := by
        have : rowT ns (.tuple (a :: r)) = Txt.join " " ((a :: r).map (nameAt ns)) := rfl
        rw [← this, e]
        decide
      have h3 := (name_len (hmem (nameAt ns a) (by simp)).2).1
      omega
    have hnl : 10 ∉ tl (rowT ns (.tuple (a :: r))) := by
      intro h
      have h : 10 ∈ tl (Txt.join " " ((a :: r).map (nameAt ns))) := h
      rw [join_tl] at h
      rcases joinL_inv h with z | ⟨p, hp, z⟩
      · rw [tl_sp] at z
        simp at z
      · obtain ⟨y, hy, rfl⟩ := List.mem_map.mp hp
        have := name_low (hmem y hy).2 z
        omega
    have hlines : lines (rowT ns (.tuple (a :: r))) = [rowT ns (.tuple (a :: r))] := by
      have q := TL.split_join (y := "\n") (s := 10) (S := []) tl_nl (by decide +kernel) (parts := [rowT ns (.tuple (a :: r))]) (by simp) (fun p hp => by rw [List.mem_singleton.mp hp]; exact hnl)
      have e : Txt.join "\n" [rowT ns (.tuple (a :: r))] = rowT ns (.tuple (a :: r)) := TL.ext_tl (by rw [join_tl]; rfl)
      rw [e] at q
      exact q
    have hwords : words (rowT ns (.tuple (a :: r))) = (a :: r).map (nameAt ns) := by
      unfold words
      rw [hlines]
      exact TL.split_join (y := " ") (s := 32) (S := []) tl_sp (by decide +kernel) (by simp) (fun p hp hm => by
        have := name_low (hmem p hp).2 hm
        omega)
    have hq : least (words (rowT ns (.tuple (a :: r)))).length (badW ns (words (rowT ns (.tuple (a :: r))))) = none := by
      rw [hwords]
      refine least_none fun i hi => ?_
      have hi' := List.getElem?_eq_getElem hi
      have hm := (hmem _ (List.getElem_mem hi)).1
      simp only [badW, hi', Bool.or_eq_false_iff, Bool.not_eq_false', List.contains_eq_mem, decide_eq_true_eq, decide_eq_false_iff_not]
      rw [List.length_map] at hi
      exact ⟨hm, by omega⟩
    constructor
    · unfold readW
      rw [if_neg hne, hq, hlines]
      simp
    · unfold readV
      rw [if_neg hne, hwords, List.map_map]
      congr 1
      have : ∀ ds : List D, (∀ d ∈ ds, idxOk ns.length d = true) → ds.map ((fun w => PyData.int ((ns.idxOf w : Nat) : Int)) ∘ nameAt ns) = ds := fun ds h => by
        induction ds with
        | nil => rfl
        | cons b s ih =>
          rw [List.map_cons, ih fun d hd => h d (List.mem_cons_of_mem _ hd)]
          congr 1
          exact idx_back hN (h b List.mem_cons_self)
      exact this _ hx
theorem row_right {ns : List Str} {xs : List D} (hx : ∀ d ∈ xs, idxOk ns.length d = true) (hl : xs.length ≤ 300) : wrongR ns.length (.tuple xs) = none := by
  have : least xs.length (badIx ns.length xs) = none := least_none fun i hi => by
    have hi' := List.getElem?_eq_getElem hi
    simp only [badIx, hi', hx _ (List.getElem_mem hi), Bool.not_true]
  simp only [wrongR, show ¬ 300 < xs.length by omega, if_false, this]
  rfl
theorem row_wrong {sz : Int} {xs : List D} {w : D} (hw : w ∈ xs) (hb : idxOk sz w = false) : (wrongR sz (.tuple xs)).isSome = true := by
  simp only [wrongR]
  split
  · rfl
  · cases hq : least xs.length (badIx sz xs) with
    | some k => rfl
    | none =>
      obtain ⟨i, hi⟩ := List.mem_iff_getElem?.mp hw
      have := least_of hq i (List.getElem?_eq_some_iff.mp hi).1
      simp only [badIx, hi, hb] at this
      cases this
end SS.K90
end PT_P23
section PT_P24
set_option Elab.async false
set_option linter.all false
set_option maxRecDepth 100000
set_option maxHeartbeats 2000000
namespace SS.K90
open PySem SS
open TL (tl)
theorem rep_mem {k : Nat} {w d : D} (h : d ∈ (List.replicate k [w]).flatten) : d = w := by
  rw [List.mem_flatten] at h
  obtain ⟨l, hl, hd⟩ := h
  rw [(List.mem_replicate.mp hl).2, List.mem_singleton] at hd
  exact hd
theorem rep_len {k : Nat} {w : D} : (List.replicate k [w]).flatten.length = k := by
  simp
theorem wr_some {o : Option (Str × D)} {d : D} (h : o.isSome = true) : wr o = hrd o d := by
  cases o with
  | none => cases h
  | some p => rfl
section
variable {tab : Nat → Option Fn} (H : Tb tab) {n j : Nat} {m : Mem}
include H
theorem rows_turn (hn : 8 ≤ n) (h : Js m j) {ns : List Str} (hN : Nms ns) {xs : List D} (hx : ∀ d ∈ xs, gk 0 d = true) (hl : xs.length ≤ 20) {W t : D} (hW : gk 0 W = true) (hb : idxOk ns.length W = false) {a : Int} {o5 o8 o9 o10 : Option D} : wp (evSs (fnsN tab 8 n) 8 l__law_rows_right_1 [some (loc j), some (nmD ns), some (.int ns.length), some (.tuple xs), some t, o5, some (.int a), some W, o8, o9, o10] m) fun p m' => p.1 = .nx ∧ (∃ o8 o9, p.2 = [some (loc j), some (nmD ns), some (.int ns.length), some (.tuple xs), some t, o5, some (.int a), some W, o8, o9, o10]) ∧ Jd m m' j := by
  unfold l__law_rows_right_1
  have hcl : ∀ lo hi, (cut xs lo hi).length ≤ 20 := fun lo hi => Nat.le_trans (cut_len _ _ _) hl
  have hck : ∀ lo hi, ∀ d ∈ cut xs lo hi, gk 0 d = true := fun lo hi d hd => hx d (cut_mem hd)
  have hw1 : ∀ m : Mem, guard ([W].length ≤ line) (.ok (PyData.tuple [W]) m) = .ok (PyData.tuple [W]) m := fun m => guard_pos _ (by unfold line; simp)
  have hbt : ∀ (xs ys : List D) (m : Mem), xs.length ≤ 100 → ys.length ≤ 100 → bop true .add (.tuple xs) (.tuple ys) m = .ok (.tuple (xs ++ ys)) m := fun xs ys m h1 h2 => b_catT (by unfold line; omega)
  have hr : ∀ m : Mem, bop true .mul (.tuple [W]) (.int 301) m = .ok (.tuple (List.replicate (301 : Int).toNat [W]).flatten) m := fun m => b_repT ⟨by simp, by omega, by omega, by simp⟩
  have hli : ∀ m : Mem, biD true .list [.tuple xs] m = .ok (.list xs) m := fun m => bi_listT (by unfold line; omega)
  rw [xs_cons]
  simp only [x_set, e_call, e_lst, e_bin, e_sl, e_bi, e_tup, es_cons, es_nil, e_v, e_c, K1.d, o_some, o_none, optI_int, optI_none, List.getElem?_cons_zero, List.getElem?_cons_succ, getV_ok, bind_ok, sl_tuple, hw1, hr, hli]
  rw [hbt _ _ _ (Nat.le_trans (hcl _ _) (by omega)) (by simp)]
  simp only [bind_ok]
  rw [hbt _ _ _ (by rw [List.length_append]; have := hcl none (some a); simp; omega) (Nat.le_trans (hcl _ _) (by omega))]
  simp only [bind_ok]
  rw [hbt _ _ _ (by omega) (by simp)]
  simp only [bind_ok]
  rw [newL_true (by unfold line; simp)]
  simp only [bind_ok, wp_seq, wp_bind]
  have happ : gk 1 (.tuple (xs ++ [W])) = true := gk_tuple (fun d hd => (List.mem_append.mp hd).elim (hx d) (fun z => by rw [List.mem_singleton.mp z]; exact hW)) (by rw [List.length_append]; simp; unfold line; omega)
  have happ3 : gk 1 (.tuple (cut xs none (some a) ++ [W] ++ cut xs (some a) none)) = true := gk_tuple (fun d hd => (List.mem_append.mp hd).elim (fun z => (List.mem_append.mp z).elim (hck _ _ d) (fun z => by rw [List.mem_singleton.mp z]; exact hW)) (hck _ _ d)) (by
    rw [List.length_append, List.length_append]
    have := hcl none (some a)
    have := hcl (some a) none
    simp
    unfold line
    omega)
  have hall : ∀ d ∈ [PyData.tuple (cut xs none (some a) ++ [W] ++ cut xs (some a) none), .tuple (xs ++ [W]), .list xs, .none, .tuple (List.replicate (301 : Int).toNat [W]).flatten], gk 1 d = true ∧ (wrongR ns.length d).isSome = true := by
    intro d hd
    simp only [List.mem_cons, List.not_mem_nil, or_false] at hd
    rcases hd with rfl | rfl | rfl | rfl | rfl
    · exact ⟨happ3, row_wrong (w := W) (by simp) hb⟩
    · exact ⟨happ, row_wrong (w := W) (by simp) hb⟩
    · exact ⟨gk_list hx (by unfold line; omega), rfl⟩
    · exact ⟨by decide +kernel, rfl⟩
    · refine ⟨gk_tuple (fun d hd => by rw [rep_mem hd]; exact hW) (by rw [rep_len]; unfold line; omega), row_wrong (w := W) ?_ hb⟩
      rw [List.mem_flatten]
      exact ⟨[W], by simp, by simp⟩
  refine wp_mono (onel_ok H (by omega) h (by simp) (by simp) (gk_nl fun d hd => (hall d hd).1)) fun d m1 ⟨hd, hj1⟩ => ?_
  obtain ⟨hk, hsome⟩ := hall d hd
  have hk := gk_iff.mp hk
  have hJ1 := hj1.js h
  have hwr := wrow_ok H (m := m1) (show 2 ≤ n by omega) (sz := ns.length) hk.1
  have hnr := nrow_ok H (show 3 ≤ n by omega) hJ1.nl hN hk.1
  have hA := hrd_gd (d := .none) (okW_R ns.length d) rfl
  have hsame := same_ok H (m := m1) hA.1 (n := n) (by have := hA.2; simp [PyData.depth] at this; omega)
  cases e : wrongR ns.length d with
  | none => rw [e] at hsome; cases hsome
  | some p =>
    obtain ⟨c, y⟩ := p
    rw [e] at hwr hnr hsame
    simp only [wr, res, hrd] at hwr hnr hsame
    simp [hwr, hnr, hsame]
    exact hj1
end
end SS.K90
end PT_P24
section PT_P25
set_option Elab.async false
set_option linter.all false
set_option maxRecDepth 100000
set_option maxHeartbeats 2000000
namespace SS.K90
open PySem SS
open TL (tl)
theorem idx_gk {sz : Int} {d : D} (h : idxOk sz d = true) : gk 0 d = true := by
  unfold idxOk at h
  split at h
  · rw [gk_iff]
    exact ⟨gd_int _, by simp [PyData.depth]⟩
  · cases h
section
variable {tab : Nat → Option Fn} (H : Tb tab) {n j : Nat} {m : Mem}
include H
theorem row_drawn (hn : 4 ≤ n) (h : Js m j) {ns : List Str} (hN : Nms ns) : wp (evE (fnsN tab 8 n) 8 (.ite (.cmp .gt (.v 2) (.c (.int 0))) (.bi 0 true .tuple (.cons (.comp true (.call 0 14 (.cons (.v 0) (.cons (.v 2) .nil))) (.nm 10) (.range 0 (.cons (.call 0 14 (.cons (.v 0) (.cons (.c (.int 15)) .nil))) .nil)) .none [10]) .nil)) (.tup .nil)) [some (loc j), some (nmD ns), some (.int ns.length), none, none, none, none, none, none, none, none] m) fun d m' => (∃ xs, d = .tuple xs ∧ xs.length ≤ 14 ∧ ∀ d ∈ xs, idxOk ns.length d = true) ∧ Jd m m' j := by
  have hnl := hN.len
  simp only [e_ite, t_cmp, e_v, e_c, K1.d, List.getElem?_cons_zero, List.getElem?_cons_succ, getV_ok, bind_ok, c_gt_int]
  by_cases h0 : (0 : Int) < ns.length
  · simp only [h0, decide_true, if_true, e_bi, es_cons, es_nil]
    rw [wp_bind, wp_bind, e_comp, i_range]
    simp only [es_cons, es_nil, e_call, e_v, e_c, K1.d, List.getElem?_cons_zero, List.getElem?_cons_succ, getV_ok, bind_ok]
    simp only [wp_bind]
    refine wp_mono (take_ok H (by omega) h (by omega) (by omega)) fun d m1 ⟨⟨k, e, hk0, hk1⟩, hj1⟩ => ?_
    subst e
    have hJ1 := hj1.js h
    obtain ⟨k, rfl⟩ := Int.eq_ofNat_of_zero_le hk0
    simp only [wp_ok]
    rw [range_1 (small1 (by unfold line; omega))]
    simp only [wp_ok]
    refine wp_mono (comp_wp (fun m' => Jd m m' j) (fun d => idxOk ns.length d = true) (fun _ _ => trivial) hj1 fun d hd m' hm' => ?_) fun xs m2 ⟨hl, hx, hj2⟩ => ?_
    · have hJ' := hm'.js h
      simp [evC]
      rw [wp_bind]
      refine wp_mono (take_ok H (by omega) hJ' (t := ns.length) (by omega) (by omega)) fun y m2 ⟨⟨k, e, hk0, hk1⟩, hj⟩ => ?_
      subst e
      rw [wp_ok]
      exact ⟨⟨_, rfl, by simp [idxOk, hk0, hk1]⟩, hm'.trans hj⟩
    · rw [range_length] at hl
      rw [newL_true (by unfold line; omega)]
      simp only [wp_ok, bi_tupleL]
      exact ⟨⟨xs, rfl, by omega, hx⟩, hj2⟩
  · simp only [h0, decide_false, Bool.false_eq_true, if_false, e_tup, es_nil, bind_ok, nil_tup, wp_ok]
    exact ⟨⟨[], rfl, by simp, by simp⟩, h.refl⟩
theorem rows_ok (hn : 12 ≤ n) (h : Js m j) {ns : List Str} (hN : Nms ns) : wp (fnsN tab 8 n 29 [loc j, nmD ns] m) fun d m' => d = .bool true ∧ Jd m m' j := by
  obtain ⟨n, rfl⟩ : ∃ k, n = k + 1 := ⟨n - 1, by omega⟩
  refine call_wp (t__law_rows_right H) rfl ?_
  show wp (evSs _ 8 b__law_rows_right [some (loc j), some (nmD ns), none, none, none, none, none, none, none, none, none] m) _
  unfold b__law_rows_right
  have hnl := hN.len
  simp only [xs_cons, x_set, e_bi, es_cons, es_nil, e_v, List.getElem?_cons_zero, List.getElem?_cons_succ, getV_ok, bind_ok, bi_lenT, List.length_map, seq_nx, List.set_cons_succ, List.set_cons_zero]
  rw [wp_seq, wp_bind]
  refine wp_mono (row_drawn H (by omega) h hN) fun d m1 ⟨⟨xs, e, hl, hx⟩, hj1⟩ => ?_
  subst e
  have hJ1 := hj1.js h
  simp only [wp_ok, List.set_cons_succ, List.set_cons_zero]
  have hA := row_asc hN hx (B := 200) (by omega)
  have hok := hA.ok (by unfold line; omega)
  obtain ⟨hr1, hr2⟩ := row_read hN hx (by omega)
  have hr3 := row_right hx (by omega)
  have hxk : ∀ d ∈ xs, gk 0 d = true := fun d hd => idx_gk (hx d hd)
  have hxg := gk_iff.mp (gk_tuple hxk (by unfold line; omega))
  -- what holds in each memory
  have f1 : ∀ m : Mem, fnsN tab 8 n 20 [nmD ns, .tuple xs] m = .ok (.str (rowT ns (.tuple xs))) m := fun m => ntext_ok H (by omega) hN hx (by omega)
  have f2 : ∀ m : Mem, m.all nlO = true → fnsN tab 8 n 5 [nmD ns, .tuple xs] m = .ok (.str (rowT ns (.tuple xs))) m := fun m hm => by
    have := nrow_ok H (show 3 ≤ n by omega) hm hN hxg.1
    rw [hr3] at this
    exact this
  have f3 : ∀ m : Mem, m.all nlO = true → fnsN tab 8 n 6 [nmD ns, .str (rowT ns (.tuple xs))] m = .ok (.tuple xs) m := fun m hm => by
    have := read_ok H (show 3 ≤ n by omega) hm hN hok.gd
    rw [hr1] at this
    simp only [res, readD, hr2] at this
    exact this
  have hT := told_gd hok
  have f4 : ∀ m : Mem, fnsN tab 8 n 8 [.tuple [.str "told", .str (rowT ns (.tuple xs))], .tuple [.str "told", .str (rowT ns (.tuple xs))]] m = .ok (.bool true) m := fun m => same_ok H hT.1 (by have := hT.2; omega)
  have hT2 := hrd_gd (o := none) rfl hxg.1
  have f5 : ∀ m : Mem, fnsN tab 8 n 8 [.tuple [.str "told", .tuple xs], .tuple [.str "told", .tuple xs]] m = .ok (.bool true) m := fun m => same_ok H hT2.1 (by have h1 := hT2.2; have h2 := hxg.2; simp only [hrd] at h1 ⊢; omega)
  generalize rowT ns (.tuple xs) = x at hA hok hr1 hr2 f1 f2 f3 f4 f5
  have f2' := f2 m1 hJ1.nl
  have f3' := f3 m1 hJ1.nl
  simp only [xs_cons, x_set, x_ifs, t_nt, t_tells, e_tells, e_call, es_cons, es_nil, e_v, List.getElem?_cons_zero, List.getElem?_cons_succ, getV_ok, bind_ok, f1, f2', f3', said_ok, f4, f5, tr_bool, Bool.not_true, Bool.false_eq_true, if_false, xs_nil, seq_nx, List.set_cons_succ, List.set_cons_zero]
  -- the texts
  rw [x_for, i_e, wp_seq]
  simp only [e_call, es_cons, es_nil, e_v, List.getElem?_cons_zero, List.getElem?_cons_succ, getV_ok, bind_ok]
  simp only [wp_bind]
  refine wp_mono (texts_ok H (by omega) hJ1 (by rw [nl_tuple]; exact nlAll_strs _) hA) fun d m2 ⟨⟨ys, e, hy⟩, hj2⟩ => ?_
  subst e
  have hJ2 := hj2.js hJ1
  rw [walk_list']
  simp only [wp_ok]
  refine wp_mono (for_wp (fun k sd m' => m' = m2 ∧ ∃ o, sd = [some (loc j), some (nmD ns), some (.int ns.length), some (.tuple xs), some (.str x), o, none, none, none, none, none]) (fun _ _ => False) ⟨rfl, _, rfl⟩ (fun _ _ _ _ => trivial) fun k d sd m' hk ⟨hm', o, hs⟩ => ?_) fun p m' hp => ?_
  · subst hs hm'
    rw [List.getElem?_map, Option.map_eq_some_iff] at hk
    obtain ⟨y, hy', rfl⟩ := hk
    have ht := tright_ok H (show 8 ≤ n by omega) hJ2.nl hN (hy y (List.mem_of_getElem? hy'))
    unfold l__law_rows_right_2
    simp [ht]
  obtain ⟨fl, sd⟩ := p
  cases fl with
  | nx =>
    obtain ⟨rfl, o, rfl⟩ := hp
    simp only [xs_cons, x_set, e_call, e_bin, e_bi, es_cons, es_nil, e_v, e_c, K1.d, List.getElem?_cons_zero, List.getElem?_cons_succ, getV_ok, bind_ok, bi_lenT, b_add]
    simp only [wp_seq, wp_bind]
    refine wp_mono (take_ok H (by omega) hJ2 (by omega) (by omega)) fun d m3 ⟨⟨a, e, ha0, ha1⟩, hj3⟩ => ?_
    subst e
    have hJ3 := hj3.js hJ2
    have hJJ3 := (hj1.trans hj2).trans hj3
    simp only [wp_ok, List.set_cons_succ, List.set_cons_zero]
    -- the odd things
    rw [xs_cons, x_for, i_e]
    have hodd : ∃ w, evE (fnsN tab 8 n) 8 (.ite (.cmp .gt (.v 2) (.c (.int 0))) (.ix (.v 1) (.c (.int 0))) (.c (.str "a"))) [some (loc j), some (nmD ns), some (.int ns.length), some (.tuple xs), some (.str x), o, some (.int a), none, none, none, none] m3 = .ok w m3 ∧ gk 0 w = true ∧ idxOk ns.length w = false := by
      cases ns with
      | nil =>
        refine ⟨.str "a", by simp [K1.d], by decide +kernel, rfl⟩
      | cons z r =>
        have h0 : (0 : Int) < ((z :: r).length : Int) := by simp
        refine ⟨.str z, by simp [K1.d], gk_str (name_ok (hN.ok z (by simp))), rfl⟩
    obtain ⟨w, hw, hwk, hwb⟩ := hodd
    simp only [e_lst, e_neg, es_cons, es_nil, e_v, e_c, K1.d, List.getElem?_cons_zero, List.getElem?_cons_succ, getV_ok, bind_ok, negR_int, hw]
    rw [newL_true (by unfold line; simp)]
    simp only [bind_ok, walk_list', wp_seq]
    have hall : ∀ d ∈ [PyData.int ns.length, .int (-1), .bool true, .none, w], gk 0 d = true ∧ idxOk ns.length d = false := by
      intro d hd
      simp only [List.mem_cons, List.not_mem_nil, or_false] at hd
      rcases hd with rfl | rfl | rfl | rfl | rfl
      · exact ⟨gk_iff.mpr ⟨gd_int _, by simp [PyData.depth]⟩, by simp [idxOk]⟩
      · exact ⟨by decide +kernel, rfl⟩
      · exact ⟨by decide +kernel, rfl⟩
      · exact ⟨by decide +kernel, rfl⟩
      · exact ⟨hwk, hwb⟩
    refine wp_mono (for_wp (fun k sd m' => Jd m m' j ∧ ∃ o7 o8 o9, sd = [some (loc j), some (nmD ns), some (.int ns.length), some (.tuple xs), some (.str x), o, some (.int a), o7, o8, o9, none]) (fun _ _ => False) ⟨hJJ3, _, _, _, rfl⟩ (fun _ _ _ _ => trivial) fun k d sd m' hk ⟨hm', o7, o8, o9, hs⟩ => ?_) fun p m' hp => ?_
    · subst hs
      obtain ⟨hd1, hd2⟩ := hall d (List.mem_of_getElem? hk)
      simp only [asg_nm, List.length_cons, List.length_nil, Nat.reduceAdd, Nat.reduceLT, if_true, opt_some, bind_ok, List.set_cons_succ, List.set_cons_zero]
      refine wp_mono (rows_turn H (by omega) (hm'.js h) hN hxk (by omega) hd1 hd2) fun p m2 ⟨hp, ⟨o8, o9, hs⟩, hj⟩ => ?_
      obtain ⟨fl, sd⟩ := p
      have hp : fl = .nx := hp
      subst hp
      exact ⟨hm'.trans hj, _, o8, o9, hs⟩
    · obtain ⟨fl, sd⟩ := p
      cases fl with
      | nx =>
        obtain ⟨hj4, o7, o8, o9, rfl⟩ := hp
        have hJ4 := hj4.js h
        have f2'' := f2 m' hJ4.nl
        simp only [xs_cons, x_ret, e_tells, e_call, es_cons, es_nil, e_v, List.getElem?_cons_zero, List.getElem?_cons_succ, getV_ok, bind_ok, f2'', said_ok, f4, seq_ret, wp_ok]
        exact left_jd h hj4 rfl rfl ⟨rfl, hj4⟩
      | _ => exact hp.elim
  | _ => exact hp.elim
end
end SS.K90
end PT_P25
section PT_P26
set_option Elab.async false
set_option linter.all false
set_option maxRecDepth 100000
set_option maxHeartbeats 2000000
namespace SS.K90
open PySem SS
open TL (tl)
theorem rep_eq {α : Type} {k : Nat} {w : α} : (List.replicate k [w]).flatten = List.replicate k w := by
  induction k with
  | zero => rfl
  | succ k ih => rw [List.replicate_succ, List.replicate_succ, List.flatten_cons, ih]; rfl
theorem b_repL {m : Mem} {w : D} {k : Nat} (h : k ≤ 1000) : bop true .mul (.list [w]) (.int k) m = .ok (.list (List.replicate k w)) m := by
  have e : bop true .mul (.list [w]) (.int k) m = guard (-(2 ^ 63) ≤ (k : Int) ∧ (k : Int) < 2 ^ 63 ∧ [w].length * (k : Int).toNat ≤ line) (newL true (List.replicate (k : Int).toNat [w]).flatten m) := rfl
  rw [e, guard_pos _ ⟨by omega, by omega, by simp; unfold line; omega⟩, rep_eq, Int.toNat_natCast]
  exact newL_true (by rw [List.length_replicate]; unfold line; omega)
theorem atI_last {α : Type} {xs : List α} (h : xs ≠ []) : atI xs (-1) = xs[xs.length - 1]? := by
  have hp := List.length_pos_iff.mpr h
  unfold atI L2.atI L2.ixN
  rw [if_neg (by omega), if_pos (by omega)]
  simp only [Option.bind_some]
  congr 1
  omega
section
variable {tab : Nat → Option Fn} (H : Tb tab) {n j : Nat} {m : Mem}
include H
theorem long_turn (hn : 10 ≤ n) (h : Js m j) {ns : List Str} (hN : Nms ns) (hne : ns ≠ []) {k : Nat} (hk : 2 ≤ k ∧ k ≤ 301) {o3 o4 o5 : Option D} : wp (evSs (fnsN tab 8 n) 8 l__law_long_right_1 [some (loc j), some (nmD ns), some (.int k), o3, o4, o5, none] m) fun p m' => p.1 = .nx ∧ (∃ o3 o4 o5, p.2 = [some (loc j), some (nmD ns), some (.int k), o3, o4, o5, none]) ∧ Jd m m' j := by
  unfold l__law_long_right_1
  have hnl := hN.len
  have hp := List.length_pos_iff.mpr hne
  rw [xs_cons, x_set, wp_seq, wp_bind, e_me]
  simp only [e_c, K1.d, bind_ok, rd_str, mt_join, guard_tt, guard_T]
  rw [wp_bind]
  simp only [es_cons, es_nil]
  rw [wp_bind, e_comp, i_range]
  simp only [es_cons, es_nil, e_v, List.getElem?_cons_zero, List.getElem?_cons_succ, getV_ok, bind_ok]
  rw [range_1 (small1 (by unfold line; omega))]
  simp only [bind_ok]
  rw [wp_bind]
  refine wp_mono (comp_wp (fun m' => Jd m m' j) (fun d => ∃ x, d = .str x ∧ x ∈ ns) (fun _ _ => trivial) h.refl fun d hd m' hm' => ?_) fun xs m1 ⟨hl, hx, hj1⟩ => ?_
  · have hJ' := hm'.js h
    simp [evC]
    rw [wp_bind]
    refine wp_mono (one_ok H (by omega) hJ' (.inr (rd_tuple _ _)) tuple_ne (by simpa using hne) (by rw [List.length_map]; omega) (nlAll_strs ns)) fun y m2 ⟨hy, hj⟩ => ?_
    rw [wp_ok]
    obtain ⟨x, hx, rfl⟩ := List.mem_map.mp hy
    exact ⟨⟨_, rfl, x, rfl, hx⟩, hm'.trans hj⟩
  · obtain ⟨ys, rfl, hy⟩ := strs_of hx
    rw [range_length, List.length_map] at hl
    have hJ1 := hj1.js h
    have hs := sum_le (xs := ys) (b := 12) fun y hy' => (name_len (hN.ok y (hy y hy'))).2
    rw [newL_true (by rw [List.length_map]; unfold line; omega)]
    have hjn := me_joinL (m := m1) (fz := true) (x := " ") (ys := ys) (by
      rw [show (Str.ofString " ").length = 1 by decide]
      unfold line
      omega)
    have hA : Asc (Txt.join " " ys) 4000 := asc_join (fun y hy' => (name_asc (hN.ok y (hy y hy'))).lt) asc_sp (by decide) (by omega)
    generalize Txt.join " " ys = x at hjn hA
    have ht := tright_ok H (show 8 ≤ n by omega) hJ1.nl hN (hA.ok (by unfold line; omega))
    have g1 : ∀ (w : D) (m : Mem), guard ([w].length ≤ line) (.ok (PyData.tuple [w]) m) = .ok (PyData.tuple [w]) m := fun w m => guard_pos _ (by unfold line; simp)
    have g2 : ∀ (w : D) (m : Mem), newL true [w] m = .ok (.list [w]) m := fun w m => newL_true (by unfold line; simp)
    have hr : bop true .mul (.tuple [.int ((ns.length : Int) - 1)]) (.int k) m1 = .ok (.tuple (List.replicate k (.int ((ns.length : Int) - 1)))) m1 := by
      rw [b_repT ⟨by simp, by omega, by omega, by simp⟩, rep_eq, Int.toNat_natCast]
    have hi : idxOk ns.length (.int ((ns.length : Int) - 1)) = true := by simp [idxOk]; omega
    have hix : ∀ d ∈ List.replicate k (PyData.int ((ns.length : Int) - 1)), idxOk ns.length d = true := fun d hd => by rw [(List.mem_replicate.mp hd).2]; exact hi
    have hrg := gk_iff.mp (gk_tuple (fun d hd => idx_gk (hix d hd)) (by rw [List.length_replicate]; unfold line; omega))
    have hrow := nrow_ok H (show 3 ≤ n by omega) hJ1.nl hN hrg.1
    simp only [bind_ok, wp_ok, List.set_cons_succ, List.set_cons_zero, hjn, xs_cons, x_set, x_ifs, t_nt, t_call, e_call, e_bin, e_bi, e_tup, es_cons, es_nil, e_v, e_c, K1.d, List.getElem?_cons_zero, List.getElem?_cons_succ, getV_ok, ht, tr_bool, Bool.not_true, Bool.false_eq_true, if_false, xs_nil, seq_nx, bi_lenT, List.length_map, b_sub, g1, hr]
    by_cases h3 : k = 301
    · subst h3
      have hW : wrongR ns.length (.tuple (List.replicate 301 (.int ((ns.length : Int) - 1)))) = some (("TooMany" : Str), PyData.int 301) := by
        simp only [wrongR, List.length_replicate]
        rfl
      rw [hW] at hrow
      simp only [res] at hrow
      have hs : fnsN tab 8 n 8 [.tuple [.str "TooMany", .int 301], .tuple [.str "TooMany", .int 301]] m1 = .ok (.bool true) m1 := same_ok H (by decide +kernel) (by simp [PyData.depth, PyData.depthAll]; omega)
      simp [K1.d, lit2, hrow, hs, -List.reduceReplicate]
      exact hj1
    · have hlast : (ns.map PyData.str)[ns.length - 1]? = some (.str ns[ns.length - 1]) := by
        rw [List.getElem?_map, List.getElem?_eq_getElem (by omega)]
        rfl
      have hneg : ∀ m : Mem, ixD (nmD ns) (.int (-1)) m = .ok (.str ns[ns.length - 1]) m := fun m => by
        rw [ix_tuple, atI_last (by simpa using hne), List.length_map, hlast]
        rfl
      have hlm := hN.ok _ (List.getElem_mem (show ns.length - 1 < ns.length by omega))
      have hna : nameAt ns (.int ((ns.length : Int) - 1)) = ns[ns.length - 1] := by
        obtain ⟨i, e, hi', q⟩ := nameAt_ok hi
        have e : (ns.length : Int) - 1 = i := PyData.int.inj e
        have : i = ns.length - 1 := by omega
        subst this
        rw [List.getElem?_eq_getElem hi'] at q
        exact (Option.some.inj q).symm
      have hW := row_right hix (by rw [List.length_replicate]; omega)
      have hT : rowT ns (.tuple (List.replicate k (.int ((ns.length : Int) - 1)))) = Txt.join " " (List.replicate k ns[ns.length - 1]) := by
        show Txt.join " " _ = _
        rw [List.map_replicate, hna]
      rw [hW, hT] at hrow
      simp only [res] at hrow
      have hmul : ∀ m : Mem, bop true .mul (.list [.str ns[ns.length - 1]]) (.int k) m = .ok (.list ((List.replicate k ns[ns.length - 1]).map .str)) m := fun m => by
        rw [b_repL (by omega), List.map_replicate]
      have hsum := sum_le (xs := List.replicate k ns[ns.length - 1]) (b := 12) fun y hy' => by
        rw [(List.mem_replicate.mp hy').2]
        exact (name_len hlm).2
      rw [List.length_replicate] at hsum
      have hjn2 : ∀ m : Mem, meD true .join (.str " ") [.list ((List.replicate k ns[ns.length - 1]).map .str)] m = .ok (.str (Txt.join " " (List.replicate k ns[ns.length - 1]))) m := fun m => me_joinL (by
        rw [show (Str.ofString " ").length = 1 by decide, List.length_replicate]
        unfold line
        omega)
      have hA2 : Asc (Txt.join " " (List.replicate k ns[ns.length - 1])) 4000 := asc_join (fun y hy' => by
        rw [(List.mem_replicate.mp hy').2]
        exact (name_asc hlm).lt) asc_sp (by decide) (by rw [List.length_replicate]; omega)
      generalize Txt.join " " (List.replicate k ns[ns.length - 1]) = z at hrow hjn2 hA2
      have hT := told_gd (hA2.ok (by unfold line; omega))
      have hs := same_ok H (m := m1) hT.1 (n := n) (by have := hT.2; omega)
      simp only [xs_cons, x_set, x_ifs, t_nt, t_call, t_cmp, e_ite, e_call, e_heard, e_bin, e_bi, e_tup, e_lst, e_ix, e_neg, e_me, es_cons, es_nil, e_v, e_c, K1.d, List.getElem?_cons_zero, List.getElem?_cons_succ, getV_ok, bind_ok, c_lt_int, show (k : Int) < 301 by omega, decide_true, if_true, negR_int, hneg, g2, hmul, rd_str, mt_join, guard_tt, guard_T, hjn2, lit2, seq_nx, List.set_cons_succ, List.set_cons_zero, hrow, said_ok, List.length_cons, List.length_nil, Nat.reduceAdd, hs, tr_bool, Bool.not_true, Bool.false_eq_true, if_false, xs_nil, wp_ok]
      exact ⟨trivial, ⟨_, _, _, rfl⟩, hj1⟩
end
end SS.K90
end PT_P26
section PT_P27
set_option Elab.async false
set_option linter.all false
set_option maxRecDepth 100000
set_option maxHeartbeats 2000000
namespace SS.K90
open PySem SS
open TL (tl)
theorem mul_a (k : Nat) : tl (Txt.mul "a" (k : Int)) = List.replicate k 97 := by
  have h : (Str.ofString "a") = ⟨#[97]⟩ := by decide +kernel
  have := PyProof.Rows.mul_one_list 97 (k : Int)
  rw [← h, Int.toNat_natCast] at this
  exact this
theorem mul_a_ok : Asc (Txt.mul "a" 400001) 400001 ∧ (Txt.mul "a" 400001).length = 400001 := by
  have h := mul_a 400001
  rw [show ((400001 : Nat) : Int) = 400001 from rfl] at h
  have hl : (Txt.mul "a" 400001).length = 400001 := by rw [TL.len_tl, h, List.length_replicate]
  refine ⟨⟨fun c hc => ?_, Nat.le_of_eq hl⟩, hl⟩
  rw [h] at hc
  rw [(List.mem_replicate.mp hc).2]
  decide
theorem readO_long {ns : List Str} {x : Str} (h : 400000 < x.length) : readO ns (.str x) = some (("TooMany" : Str), PyData.int x.length) := by
  simp only [readO, wrongT, if_pos h]
section
variable {F : Fns} {same : Nat} {sd : Env} {m : Mem}
noncomputable def callvR (F : Fns) (same : Nat) (es : Es) (sd : Env) (o : Option (Option D)) (m : Mem) : R D := match o with
  | some (some d) => (match fnOf d with
    | some f => (evEs F same es sd m).bind fun ds m => F f ds m
    | none => .no)
  | _ => .no
theorem e_callv (i : Nat) (es : Es) : evE F same (.callv i es) sd m = callvR F same es sd sd[i]? m := by
  simp only [evE]
  rfl
theorem callv_fn (es : Es) (f : Nat) : callvR F same es sd (some (some (fnv f))) m = (evEs F same es sd m).bind fun ds m => F f ds m := by
  unfold callvR
  simp only [fnOf_fnv]
end
section
variable {tab : Nat → Option Fn} (H : Tb tab) {n j : Nat} {m : Mem}
include H
theorem long_ok (hn : 12 ≤ n) (h : Js m j) {ns : List Str} (hN : Nms ns) (hne : ns ≠ []) : wp (fnsN tab 8 n 30 [loc j, nmD ns] m) fun d m' => d = .bool true ∧ Jd m m' j := by
  obtain ⟨n, rfl⟩ : ∃ k, n = k + 1 := ⟨n - 1, by omega⟩
  refine call_wp (t__law_long_right H) rfl ?_
  show wp (evSs _ 8 b__law_long_right [some (loc j), some (nmD ns), none, none, none, none, none] m) _
  unfold b__law_long_right
  rw [xs_cons, x_for, i_e]
  simp only [e_lst, es_cons, es_nil, e_c, K1.d, bind_ok]
  rw [newL_true (by unfold line; simp)]
  simp only [bind_ok, walk_list', wp_seq]
  refine wp_mono (for_wp (fun k sd m' => Jd m m' j ∧ ∃ o2 o3 o4 o5, sd = [some (loc j), some (nmD ns), o2, o3, o4, o5, none]) (fun _ _ => False) ⟨h.refl, _, _, _, _, rfl⟩ (fun _ _ _ _ => trivial) fun k d sd m' hk ⟨hm', o2, o3, o4, o5, hs⟩ => ?_) fun p m' hp => ?_
  · subst hs
    obtain ⟨t, rfl, ht⟩ : ∃ t : Nat, d = .int t ∧ 2 ≤ t ∧ t ≤ 301 := by
      have hd := List.mem_of_getElem? hk
      simp only [List.mem_cons, List.not_mem_nil, or_false] at hd
      rcases hd with rfl | rfl | rfl
      · exact ⟨299, rfl, by omega, by omega⟩
      · exact ⟨300, rfl, by omega, by omega⟩
      · exact ⟨301, rfl, by omega, by omega⟩
    simp only [asg_nm, List.length_cons, List.length_nil, Nat.reduceAdd, Nat.reduceLT, if_true, opt_some, bind_ok, List.set_cons_succ, List.set_cons_zero]
    refine wp_mono (long_turn H (by omega) (hm'.js h) hN hne ht) fun p m2 ⟨hp, ⟨o3, o4, o5, hs⟩, hj⟩ => ?_
    obtain ⟨fl, sd⟩ := p
    have hp : fl = .nx := hp
    subst hp
    exact ⟨hm'.trans hj, _, o3, o4, o5, hs⟩
  · obtain ⟨fl, sd⟩ := p
    cases fl with
    | nx =>
      obtain ⟨hj, o2, o3, o4, o5, rfl⟩ := hp
      have hJ := hj.js h
      obtain ⟨hA, hl⟩ := mul_a_ok
      have hm : ∀ m : Mem, bop true .mul (.str "a") (.int 400001) m = .ok (.str (Txt.mul "a" 400001)) m := fun m => b_repS ⟨by omega, by omega, by rw [show (Str.ofString "a").length = 1 by decide]; unfold line; omega⟩
      generalize Txt.mul "a" 400001 = x at hA hl hm
      have hr := read_ok H (show 3 ≤ n by omega) hJ.nl hN (hA.ok (by unfold line; omega)).gd
      have hO : readO ns (.str x) = some (("TooMany" : Str), PyData.int x.length) := readO_long (by omega)
      rw [show (x.length : Int) = 400001 by omega] at hO
      rw [hO] at hr
      simp only [res] at hr
      have hs : fnsN tab 8 n 8 [.tuple [.str "TooMany", .int 400001], .tuple [.str "TooMany", .int 400001]] m' = .ok (.bool true) m' := same_ok H (by decide +kernel) (by simp [PyData.depth, PyData.depthAll]; omega)
      simp only [xs_cons, x_ret, e_refuses, e_call, e_bin, es_cons, es_nil, e_v, e_c, K1.d, List.getElem?_cons_zero, List.getElem?_cons_succ, getV_ok, bind_ok, hm, hr, said_ex, hs, seq_ret, wp_ok]
      exact left_jd h hj rfl rfl ⟨rfl, hj⟩
    | _ => exact hp.elim
theorem refused_ok (hn : 12 ≤ n) (h : Js m j) {ns : List Str} (hN : Nms ns) : wp (fnsN tab 8 n 31 [loc j, nmD ns] m) fun d m' => d = .bool true ∧ Jd m m' j := by
  obtain ⟨n, rfl⟩ : ∃ k, n = k + 1 := ⟨n - 1, by omega⟩
  refine call_wp (t__law_refused_right H) rfl ?_
  show wp (evSs _ 8 b__law_refused_right [some (loc j), some (nmD ns), none, none, none, none, none] m) _
  unfold b__law_refused_right
  have g99 : ∀ m : Mem, guard ([PyData.int 99].length ≤ line) (.ok (PyData.tuple [.int 99]) m) = .ok (PyData.tuple [.int 99]) m := fun m => guard_pos _ (by unfold line; simp)
  have g0 : ∀ m : Mem, newL true [PyData.int 0] m = .ok (.list [PyData.int 0]) m := fun m => newL_true (by unfold line; simp)
  have gn : ∀ m : Mem, guard ([PyData.none].length ≤ line) (.ok (PyData.tuple [.none]) m) = .ok (PyData.tuple [.none]) m := fun m => guard_pos _ (by unfold line; simp)
  have gr : ∀ m : Mem, bop true .mul (.tuple [PyData.none]) (.int 301) m = .ok (.tuple (List.replicate (301 : Int).toNat [PyData.none]).flatten) m := fun m => b_repT ⟨by simp, by omega, by omega, by simp⟩
  have ga : ∀ m : Mem, guard ([PyData.str "a"].length ≤ line) (.ok (PyData.tuple [.str "a"]) m) = .ok (PyData.tuple [.str "a"]) m := fun m => guard_pos _ (by unfold line; simp)
  have gl : ∀ m : Mem, newL true [PyData.str "a"] m = .ok (.list [PyData.str "a"]) m := fun m => newL_true (by unfold line; simp)
  have g4 : ∀ m : Mem, newL true [PyData.none, .tuple [.int 99], .list [.int 0], .tuple (List.replicate (301 : Int).toNat [PyData.none]).flatten] m = .ok (.list [PyData.none, .tuple [.int 99], .list [.int 0], .tuple (List.replicate (301 : Int).toNat [PyData.none]).flatten]) m := fun m => newL_true (by unfold line; simp)
  have hall : ∀ d ∈ [PyData.none, .tuple [.int 99], .list [.int 0], .tuple (List.replicate (301 : Int).toNat [PyData.none]).flatten], gk 1 d = true := by
    intro d hd
    simp only [List.mem_cons, List.not_mem_nil, or_false] at hd
    rcases hd with rfl | rfl | rfl | rfl
    · decide +kernel
    · decide +kernel
    · decide +kernel
    · exact gk_tuple (fun d hd => by rw [rep_mem hd]; decide +kernel) (by rw [rep_len]; unfold line; omega)
  generalize (PyData.tuple (List.replicate (301 : Int).toNat [PyData.none]).flatten) = T at gr g4 hall
  rw [xs_cons]
  simp only [x_setT, e_tup, e_call, e_lst, e_bin, es_cons, es_nil, e_v, e_c, K1.d, List.getElem?_cons_zero, List.getElem?_cons_succ, getV_ok, bind_ok, g99, g0, gn, gr, g4]
  simp only [wp_seq, wp_bind]
  refine wp_mono (odd_ok H (by omega) h hN) fun d m1 ⟨hd, hj1⟩ => ?_
  have hJ1 := hj1.js h
  simp only [bind_ok, wp_ok, g4]
  refine wp_mono (onel_ok H (by omega) hJ1 (by simp) (by simp) (gk_nl hall)) fun r m2 ⟨hr, hj2⟩ => ?_
  have hJ2 := hj2.js hJ1
  have hJJ2 := hj1.trans hj2
  have hd := gk_iff.mp hd
  simp only [wp_ok, List.length_cons, List.length_nil, Nat.reduceAdd, lit2, asg_tup, asgs_cons, asgs_nil, asg_nm, Nat.reduceLT, if_true, Option.bind_some, List.set_cons_succ, List.set_cons_zero, opt_some]
  have hwn := wnames_ok H (m := m2) (show 2 ≤ n by omega) hd.1 (by omega)
  have hnr := nright_ok H (show 10 ≤ n by omega) hJ2.nl hd.1 (by omega)
  have hf2 : ∀ m : Mem, newL true [fnv 5, fnv 6] m = .ok (.list [fnv 5, fnv 6]) m := fun m => newL_true (by unfold line; simp)
  simp only [xs_cons, x_set, x_ifs, t_nt, t_call, e_call, es_cons, es_nil, e_v, List.getElem?_cons_zero, List.getElem?_cons_succ, getV_ok, bind_ok, hwn, seq_nx, List.set_cons_succ, List.set_cons_zero, hnr, tr_bool, Bool.not_true, Bool.false_eq_true, if_false, xs_nil]
  rw [x_for, i_e, wp_seq]
  simp only [e_lst, es_cons, es_nil, e_fn, bind_ok, hf2, walk_list']
  refine wp_mono (for_wp (fun k sd m' => m' = m2 ∧ ∃ o3, sd = [some (loc j), some (nmD ns), some (wr (wrongN d)), o3, none, some d, some r]) (fun _ _ => False) ⟨rfl, _, rfl⟩ (fun _ _ _ _ => trivial) fun k f sd m' hk ⟨hm', o3, hs⟩ => ?_) fun p m' hp => ?_
  · subst hs hm'
    simp only [asg_nm, List.length_cons, List.length_nil, Nat.reduceAdd, Nat.reduceLT, if_true, opt_some, bind_ok, List.set_cons_succ, List.set_cons_zero]
    unfold l__law_refused_right_1
    simp only [xs_cons, x_ifs, t_an, t_cmp, e_v, e_c, K1.d, List.getElem?_cons_zero, List.getElem?_cons_succ, getV_ok, bind_ok, isnot_wr]
    cases e : wrongN d with
    | none =>
      simp
    | some p =>
      have hA := hrd_gd (d := .none) (okW_N d) rfl
      have hsame := same_ok H (m := m') hA.1 (n := n) (by have := hA.2; simp [PyData.depth] at this; omega)
      have hb5 := nrow_bad H (r := r) (show 3 ≤ n by omega) hJ2.nl hd.1 (by omega) e
      have hb6 := read_bad H (r := r) (show 3 ≤ n by omega) hJ2.nl hd.1 (by omega) e
      rw [e] at hsame
      obtain ⟨c, y⟩ := p
      simp only [hrd] at hsame
      have hk := List.mem_of_getElem? hk
      simp only [List.mem_cons, List.not_mem_nil, or_false] at hk
      rcases hk with rfl | rfl
      · simp [wr, e_callv, callv_fn, hb5, hsame]
      · simp [wr, e_callv, callv_fn, hb6, hsame]
  obtain ⟨fl, sd⟩ := p
  cases fl with
  | nx =>
    obtain ⟨rfl, o3, rfl⟩ := hp
    have g5 : ∀ m : Mem, newL true [PyData.none, .int 7, .list [.str "a"], .tuple [.str "a"], .bool true] m = .ok (.list [PyData.none, .int 7, .list [.str "a"], .tuple [.str "a"], .bool true]) m := fun m => newL_true (by unfold line; simp)
    simp only [xs_cons, x_set, e_call, e_lst, e_tup, es_cons, es_nil, e_v, e_c, K1.d, List.getElem?_cons_zero, List.getElem?_cons_succ, getV_ok, bind_ok, ga, gl, g5]
    simp only [wp_seq, wp_bind]
    refine wp_mono (onel_ok H (by omega) hJ2 (by simp) (by simp) (by simp)) fun w m3 ⟨hw, hj3⟩ => ?_
    have hJ3 := hj3.js hJ2
    have hJJ := hJJ2.trans hj3
    have hw2 : gd w = true ∧ readO ns w = some (("BadText" : Str), PyData.int (-1)) := by
      simp only [List.mem_cons, List.not_mem_nil, or_false] at hw
      rcases hw with rfl | rfl | rfl | rfl | rfl
      · exact ⟨by decide +kernel, rfl⟩
      · exact ⟨by decide +kernel, rfl⟩
      · exact ⟨by decide +kernel, rfl⟩
      · exact ⟨by decide +kernel, rfl⟩
      · exact ⟨by decide +kernel, rfl⟩
    have hr := read_ok H (show 3 ≤ n by omega) hJ3.nl hN hw2.1
    rw [hw2.2] at hr
    simp only [res] at hr
    have hs : fnsN tab 8 n 8 [.tuple [.str "BadText", .int (-1)], .tuple [.str "BadText", .int (-1)]] m3 = .ok (.bool true) m3 := same_ok H (by decide +kernel) (by simp [PyData.depth, PyData.depthAll]; omega)
    simp only [wp_ok, List.set_cons_succ, List.set_cons_zero, xs_cons, x_ret, e_refuses, e_call, e_neg, es_cons, es_nil, e_v, e_c, K1.d, List.getElem?_cons_zero, List.getElem?_cons_succ, getV_ok, bind_ok, negR_int, hr, said_ex, hs, seq_ret]
    exact left_jd h hJJ rfl rfl ⟨rfl, hJJ⟩
  | _ => exact hp.elim
end
end SS.K90
end PT_P27
section PT_P28
set_option Elab.async false
set_option linter.all false
set_option maxRecDepth 100000
set_option maxHeartbeats 2000000
namespace SS.K90
open PySem SS
open TL (tl)
theorem new_js {m : Mem} (hm : m.all nlO = true) {a b : Int} (ha : 0 ≤ a) (hb : 0 ≤ b ∧ b < 2147483647) : Js (m ++ [.lst [.int a, .int b]]) m.length := by
  refine ⟨⟨a, b, by simp, ha, hb.1, hb.2⟩, ?_⟩
  rw [List.all_append, hm]
  simp [nlO]
theorem sign_comp {F : Fns} {sd : Env} {m : Mem} {p x : Str} (hp : Asc p 1) (hx : Asc x 30) (hv : 5 < sd.length) : evE F 8 (.comp true (.bin true .add (.c (.str p)) (.v 5)) (.nm 5) (.e (.c (.str x))) .none [5]) sd m = .ok (.list (x.cps.toList.map fun c => .str (p ++ SS.K90.one c))) m := by
  rw [e_comp, i_e]
  simp only [e_c, K1.d, bind_ok, walk_str']
  rw [comp_pure trivial (fun d => match d with | .str z => some (.str (p ++ z)) | _ => none) (fun d hd => by
    obtain ⟨c, _, rfl⟩ := List.mem_map.mp hd
    have hb : bop true .add (.str p) (.str ⟨#[c]⟩) m = .ok (.str (p ++ ⟨#[c]⟩)) m := b_cat (by
      have := hp.len
      rw [show (⟨#[c]⟩ : Str).length = 1 from rfl]
      unfold line
      omega)
    simp [evC, hv, K1.d, hb])]
  simp only [bind_ok]
  have hl : x.cps.toList.length ≤ 30 := by rw [← TL.len_tl]; exact hx.len
  rw [newL_true (Nat.le_trans (List.length_filterMap_le _ _) (by rw [List.length_map]; unfold line; omega))]
  congr 2
  clear hl hx
  induction x.cps.toList with
  | nil => rfl
  | cons a r ih =>
    rw [List.map_cons, List.filterMap_cons, List.map_cons, ih]
theorem signs_gk {p x : Str} (hp : Asc p 1) (hx : Asc x 30) : ∀ d ∈ x.cps.toList.map (fun c => PyData.str (p ++ SS.K90.one c)), gk 0 d = true := fun d hd => by
  obtain ⟨c, hc, rfl⟩ := List.mem_map.mp hd
  have h1 : Asc (SS.K90.one c) 1 := ⟨fun b hb => by
    have : b = c := by simpa [SS.K90.one] using hb
    rw [this]
    exact hx.lt c hc, by simp [SS.K90.one, Str.length]⟩
  exact gk_str ((hp.app h1).ok (by unfold line; omega))
section
variable {tab : Nat → Option Fn} (H : Tb tab) {n j : Nat} {m : Mem}
include H
theorem law_turn (hn : 14 ≤ n) (hm : m.all nlO = true) {zs : List Int} {k : Nat} (hk : k < 4) {o2 o3 o4 : Option D} : wp (evSs (fnsN tab 8 n) 8 l_law_2 [some (.list (zs.map PyData.int)), some (.int k), o2, o3, o4, none] m) fun p m' => p.1 = .nx ∧ m'.all nlO = true ∧ ∃ o2 o4 ns, p.2 = [some (.list (zs.map PyData.int)), some (.int k), o2, some (nmD ns), o4, none] ∧ Nms ns := by
  unfold l_law_2
  obtain ⟨a, b, hp, ha, hb⟩ := pool_ok H (show 1 ≤ n by omega) hm (ns := zs) (k := k) (by omega)
  have hJ := new_js hm ha hb
  generalize m ++ [O.lst [.int a, .int b]] = m1 at hp hJ
  generalize m.length = j at hp hJ
  rw [xs_cons]
  simp only [x_set, e_call, es_cons, es_nil, e_v, List.getElem?_cons_zero, List.getElem?_cons_succ, getV_ok, bind_ok, hp, seq_nx, List.set_cons_succ, List.set_cons_zero]
  rw [xs_cons]
  simp only [x_set, e_call, es_cons, es_nil, e_v, List.getElem?_cons_zero, List.getElem?_cons_succ, getV_ok, bind_ok]
  simp only [wp_seq, wp_bind]
  refine wp_mono (some_ok H (by omega) hJ) fun d m2 ⟨⟨ns, e, hN⟩, hj2⟩ => ?_
  subst e
  have hJ2 := hj2.js hJ
  have hnr := nright_ok H (show 10 ≤ n by omega) hJ2.nl hN.gd.1 (by have := hN.gd.2; omega)
  simp only [wp_ok, List.set_cons_succ, List.set_cons_zero]
  rw [xs_cons]
  simp only [x_ifs, t_orr, t_nt, t_call, e_call, es_cons, es_nil, e_v, List.getElem?_cons_zero, List.getElem?_cons_succ, getV_ok, bind_ok, hnr, tr_bool, Bool.not_true, Bool.false_eq_true, if_false]
  simp only [wp_seq, wp_bind]
  refine wp_mono (rows_ok H (by omega) hJ2 hN) fun d m3 ⟨e, hj3⟩ => ?_
  subst e
  have hJ3 := hj3.js hJ2
  simp only [tr_bool, wp_ok, Bool.not_true, Bool.false_eq_true, if_false, xs_nil]
  rw [xs_cons, x_for, i_range]
  simp only [es_cons, es_nil, e_c, K1.d, bind_ok]
  rw [show (4 : Int) = ((4 : Nat) : Int) from rfl, range_1 (small1 (by unfold line; omega))]
  simp only [bind_ok]
  rw [wp_seq]
  refine wp_mono (for_wp (fun k' sd m' => Jd m3 m' j ∧ ∃ o4, sd = [some (.list (zs.map PyData.int)), some (.int k), some (loc j), some (nmD ns), o4, none]) (fun _ _ => False) ⟨hJ3.refl, _, rfl⟩ (fun _ _ _ _ => trivial) fun k' d sd m' hk ⟨hm', o4, hs⟩ => ?_) fun p m' hp => ?_
  · subst hs
    unfold l_law_1
    simp only [asg_nm, List.length_cons, List.length_nil, Nat.reduceAdd, Nat.reduceLT, if_true, opt_some, bind_ok, List.set_cons_succ, List.set_cons_zero, xs_cons, x_ifs, t_nt, t_call, e_call, es_cons, es_nil, e_v, List.getElem?_cons_zero, List.getElem?_cons_succ, getV_ok]
    simp only [wp_seq, wp_bind]
    refine wp_mono (refused_ok H (by omega) (hm'.js hJ3) hN) fun d m4 ⟨e, hj4⟩ => ?_
    subst e
    simp only [tr_bool, wp_ok, Bool.not_true, Bool.false_eq_true, if_false, xs_nil]
    exact ⟨hm'.trans hj4, _, rfl⟩
  · obtain ⟨fl, sd⟩ := p
    cases fl with
    | nx =>
      obtain ⟨hj, o4, rfl⟩ := hp
      simp only [xs_nil, wp_ok]
      exact ⟨trivial, (hj.js hJ3).nl, _, _, ns, rfl, hN⟩
    | _ => exact hp.elim
theorem law_ok (hn : 16 ≤ n) (hm : m.all nlO = true) {zs : List Int} : wp (fnsN tab 8 n 32 [.list (zs.map PyData.int)] m) fun d m' => d = .bool true := by
  obtain ⟨n, rfl⟩ : ∃ k, n = k + 1 := ⟨n - 1, by omega⟩
  have hb : wp (evSs (fnsN tab 8 n) 8 b_law [some (.list (zs.map PyData.int)), none, none, none, none, none] m) fun p m' => p.1 = .ret (.bool true) := by
    unfold b_law
    rw [xs_cons, x_for, i_range]
    simp only [es_cons, es_nil, e_c, K1.d, bind_ok]
    rw [show (4 : Int) = ((4 : Nat) : Int) from rfl, range_1 (small1 (by unfold line; omega))]
    simp only [bind_ok]
    rw [wp_seq]
    refine wp_mono (for_wp (fun k sd m' => m'.all nlO = true ∧ ∃ o1 o2 o3 o4, sd = [some (.list (zs.map PyData.int)), o1, o2, o3, o4, none] ∧ (0 < k → ∃ ns, o3 = some (nmD ns) ∧ Nms ns)) (fun _ _ => False) ⟨hm, _, _, _, _, rfl, by omega⟩ (fun _ _ _ _ => trivial) fun k d sd m' hk ⟨hm', o1, o2, o3, o4, hs, _⟩ => ?_) fun p m' hp => ?_
    · subst hs
      obtain ⟨hk', rfl⟩ := range_get hk
      simp only [asg_nm, List.length_cons, List.length_nil, Nat.reduceAdd, Nat.reduceLT, if_true, opt_some, bind_ok, List.set_cons_succ, List.set_cons_zero]
      refine wp_mono (law_turn H (by omega) hm' hk') fun p m2 ⟨hp, hm2, o2, o4, ns, hs, hN⟩ => ?_
      obtain ⟨fl, sd⟩ := p
      have hp : fl = .nx := hp
      subst hp
      exact ⟨hm2, _, o2, _, o4, hs, fun _ => ⟨ns, rfl, hN⟩⟩
    · obtain ⟨fl, sd⟩ := p
      cases fl with
      | nx =>
        rw [range_length] at hp
        obtain ⟨hm', o1, o2, o3, o4, hs, h3⟩ := hp
        obtain ⟨ns, rfl, hN⟩ := h3 (by omega)
        have hs : sd = _ := hs
        subst hs
        have hns : ∀ x ∈ ns, sOk x := fun x hx => name_ok (hN.ok x hx)
        -- long
        rw [xs_cons, wp_seq]
        have hlong : wp (evS (fnsN tab 8 n) 8 (.ifs (.an (.cmp .ne (.v 3) (.tup .nil)) (.nt (.call 0 30 (.cons (.call 0 13 (.cons (.v 0) (.cons (.c (.int 4)) .nil))) (.cons (.v 3) .nil))))) (.cons (.ret (.c (.bl false))) .nil) .nil) [some (.list (zs.map PyData.int)), o1, o2, some (nmD ns), o4, none] m') fun p m2 => p = (.nx, [some (.list (zs.map PyData.int)), o1, o2, some (nmD ns), o4, none]) ∧ m2.all nlO = true := by
          simp only [x_ifs, t_an, t_cmp, t_nt, t_call, e_tup, es_nil, e_v, List.getElem?_cons_zero, List.getElem?_cons_succ, getV_ok, bind_ok, nil_tup, ne_nilT hns]
          cases hq : ns.isEmpty
          · obtain ⟨a, b, hp, ha, hb⟩ := pool_ok H (show 1 ≤ n by omega) hm' (ns := zs) (k := 4) (by omega)
            have hJ := new_js hm' ha hb
            generalize m' ++ [O.lst [.int a, .int b]] = m1 at hp hJ
            generalize m'.length = j at hp hJ
            have hp : fnsN tab 8 n 13 [.list (zs.map PyData.int), .int 4] m' = .ok (loc j) m1 := hp
            simp only [Bool.not_false, if_true, e_call, es_cons, es_nil, e_v, e_c, K1.d, List.getElem?_cons_zero, List.getElem?_cons_succ, getV_ok, bind_ok, hp]
            simp only [wp_bind]
            refine wp_mono (long_ok H (by omega) hJ hN (by intro e; rw [e] at hq; simp at hq)) fun d m2 ⟨e, hj2⟩ => ?_
            subst e
            simp only [tr_bool, wp_ok, Bool.not_true, Bool.false_eq_true, if_false, xs_nil]
            exact ⟨trivial, (hj2.js hJ).nl⟩
          · simp only [Bool.not_true, Bool.false_eq_true, if_false, bind_ok, xs_nil, wp_ok]
            exact ⟨trivial, hm'⟩
        refine wp_mono hlong fun p m2 ⟨hp, hm2⟩ => ?_
        subst hp
        have ha1 : Asc "a" 1 := ascL "a" 1 (by decide +kernel)
        have hb1 : Asc "b" 1 := ascL "b" 1 (by decide +kernel)
        have hA : Asc "abcdefghijklmnopqrstuvw" 30 := ascL _ 30 (by decide +kernel)
        have hB : Asc "abcdefghijklmnopqrstuvwxy" 30 := ascL _ 30 (by decide +kernel)
        have hc1 := fun m => sign_comp (F := fnsN tab 8 n) (sd := [some (.list (zs.map PyData.int)), o1, o2, some (nmD ns), o4, none]) (m := m) ha1 hA (by simp)
        have hc2 := fun m => sign_comp (F := fnsN tab 8 n) (sd := [some (.list (zs.map PyData.int)), o1, o2, some (nmD ns), o4, none]) (m := m) hb1 hB (by simp)
        have hk1 := signs_gk ha1 hA
        have hk2 := signs_gk hb1 hB
        have hl1 : ((Str.ofString "abcdefghijklmnopqrstuvw").cps.toList.map (fun c => PyData.str ("a" ++ SS.K90.one c))).length ≤ 30 := by rw [List.length_map, ← TL.len_tl]; exact hA.len
        have hl2 : ((Str.ofString "abcdefghijklmnopqrstuvwxy").cps.toList.map (fun c => PyData.str ("b" ++ SS.K90.one c))).length ≤ 30 := by rw [List.length_map, ← TL.len_tl]; exact hB.len
        generalize (Str.ofString "abcdefghijklmnopqrstuvw").cps.toList.map (fun c => PyData.str ("a" ++ SS.K90.one c)) = xs at hc1 hk1 hl1
        generalize (Str.ofString "abcdefghijklmnopqrstuvwxy").cps.toList.map (fun c => PyData.str ("b" ++ SS.K90.one c)) = ys at hc2 hk2 hl2
        have ga : ∀ m : Mem, guard ([PyData.str "a"].length ≤ line) (.ok (PyData.tuple [.str "a"]) m) = .ok (PyData.tuple [.str "a"]) m := fun m => guard_pos _ (by unfold line; simp)
        have hcat : ∀ m : Mem, bop true .add (.tuple [.str "a"]) (.tuple xs) m = .ok (.tuple ([PyData.str "a"] ++ xs)) m := fun m => b_catT (by simp; unfold line; omega)
        have hx : gk 1 (.tuple ([PyData.str "a"] ++ xs)) = true := gk_tuple (fun d hd => (List.mem_append.mp hd).elim (fun z => by rw [List.mem_singleton.mp z]; decide +kernel) (hk1 d)) (by simp; unfold line; omega)
        have hy : gk 1 (.tuple ys) = true := gk_tuple hk2 (by unfold line; omega)
        have hx := gk_iff.mp hx
        have hy := gk_iff.mp hy
        have h1 := nright_ok H (show 10 ≤ n by omega) hm2 hx.1 (by omega)
        have h2 := nright_ok H (show 10 ≤ n by omega) hm2 hy.1 (by omega)
        simp only [xs_cons, x_ret, e_an, e_call, e_bin, e_tup, e_bi, es_cons, es_nil, e_c, K1.d, bind_ok, ga, hc1, hc2, bi_tupleL, hcat, h1, h2, tr_bool, if_true, seq_ret, wp_ok]
      | _ => exact hp.elim
  rw [call_eq (t_law H) rfl]
  show wp (trim _ ((evSs _ 8 b_law [some (.list (zs.map PyData.int)), none, none, none, none, none] m).bind _)) _
  obtain ⟨⟨fl, sd⟩, m', e, h1⟩ := wp_ex' hb
  have h1 : fl = .ret (.bool true) := h1
  subst h1
  rw [e]
  show wp (trim m.length (.ok (.bool true) m')) _
  unfold trim
  simp only [nl_bool, if_true]
  split <;> simp
end
end SS.K90
end PT_P28
section PT_LT_k90
set_option Elab.async false
set_option linter.all false
set_option maxRecDepth 100000
set_option maxHeartbeats 0
namespace SS.K90
open PySem PySem.Spec PyProof.Rows L2 SS
abbrev P0 : Program := PySem.Challenge.pw_staysoonest_k90_rows_by_names
def topL : List Stmt := P0.main.body
def stAt (i : Nat) : Stmt := topL.getD i (.Pass ⟨0, 0, 0, 0⟩)
def fnsL : List (Str × Nat) := [("whole", 0), ("all_lines", 1), ("words_of", 2), ("is_name", 3), ("made_names", 4), ("named_row", 5), ("read_named_row", 6), ("_law_is_whole", 7), ("_law_same", 8), ("_law_pool", 13), ("_law_take", 14), ("_law_one", 15), ("_law_wrong_row", 16), ("_law_text_wrong", 17), ("_law_is_name", 18), ("_law_wrong_names", 19), ("_law_named_text", 20), ("_law_read_named_row", 21), ("_law_drawn_name", 22), ("_law_bent_text", 23), ("_law_some_names", 24), ("_law_names_right", 25), ("_law_odd_names", 26), ("_law_text_right", 27), ("_law_texts_of", 28), ("_law_rows_right", 29), ("_law_long_right", 30), ("_law_refused_right", 31), ("law", 32)]
def glsL : List (Str × D) := [("KEPT_WORDS", (.tuple [(.str "none"), (.str "from"), (.str "of"), (.str "out"), (.str "with"), (.str "apart")])), ("MOST_LETTERS", (.int 12)), ("LETTERS", (.str "abcdefghijklmnopqrstuvwxyz")), ("MOST_NAMES", (.int 24)), ("MOST_ASKS", (.int 300)), ("MOST_SIGNS", (.int 400000))]
def exsL : List Str := (["BadBook", "BadThings", "BadBars", "BadLot", "BadMany", "BadIndex", "BadOrder", "BadThing", "BadRooms", "BadRoom", "BadApart", "BadRow", "BadRule", "BadSight", "BadOther", "BadOwners", "BadCosts", "BadPrices", "BadKnown", "BadNumbers"] : List Str) ++ (["BadDeed", "BadRates", "BadHits", "BadOwner", "BadAmount", "BadClerk", "BadStamp", "BadDeeds", "BadNames", "BadPaper", "BadText", "WrongLine", "WrongPlan", "WrongUnlike", "NotHoldable", "NotOneForOne", "NoFull", "NotDone", "TooFew", "NotRoomed"] : List Str) ++ (["NotHeld", "Harm", "NothingToUndo", "NothingToRedo", "Same", "TooMany"] : List Str)
def C0 : CC := ⟨[], ⟨.function, [], false, false, []⟩, fnsL, glsL, exsL, "_law_heard", "_law_tells", "_law_refuses", true, true⟩
def d_whole : DI := ⟨"whole", 0, stAt 48, f_whole, (["thing", "low", "high"] : List Str), (["thing", "low", "high"] : List Str), false⟩
def d_all_lines : DI := ⟨"all_lines", 1, stAt 51, f_all_lines, (["text", "bound"] : List Str), (["text", "bound"] : List Str), false⟩
def d_words_of : DI := ⟨"words_of", 2, stAt 52, f_words_of, (["line"] : List Str), (["line"] : List Str), false⟩
def d_is_name : DI := ⟨"is_name", 3, stAt 59, f_is_name, (["word", "letter"] : List Str), (["word"] : List Str), false⟩
def d_made_names : DI := ⟨"made_names", 4, stAt 60, f_made_names, (["thing", "found", "index", "word"] : List Str), (["thing"] : List Str), false⟩
def d_named_row : DI := ⟨"named_row", 5, stAt 61, f_named_row, (["names", "row", "known", "index", "v"] : List Str), (["names", "row"] : List Str), false⟩
def d_read_named_row : DI := ⟨"read_named_row", 6, stAt 62, f_read_named_row, (["names", "text", "known", "lines", "numbers", "found", "at", "word", "v"] : List Str), (["names", "text"] : List Str), false⟩
def d__law_is_whole : DI := ⟨"_law_is_whole", 7, stAt 64, f__law_is_whole, (["thing"] : List Str), (["thing"] : List Str), false⟩
def d__law_same : DI := ⟨"_law_same", 8, stAt 65, f__law_same, (["told", "owed", "at"] : List Str), (["told", "owed"] : List Str), false⟩
def d__law_pool : DI := ⟨"_law_pool", 13, stAt 70, f__law_pool, (["script", "k", "cell", "big", "mixed"] : List Str), (["script", "k"] : List Str), false⟩
def d__law_take : DI := ⟨"_law_take", 14, stAt 71, f__law_take, (["jar", "top", "number"] : List Str), (["jar", "top"] : List Str), false⟩
def d__law_one : DI := ⟨"_law_one", 15, stAt 72, f__law_one, (["jar", "things"] : List Str), (["jar", "things"] : List Str), false⟩
def d__law_wrong_row : DI := ⟨"_law_wrong_row", 16, stAt 73, f__law_wrong_row, (["things", "thing", "bad", "at"] : List Str), (["things", "thing"] : List Str), false⟩
def d__law_text_wrong : DI := ⟨"_law_text_wrong", 17, stAt 74, f__law_text_wrong, (["thing", "most"] : List Str), (["thing", "most"] : List Str), false⟩
def d__law_is_name : DI := ⟨"_law_is_name", 18, stAt 75, f__law_is_name, (["thing", "sign"] : List Str), (["thing"] : List Str), false⟩
def d__law_wrong_names : DI := ⟨"_law_wrong_names", 19, stAt 76, f__law_wrong_names, (["thing", "at"] : List Str), (["thing"] : List Str), false⟩
def d__law_named_text : DI := ⟨"_law_named_text", 20, stAt 77, f__law_named_text, (["names_of", "row", "v"] : List Str), (["names_of", "row"] : List Str), false⟩
def d__law_read_named_row : DI := ⟨"_law_read_named_row", 21, stAt 78, f__law_read_named_row, (["names_of", "text", "wrong", "lines_now", "said", "bad", "word", "at"] : List Str), (["names_of", "text"] : List Str), false⟩
def d__law_drawn_name : DI := ⟨"_law_drawn_name", 22, stAt 79, f__law_drawn_name, (["jar", "most", "many", "name", "go"] : List Str), (["jar", "most"] : List Str), false⟩
def d__law_bent_text : DI := ⟨"_law_bent_text", 23, stAt 80, f__law_bent_text, (["jar", "text", "lines_now", "k", "form", "at", "sign"] : List Str), (["jar", "text"] : List Str), false⟩
def d__law_some_names : DI := ⟨"_law_some_names", 24, stAt 81, f__law_some_names, (["jar", "found", "go", "name", "near", "some"] : List Str), (["jar"] : List Str), false⟩
def d__law_names_right : DI := ⟨"_law_names_right", 25, stAt 82, f__law_names_right, (["thing", "wrong"] : List Str), (["thing"] : List Str), true⟩
def d__law_odd_names : DI := ⟨"_law_odd_names", 26, stAt 83, f__law_odd_names, (["jar", "called", "at", "weird", "found"] : List Str), (["jar", "called"] : List Str), false⟩
def d__law_text_right : DI := ⟨"_law_text_right", 27, stAt 84, f__law_text_right, (["called", "text", "owed"] : List Str), (["called", "text"] : List Str), true⟩
def d__law_texts_of : DI := ⟨"_law_texts_of", 28, stAt 85, f__law_texts_of, (["jar", "called", "text", "said", "at", "word", "found"] : List Str), (["jar", "called", "text"] : List Str), false⟩
def d__law_rows_right : DI := ⟨"_law_rows_right", 29, stAt 86, f__law_rows_right, (["jar", "called", "n", "asked", "text", "one", "at", "weird", "bad", "wrong", "go"] : List Str), (["jar", "called"] : List Str), true⟩
def d__law_long_right : DI := ⟨"_law_long_right", 30, stAt 87, f__law_long_right, (["jar", "called", "many", "text", "asked", "owed", "go"] : List Str), (["jar", "called"] : List Str), true⟩
def d__law_refused_right : DI := ⟨"_law_refused_right", 31, stAt 88, f__law_refused_right, (["jar", "called", "wrong", "deed", "weird", "bad", "wrong_row"] : List Str), (["jar", "called"] : List Str), true⟩
def d_law : DI := ⟨"law", 32, stAt 89, f_law, (["script", "go", "jar", "called", "turn", "one"] : List Str), (["script"] : List Str), false⟩
def dis : List DI := [d_whole, d_all_lines, d_words_of, d_is_name, d_made_names, d_named_row, d_read_named_row, d__law_is_whole, d__law_same, d__law_pool, d__law_take, d__law_one, d__law_wrong_row, d__law_text_wrong, d__law_is_name, d__law_wrong_names, d__law_named_text, d__law_read_named_row, d__law_drawn_name, d__law_bent_text, d__law_some_names, d__law_names_right, d__law_odd_names, d__law_text_right, d__law_texts_of, d__law_rows_right, d__law_long_right, d__law_refused_right, d_law]
def T : LT := ⟨P0, C0, dis, 8, exsL, "_law_classes", stAt 66, stAt 67, some (stAt 68), some (stAt 69), "refused_one", (["deed", "owed"] : List Str), (["deed", "name", "what"] : List Str)⟩
theorem bd_whole : Bd "whole" (stAt 48) (["thing", "low", "high"] : List Str) := fun _ _ _ _ _ _ us hl => match us, hl with
  | [_, _, _], _ => rfl
theorem bd_all_lines : Bd "all_lines" (stAt 51) (["text", "bound"] : List Str) := fun _ _ _ _ _ _ us hl => match us, hl with
  | [_, _], _ => rfl
theorem bd_words_of : Bd "words_of" (stAt 52) (["line"] : List Str) := fun _ _ _ _ _ _ us hl => match us, hl with
  | [_], _ => rfl
theorem bd_is_name : Bd "is_name" (stAt 59) (["word"] : List Str) := fun _ _ _ _ _ _ us hl => match us, hl with
  | [_], _ => rfl
theorem bd_made_names : Bd "made_names" (stAt 60) (["thing"] : List Str) := fun _ _ _ _ _ _ us hl => match us, hl with
  | [_], _ => rfl
theorem bd_named_row : Bd "named_row" (stAt 61) (["names", "row"] : List Str) := fun _ _ _ _ _ _ us hl => match us, hl with
  | [_, _], _ => rfl
theorem bd_read_named_row : Bd "read_named_row" (stAt 62) (["names", "text"] : List Str) := fun _ _ _ _ _ _ us hl => match us, hl with
  | [_, _], _ => rfl
theorem bd__law_is_whole : Bd "_law_is_whole" (stAt 64) (["thing"] : List Str) := fun _ _ _ _ _ _ us hl => match us, hl with
  | [_], _ => rfl
theorem bd__law_same : Bd "_law_same" (stAt 65) (["told", "owed"] : List Str) := fun _ _ _ _ _ _ us hl => match us, hl with
  | [_, _], _ => rfl
theorem bd__law_pool : Bd "_law_pool" (stAt 70) (["script", "k"] : List Str) := fun _ _ _ _ _ _ us hl => match us, hl with
  | [_, _], _ => rfl
theorem bd__law_take : Bd "_law_take" (stAt 71) (["jar", "top"] : List Str) := fun _ _ _ _ _ _ us hl => match us, hl with
  | [_, _], _ => rfl
theorem bd__law_one : Bd "_law_one" (stAt 72) (["jar", "things"] : List Str) := fun _ _ _ _ _ _ us hl => match us, hl with
  | [_, _], _ => rfl
theorem bd__law_wrong_row : Bd "_law_wrong_row" (stAt 73) (["things", "thing"] : List Str) := fun _ _ _ _ _ _ us hl => match us, hl with
  | [_, _], _ => rfl
theorem bd__law_text_wrong : Bd "_law_text_wrong" (stAt 74) (["thing", "most"] : List Str) := fun _ _ _ _ _ _ us hl => match us, hl with
  | [_, _], _ => rfl
theorem bd__law_is_name : Bd "_law_is_name" (stAt 75) (["thing"] : List Str) := fun _ _ _ _ _ _ us hl => match us, hl with
  | [_], _ => rfl
theorem bd__law_wrong_names : Bd "_law_wrong_names" (stAt 76) (["thing"] : List Str) := fun _ _ _ _ _ _ us hl => match us, hl with
  | [_], _ => rfl
theorem bd__law_named_text : Bd "_law_named_text" (stAt 77) (["names_of", "row"] : List Str) := fun _ _ _ _ _ _ us hl => match us, hl with
  | [_, _], _ => rfl
theorem bd__law_read_named_row : Bd "_law_read_named_row" (stAt 78) (["names_of", "text"] : List Str) := fun _ _ _ _ _ _ us hl => match us, hl with
  | [_, _], _ => rfl
theorem bd__law_drawn_name : Bd "_law_drawn_name" (stAt 79) (["jar", "most"] : List Str) := fun _ _ _ _ _ _ us hl => match us, hl with
  | [_, _], _ => rfl
theorem bd__law_bent_text : Bd "_law_bent_text" (stAt 80) (["jar", "text"] : List Str) := fun _ _ _ _ _ _ us hl => match us, hl with
  | [_, _], _ => rfl
theorem bd__law_some_names : Bd "_law_some_names" (stAt 81) (["jar"] : List Str) := fun _ _ _ _ _ _ us hl => match us, hl with
  | [_], _ => rfl
theorem bd__law_names_right : Bd "_law_names_right" (stAt 82) (["thing"] : List Str) := fun _ _ _ _ _ _ us hl => match us, hl with
  | [_], _ => rfl
theorem bd__law_odd_names : Bd "_law_odd_names" (stAt 83) (["jar", "called"] : List Str) := fun _ _ _ _ _ _ us hl => match us, hl with
  | [_, _], _ => rfl
theorem bd__law_text_right : Bd "_law_text_right" (stAt 84) (["called", "text"] : List Str) := fun _ _ _ _ _ _ us hl => match us, hl with
  | [_, _], _ => rfl
theorem bd__law_texts_of : Bd "_law_texts_of" (stAt 85) (["jar", "called", "text"] : List Str) := fun _ _ _ _ _ _ us hl => match us, hl with
  | [_, _, _], _ => rfl
theorem bd__law_rows_right : Bd "_law_rows_right" (stAt 86) (["jar", "called"] : List Str) := fun _ _ _ _ _ _ us hl => match us, hl with
  | [_, _], _ => rfl
theorem bd__law_long_right : Bd "_law_long_right" (stAt 87) (["jar", "called"] : List Str) := fun _ _ _ _ _ _ us hl => match us, hl with
  | [_, _], _ => rfl
theorem bd__law_refused_right : Bd "_law_refused_right" (stAt 88) (["jar", "called"] : List Str) := fun _ _ _ _ _ _ us hl => match us, hl with
  | [_, _], _ => rfl
theorem bd_law : Bd "law" (stAt 89) (["script"] : List Str) := fun _ _ _ _ _ _ us hl => match us, hl with
  | [_], _ => rfl
theorem bdC : Bd "_law_classes" (stAt 66) (["refused_one"] : List Str) := fun _ _ _ _ _ _ us hl => match us, hl with
  | [_], _ => rfl
theorem bdH : Bd "_law_heard" (stAt 67) (["deed"] : List Str) := fun _ _ _ _ _ _ us hl => match us, hl with
  | [_], _ => rfl
theorem bdT : Bd "_law_tells" (stAt 68) (["deed", "owed"] : List Str) := fun _ _ _ _ _ _ us hl => match us, hl with
  | [_, _], _ => rfl
theorem bdR : Bd "_law_refuses" (stAt 69) (["deed", "name", "what"] : List Str) := fun _ _ _ _ _ _ us hl => match us, hl with
  | [_, _, _], _ => rfl
theorem bds : ∀ d ∈ T.dis, Bd d.x d.st d.ps := List.forall_mem_cons.mpr ⟨bd_whole, List.forall_mem_cons.mpr ⟨bd_all_lines, List.forall_mem_cons.mpr ⟨bd_words_of, List.forall_mem_cons.mpr ⟨bd_is_name, List.forall_mem_cons.mpr ⟨bd_made_names, List.forall_mem_cons.mpr ⟨bd_named_row, List.forall_mem_cons.mpr ⟨bd_read_named_row, List.forall_mem_cons.mpr ⟨bd__law_is_whole, List.forall_mem_cons.mpr ⟨bd__law_same, List.forall_mem_cons.mpr ⟨bd__law_pool, List.forall_mem_cons.mpr ⟨bd__law_take, List.forall_mem_cons.mpr ⟨bd__law_one, List.forall_mem_cons.mpr ⟨bd__law_wrong_row, List.forall_mem_cons.mpr ⟨bd__law_text_wrong, List.forall_mem_cons.mpr ⟨bd__law_is_name, List.forall_mem_cons.mpr ⟨bd__law_wrong_names, List.forall_mem_cons.mpr ⟨bd__law_named_text, List.forall_mem_cons.mpr ⟨bd__law_read_named_row, List.forall_mem_cons.mpr ⟨bd__law_drawn_name, List.forall_mem_cons.mpr ⟨bd__law_bent_text, List.forall_mem_cons.mpr ⟨bd__law_some_names, List.forall_mem_cons.mpr ⟨bd__law_names_right, List.forall_mem_cons.mpr ⟨bd__law_odd_names, List.forall_mem_cons.mpr ⟨bd__law_text_right, List.forall_mem_cons.mpr ⟨bd__law_texts_of, List.forall_mem_cons.mpr ⟨bd__law_rows_right, List.forall_mem_cons.mpr ⟨bd__law_long_right, List.forall_mem_cons.mpr ⟨bd__law_refused_right, List.forall_mem_cons.mpr ⟨bd_law, fun _ h => nomatch h⟩⟩⟩⟩⟩⟩⟩⟩⟩⟩⟩⟩⟩⟩⟩⟩⟩⟩⟩⟩⟩⟩⟩⟩⟩⟩⟩⟩⟩
theorem chks : (T.dis.all (DI.chk T.C)) = true := by decide +kernel
theorem okT : T.Ok where
  chk := chks
  bd := bds
  nums := by decide +kernel
  fns := by decide +kernel
  same := by decide +kernel
  sname := by decide +kernel
  exs := rfl
  nd := by decide +kernel
  sh := by decide +kernel
  hl := by decide +kernel
  cls := by decide +kernel
  cbd := bdC
  hrd := by decide +kernel
  hbd := by
    have e : heardD (defBody T.hst) = "deed" := by decide +kernel
    rw [e]
    exact bdH
  tlo := fun _ => ⟨_, rfl, rfl, by decide +kernel, bdT⟩
  rfo := fun _ => ⟨_, rfl, rfl, by decide +kernel, bdR⟩
end SS.K90
end PT_LT_k90
section PT_HD_k90
set_option Elab.async false
set_option linter.all false
set_option maxRecDepth 100000
set_option maxHeartbeats 0
noncomputable section
namespace SS.K90
open PySem PySem.W PySem.Calls PyProof.Rows HandSHeadRun
def inFn : Stmt → Arguments × List Stmt × Scope
  | .ClassDef _ _ _ (.FunctionDef _ a b _ _ _ sc _ _ _ :: _) _ _ _ _ _ _ _ => (a, b, sc)
  | _ => (⟨[], [], none, [], [], none, []⟩, [], ⟨.function, [], false, false, []⟩)
/-- the objects of a class of refusals -/
def newObjs (P : Params) (n t line : Nat) (nm qn : Str) (st : Stmt) : List Obj := [
  { cls := .type "tuple", data := .seq #[.ref 34] },
  { cls := .type "builtin_function_or_method", data := .fields #[.builtin "type.__prepare__", .type "type"] },
  { cls := .type "dict", data := .dict #[
    { hash := PyData.keyHash P "__module__", key := .str "__module__" (t + 7), val := .str "staysoonest.errors" 187 },
    { hash := PyData.keyHash P "__qualname__", key := .str "__qualname__" (t + 9), val := .str nm (t + 8) },
    { hash := PyData.keyHash P "__firstlineno__", key := .str "__firstlineno__" (t + 11), val := .int line (t + 10) },
    { hash := PyData.keyHash P "__init__", key := .str "__init__" (t + 20), val := .ref (n + 15) },
    { hash := PyData.keyHash P "__static_attributes__", key := .str "__static_attributes__" (t + 21), val := .ref (n + 16) },
    { hash := PyData.keyHash P "__classcell__", key := .str "__classcell__" (t + 22), val := .ref (n + 3) }] 6 },
  { cls := .type "cell", data := .cell (some (.ref (n + 18))) },
  { cls := .type "tuple", data := .seq #[] },
  { cls := .none, data := .fields #[.int ((line + 2 : Nat) : Int) 0, .int 4 0, .ref (n + 14)] },
  { cls := .type "code", data := .fields #[.str nm (t + 2), .str nm (t + 3), .str "/claim/cut.py" (t + 4), .int line 0, .int 0 0, .int 0 0, .int 0 0, .int 0 0, .ref (n + 4), .bool false, .int 181 0, .ref (n + 5), .none, .none, .none, .none, .int ((t + 5 : Nat) : Int) 0, .int line 0, .str "/claim/cut.py" (t + 6)] },
  { cls := .type "frame", slots := #[some (.ref (n + 6)), some (.ref 3), some (.ref (n + 2)), none, some (.str "staysoonest.errors" 187), none, some (.ref 0)] },
  { cls := .type "tuple", data := .seq #[.ref (n + 3)] },
  { cls := .type "tuple", data := .seq #[.str "__class__" (t + 15)] },
  { cls := .none, data := .fields #[] },
  { cls := .type "tuple", data := .seq #[.str "self" (t + 16), .str "what" (t + 17)] },
  { cls := .type "tuple", data := .seq #[] },
  { cls := .none, data := .func { name := "__init__", qualname := qn, params := (inFn st).1, body := .stmts (inFn st).2.1, scope := (inFn st).2.2, globals := 0, closure := [], defaults := .none, kwdefaults := .none } },
  { cls := .type "code", data := .fields #[.str "__init__" (t + 12), .str qn (t + 13), .str "/claim/cut.py" (t + 14), .int ((line + 2 : Nat) : Int) 0, .int 2 0, .int 0 0, .int 0 0, .int 3 0, .ref (n + 9), .bool true, .int 181 0, .ref (n + 10), .none, .ref (n + 11), .ref (n + 12), .ref (n + 13), .int ((t + 18 : Nat) : Int) 0, .int ((line + 2 : Nat) : Int) 0, .str "/claim/cut.py" (t + 19)] },
  { cls := .type "function", data := .func { name := "__init__", qualname := qn, params := (inFn st).1, body := .stmts (inFn st).2.1, scope := (inFn st).2.2, globals := 3, closure := [("__class__", n + 3)], defaults := .none, kwdefaults := .none, pyModule := .str "staysoonest.errors" 187, code := .ref (n + 14), closureTuple := .ref (n + 8) } },
  { cls := .type "tuple", data := .seq #[] },
  { cls := .type "dict", data := .dict #[
    { hash := PyData.keyHash P "__module__", key := .str "__module__" (t + 7), val := .str "staysoonest.errors" 187 },
    { hash := PyData.keyHash P "__firstlineno__", key := .str "__firstlineno__" (t + 11), val := .int line (t + 10) },
    { hash := PyData.keyHash P "__init__", key := .str "__init__" (t + 20), val := .ref (n + 15) },
    { hash := PyData.keyHash P "__static_attributes__", key := .str "__static_attributes__" (t + 21), val := .ref (n + 16) },
    { hash := PyData.keyHash P "__doc__", key := .str "__doc__" (t + 23), val := .none }] 3 },
  { cls := .type "type", data := .cls { name := nm, bases := [.ref 34], mro := [.ref (n + 18), .ref 34, .type "ValueError", .type "Exception", .type "BaseException", .type "object"], ns := n + 17, qualname := nm },
    slots := #[some (.ref n), none, some (.str nm t), some (.str nm (t + 8)), some (.builtin "ValueError.__new__"), some (.bool true)] },
  { cls := .type "super", data := .fields #[.ref (n + 18), .ref (n + 18), .ref (n + 18)] },
  { cls := .type "builtin_function_or_method", data := .fields #[.builtin "object.__init_subclass__", .ref (n + 18)] }]
def names : List (Str × Str) := [(("BadBook" : Str), ("BadBook.__init__" : Str)), (("BadThings" : Str), ("BadThings.__init__" : Str)), (("BadBars" : Str), ("BadBars.__init__" : Str)), (("BadLot" : Str), ("BadLot.__init__" : Str)), (("BadMany" : Str), ("BadMany.__init__" : Str)), (("BadIndex" : Str), ("BadIndex.__init__" : Str)), (("BadOrder" : Str), ("BadOrder.__init__" : Str)), (("BadThing" : Str), ("BadThing.__init__" : Str)), (("BadRooms" : Str), ("BadRooms.__init__" : Str)), (("BadRoom" : Str), ("BadRoom.__init__" : Str)), (("BadApart" : Str), ("BadApart.__init__" : Str)), (("BadRow" : Str), ("BadRow.__init__" : Str)), (("BadRule" : Str), ("BadRule.__init__" : Str)), (("BadSight" : Str), ("BadSight.__init__" : Str)), (("BadOther" : Str), ("BadOther.__init__" : Str)), (("BadOwners" : Str), ("BadOwners.__init__" : Str))] ++ [(("BadCosts" : Str), ("BadCosts.__init__" : Str)), (("BadPrices" : Str), ("BadPrices.__init__" : Str)), (("BadKnown" : Str), ("BadKnown.__init__" : Str)), (("BadNumbers" : Str), ("BadNumbers.__init__" : Str)), (("BadDeed" : Str), ("BadDeed.__init__" : Str)), (("BadRates" : Str), ("BadRates.__init__" : Str)), (("BadHits" : Str), ("BadHits.__init__" : Str)), (("BadOwner" : Str), ("BadOwner.__init__" : Str)), (("BadAmount" : Str), ("BadAmount.__init__" : Str)), (("BadClerk" : Str), ("BadClerk.__init__" : Str)), (("BadStamp" : Str), ("BadStamp.__init__" : Str)), (("BadDeeds" : Str), ("BadDeeds.__init__" : Str)), (("BadNames" : Str), ("BadNames.__init__" : Str)), (("BadPaper" : Str), ("BadPaper.__init__" : Str)), (("BadText" : Str), ("BadText.__init__" : Str)), (("WrongLine" : Str), ("WrongLine.__init__" : Str))] ++ [(("WrongPlan" : Str), ("WrongPlan.__init__" : Str)), (("WrongUnlike" : Str), ("WrongUnlike.__init__" : Str)), (("NotHoldable" : Str), ("NotHoldable.__init__" : Str)), (("NotOneForOne" : Str), ("NotOneForOne.__init__" : Str)), (("NoFull" : Str), ("NoFull.__init__" : Str)), (("NotDone" : Str), ("NotDone.__init__" : Str)), (("TooFew" : Str), ("TooFew.__init__" : Str)), (("NotRoomed" : Str), ("NotRoomed.__init__" : Str)), (("NotHeld" : Str), ("NotHeld.__init__" : Str)), (("Harm" : Str), ("Harm.__init__" : Str)), (("NothingToUndo" : Str), ("NothingToUndo.__init__" : Str)), (("NothingToRedo" : Str), ("NothingToRedo.__init__" : Str)), (("Same" : Str), ("Same.__init__" : Str)), (("TooMany" : Str), ("TooMany.__init__" : Str))]
def clsObjs (P : Params) : Nat → List (Str × Str) → List Obj
  | _, [] => []
  | i, (a, b) :: r => newObjs P (38 + 21 * i) (221 + 26 * i) (8 + 4 * i) a b (stAt (2 + i)) ++ clsObjs P (i + 1) r
def nsEnts (P : Params) : Nat → List (Str × Str) → List DictEntry
  | _, [] => []
  | i, (a, _) :: r => { hash := PyData.keyHash P a, key := .str a (246 + 26 * i), val := .ref (56 + 21 * i) } :: nsEnts P (i + 1) r
def tabEnts : Nat → List (Str × Str) → List Value
  | _, [] => []
  | i, _ :: r => .int ((8 + 4 * i : Nat) : Int) 0 :: .int 0 0 :: .ref (44 + 21 * i) :: tabEnts (i + 1) r
def subEnts : Nat → List (Str × Str) → List Value
  | _, [] => []
  | i, _ :: r => .ref (56 + 21 * i) :: subEnts (i + 1) r
def o11 : Obj := { cls := .type "tuple", data := .seq #[] }
def o12 (l : List Value) : Obj := { cls := .none, data := .fields l.toArray }
def o13 : Obj := { cls := Value.type "code", data := Data.fields #[Value.str (Str.ofString "<module>") 182, Value.str (Str.ofString "<module>") 183, Value.str (Str.ofString "/claim/cut.py") 184, Value.int 1 0, Value.int 0 0, Value.int 0 0, Value.int 0 0, Value.int 0 0, Value.ref 11, Value.bool false, Value.int 181 0, Value.ref 12, Value.none, Value.none, Value.none, Value.none, Value.int 185 0, Value.int 1 0, Value.str (Str.ofString "/claim/cut.py") 186] }
def o14 (nmv : Value) : Obj := { cls := .type "frame", slots := #[some (.ref 13), some (.ref 3), some (.ref 3), none, some nmv, none, some (.ref 0)] }
def o3 (P : Params) (nmv : Value) (l : List DictEntry) (k : Nat) : Obj := { cls := .type "dict", data := .dict (([
    { hash := PyData.keyHash P "__name__", key := .str "__name__" 165, val := nmv },
    { hash := PyData.keyHash P "__doc__", key := .str "__doc__" 166, val := .none },
    { hash := PyData.keyHash P "__package__", key := .str "__package__" 167, val := .none },
    { hash := PyData.keyHash P "__loader__", key := .str "__loader__" 168, val := .builtin "__main__.__loader__#opaque" },
    { hash := PyData.keyHash P "__spec__", key := .str "__spec__" 169, val := .none },
    { hash := PyData.keyHash P "__annotations__", key := .str "__annotations__" 170, val := .ref 6 },
    { hash := PyData.keyHash P "__builtins__", key := .str "__builtins__" 171, val := .ref 4 },
    { hash := PyData.keyHash P "__file__", key := .str "__file__" 173, val := .str "/claim/cut.py" 172 },
    { hash := PyData.keyHash P "__cached__", key := .str "__cached__" 174, val := .none }] : List DictEntry) ++ l).toArray k }
def r15 (P : Params) : Obj := { cls := Value.type "tuple", data := Data.seq #[Value.type "ValueError"] }
def r16 (P : Params) : Obj := { cls := Value.type "builtin_function_or_method", data := Data.fields #[Value.builtin "type.__prepare__", Value.type "type"] }
def r17 (P : Params) : Obj := { cls := Value.type "dict", data := Data.dict #[{ hash := PyData.keyHash P (Str.ofString "__module__"), key := Value.str (Str.ofString "__module__") 196, val := Value.str (Str.ofString "staysoonest.errors") 187 }, { hash := PyData.keyHash P (Str.ofString "__qualname__"), key := Value.str (Str.ofString "__qualname__") 198, val := Value.str (Str.ofString "Refused") 197 }, { hash := PyData.keyHash P (Str.ofString "__firstlineno__"), key := Value.str (Str.ofString "__firstlineno__") 200, val := Value.int 2 199 }, { hash := PyData.keyHash P (Str.ofString "__init__"), key := Value.str (Str.ofString "__init__") 211, val := Value.ref 31 }, { hash := PyData.keyHash P (Str.ofString "__static_attributes__"), key := Value.str (Str.ofString "__static_attributes__") 214, val := Value.ref 32 }, { hash := PyData.keyHash P (Str.ofString "__classcell__"), key := Value.str (Str.ofString "__classcell__") 215, val := Value.ref 18 }] 6 }
def r18 (P : Params) : Obj := { cls := Value.type "cell", data := Data.cell (some (Value.ref 34)) }
def r19 (P : Params) : Obj := { cls := Value.type "tuple", data := Data.seq #[] }
def r20 (P : Params) : Obj := { cls := Value.none, data := Data.fields #[Value.int 4 0, Value.int 4 0, Value.ref 30] }
def r21 (P : Params) : Obj := { cls := Value.type "code", data := Data.fields #[Value.str (Str.ofString "Refused") 191, Value.str (Str.ofString "Refused") 192, Value.str (Str.ofString "/claim/cut.py") 193, Value.int 2 0, Value.int 0 0, Value.int 0 0, Value.int 0 0, Value.int 0 0, Value.ref 19, Value.bool false, Value.int 181 0, Value.ref 20, Value.none, Value.none, Value.none, Value.none, Value.int 194 0, Value.int 2 0, Value.str (Str.ofString "/claim/cut.py") 195] }
def r22 (P : Params) : Obj := { cls := Value.type "frame", slots := #[some (Value.ref 21), some (Value.ref 3), some (Value.ref 17), none, some (Value.str (Str.ofString "staysoonest.errors") 187), none, some (Value.ref 0)] }
def r23 (P : Params) : Obj := { cls := Value.type "tuple", data := Data.seq #[Value.str (Str.ofString "Refused") 201] }
def r24 (P : Params) : Obj := { cls := Value.type "tuple", data := Data.seq #[Value.ref 18] }
def r25 (P : Params) : Obj := { cls := Value.type "tuple", data := Data.seq #[Value.str (Str.ofString "__class__") 205] }
def r26 (P : Params) : Obj := { cls := Value.none, data := Data.fields #[] }
def r27 (P : Params) : Obj := { cls := Value.type "tuple", data := Data.seq #[Value.str (Str.ofString "self") 206, Value.str (Str.ofString "what") 207, Value.str (Str.ofString "word") 208] }
def r28 (P : Params) : Obj := { cls := Value.type "tuple", data := Data.seq #[] }
def r29 (P : Params) : Obj := { cls := Value.none, data := Data.func { name := Str.ofString "__init__", qualname := Str.ofString "Refused.__init__", params := (inFn (stAt 1)).1, body := FuncBody.stmts (inFn (stAt 1)).2.1, scope := (inFn (stAt 1)).2.2, globals := 0, closure := [], defaults := Value.none, kwdefaults := Value.none } }
def r30 (P : Params) : Obj := { cls := Value.type "code", data := Data.fields #[Value.str (Str.ofString "__init__") 202, Value.str (Str.ofString "Refused.__init__") 203, Value.str (Str.ofString "/claim/cut.py") 204, Value.int 4 0, Value.int 3 0, Value.int 0 0, Value.int 0 0, Value.int 3 0, Value.ref 25, Value.bool true, Value.int 181 0, Value.ref 26, Value.none, Value.ref 27, Value.ref 28, Value.ref 29, Value.int 209 0, Value.int 4 0, Value.str (Str.ofString "/claim/cut.py") 210] }
def r31 (P : Params) : Obj := { cls := Value.type "function", data := Data.func { name := Str.ofString "__init__", qualname := Str.ofString "Refused.__init__", params := (inFn (stAt 1)).1, body := FuncBody.stmts (inFn (stAt 1)).2.1, scope := (inFn (stAt 1)).2.2, globals := 3, closure := [(Str.ofString "__class__", 18)], defaults := Value.ref 23, kwdefaults := Value.none, pyModule := Value.str (Str.ofString "staysoonest.errors") 187, code := Value.ref 30, closureTuple := Value.ref 24 } }
def r32 (P : Params) : Obj := { cls := Value.type "tuple", data := Data.seq #[Value.str (Str.ofString "what") 212, Value.str (Str.ofString "word") 213] }
def r33 (P : Params) : Obj := { cls := Value.type "dict", data := Data.dict #[{ hash := PyData.keyHash P (Str.ofString "__module__"), key := Value.str (Str.ofString "__module__") 196, val := Value.str (Str.ofString "staysoonest.errors") 187 }, { hash := PyData.keyHash P (Str.ofString "__firstlineno__"), key := Value.str (Str.ofString "__firstlineno__") 200, val := Value.int 2 199 }, { hash := PyData.keyHash P (Str.ofString "__init__"), key := Value.str (Str.ofString "__init__") 211, val := Value.ref 31 }, { hash := PyData.keyHash P (Str.ofString "__static_attributes__"), key := Value.str (Str.ofString "__static_attributes__") 214, val := Value.ref 32 }, { hash := PyData.keyHash P (Str.ofString "__weakref__"), key := Value.str (Str.ofString "__weakref__") 217, val := Value.ref 35 }, { hash := PyData.keyHash P (Str.ofString "__doc__"), key := Value.str (Str.ofString "__doc__") 218, val := Value.none }] 4 }
def r34 (P : Params) : Obj := { cls := Value.type "type", data := Data.cls { name := Str.ofString "Refused", bases := [Value.type "ValueError"], mro := [Value.ref 34, Value.type "ValueError", Value.type "Exception", Value.type "BaseException", Value.type "object"], ns := 33, qualname := Str.ofString "Refused", subclasses := subEnts 0 names }, slots := #[some (Value.ref 15), none, some (Value.str (Str.ofString "Refused") 189), some (Value.str (Str.ofString "Refused") 197), some (Value.builtin "ValueError.__new__"), some (Value.bool true)] }
def r35 (P : Params) : Obj := { cls := Value.type "getset_descriptor", data := Data.fields #[Value.str (Str.ofString "__weakref__") 216, Value.ref 34, Value.builtin "ExceptionGroup.__weakref__", Value.none] }
def r36 (P : Params) : Obj := { cls := Value.type "super", data := Data.fields #[Value.ref 34, Value.ref 34, Value.ref 34] }
def r37 (P : Params) : Obj := { cls := Value.type "builtin_function_or_method", data := Data.fields #[Value.builtin "object.__init_subclass__", Value.ref 34] }
def objs1 (P : Params) : List Obj := [boot_o_0 P, boot_o_1 P, boot_o_2 P, o3 P (.str "staysoonest.errors" 187) ({ hash := PyData.keyHash P "Refused", key := .str "Refused" 220, val := .ref 34 } :: nsEnts P 0 names) 56, boot_o_4 P, boot_o_5 P, boot_o_6 P, boot_o_7 P, boot_o_8 P, boot_o_9 P, boot_o_10 P,
  o11, o12 (.int 2 0 :: .int 0 0 :: .ref 21 :: tabEnts 0 names), o13, o14 (.str "__main__" 164), r15 P, r16 P, r17 P, r18 P, r19 P, r20 P, r21 P, r22 P, r23 P, r24 P, r25 P, r26 P, r27 P, r28 P, r29 P, r30 P, r31 P, r32 P, r33 P, r34 P, r35 P, r36 P, r37 P] ++ clsObjs P 0 names
def objsA (P : Params) : List Obj := [boot_o_0 P, boot_o_1 P, boot_o_2 P, boot_o_3 P, boot_o_4 P, boot_o_5 P, boot_o_6 P, boot_o_7 P, boot_o_8 P, boot_o_9 P, boot_o_10 P, o11, o12 [], o13, o14 (.str "__main__" 164)]
def treeOf : List Obj → BT → Nat → BT
  | [], T, _ => T
  | o :: r, T, n => treeOf r (T.ins n o) (n + 1)
abbrev posZ : Pos := ⟨0, 0, 0, 0⟩
def S1T (w : World) (os : OsState) : SharedT := ⟨treeOf (objs1 w.params) .nil 0, 1004, {}, #[], {}, 1417, os⟩
def SaT (w : World) (os : OsState) : SharedT := ⟨treeOf (objsA w.params) .nil 0, 15, {}, #[], {}, 187, os⟩
def envE : PySem.Env := { scope := P0.main.scope, locals := mainNs, globals := mainNs, cells := [], code := .ref 13, frame := some 14 }
abbrev cE : Code := .body (behindTheImports P0) envE
abbrev annE : Option Value := some (.ref 6)
def execsQ := PySem.W.Fast.tw12563942051412417395
theorem execsQ_eq : @PySem.execs = execsQ := PySem.W.Fast.te12563942051412417395
def segQ := PySem.W.Fast.tw10110043849684766642
theorem segQ_eq : @PySem.W.segRunT = segQ := PySem.W.Fast.te10110043849684766642
def leavingQ := PySem.W.Fast.tw9442747609961115081
theorem leavingQ_eq : @PySem.leaving = leavingQ := PySem.W.Fast.te9442747609961115081
def sts1 : List Stmt := topL.take 48
def sts2 : List Stmt := topL.drop 48
abbrev pos1 : Pos := ⟨188, 0, 191, 41⟩
def ls0 : List PySem.Str := ["Refused", "BadBook", "BadThings", "BadBars", "BadLot", "BadMany", "BadIndex", "BadOrder", "BadThing", "BadRooms", "BadRoom", "BadApart", "BadRow", "BadRule", "BadSight", "BadOther", "BadOwners", "BadCosts", "BadPrices", "BadKnown", "BadNumbers", "BadDeed", "BadRates", "BadHits", "BadOwner", "BadAmount", "BadClerk", "BadStamp", "BadDeeds", "BadNames"]
def ls1 : List PySem.Str := ["BadPaper", "BadText", "WrongLine", "WrongPlan", "WrongUnlike", "NotHoldable", "NotOneForOne", "NoFull", "NotDone", "TooFew", "NotRoomed", "NotHeld", "Harm", "NothingToUndo", "NothingToRedo", "Same", "TooMany", "whole", "MOST_SIGNS", "all_lines", "words_of", "MOST_NAMES", "MOST_LETTERS", "MOST_ASKS", "LETTERS", "KEPT_WORDS", "is_name", "made_names", "named_row", "read_named_row"]
def ls2 : List PySem.Str := ["_law_is_whole", "_law_same", "_law_classes", "_law_heard", "_law_tells", "_law_refuses", "_law_pool", "_law_take", "_law_one", "_law_wrong_row", "_law_text_wrong", "_law_is_name", "_law_wrong_names", "_law_named_text", "_law_read_named_row", "_law_drawn_name", "_law_bent_text", "_law_some_names", "_law_names_right", "_law_odd_names", "_law_text_right", "_law_texts_of", "_law_rows_right", "_law_long_right", "_law_refused_right"]
def loose : List PySem.Str := ls0 ++ ls1 ++ ls2
abbrev R : PySem.W.OpenRow := PySem.W.OpenLaw.row PySem.Challenge.rw_staysoonest_k90_rows_by_names
abbrev qV : Program := PySem.W.view P0 [89]
def rest2 : Thread := ⟨(execsQ sts2 envE).wrap doneF (fun e => ((leavingQ envE e).bind fun _ => (.raise e : Sem PySem.Flow)).wrap doneF .raise id id) id id, cE, pos1, [topFrame posZ]⟩
def lastQ (w : World) (os : OsState) : Option SharedT := goF (stepQ (denQ tabQ) P0 w) 11 annE 100000 (S1T w os) rest2
def obQ (s : SharedT) : SS.AlM := SS.obM T s (getT s)
end SS.K90
end
end PT_HD_k90
section PT_C1_k90
set_option Elab.async false
set_option linter.all false
set_option maxRecDepth 100000
set_option maxHeartbeats 0
noncomputable section
namespace SS.K90
open PySem PySem.W PySem.Calls PyProof.Rows HandSHeadRun
theorem c1 (w : World) (os : OsState) : segQ tabQ P0 w 11 annE 1 12267 (SaT w os) ⟨(execsQ sts1 envE).wrap doneF deadEnd id id, cE, posZ, [topFrame posZ]⟩ = some (.next, S1T w os, cE, pos1) := by
  kernel_rfl
end SS.K90
end
end PT_C1_k90
section PT_C2_k90
set_option Elab.async false
set_option linter.all false
set_option maxRecDepth 100000
set_option maxHeartbeats 0
noncomputable section
namespace SS.K90
open PySem PySem.W PySem.Calls PyProof.Rows HandSHeadRun
theorem c2 (w : World) (os : OsState) : (lastQ w os).map (fun s => (looksF P0 (boot_heap w.params) s.abs, seenQ qV loose (importedModules P0.main.body) (fun s => xlAt qV [] s && recOk R.toRowW.records s) s.abs, obQ s)) = some (true, openGood qV loose, SS.valM T) := by
  kernel_rfl
end SS.K90
end
end PT_C2_k90
section PT_HJ_k90
set_option Elab.async false
set_option linter.all false
set_option maxRecDepth 100000
set_option maxHeartbeats 0
noncomputable section
namespace SS.K90
open PySem PySem.W PySem.Calls PyProof.Rows HandSHeadRun
theorem boot11 (w : World) : (boot_heap w.params).objs.size = 11 := by kernel_rfl
theorem bootA (w : World) : bootAnn w = annE := by kernel_rfl
theorem pre0 (w : World) (os : OsState) : topGo treeTable P0 w 11 annE 12 ⟨boot_heap w.params, #[], boot_drawn, boot_toks, os⟩ (topStub P0) = some ((SaT w os).abs, ⟨denote treeTable (.body (behindTheImports P0) envE), cE, posZ, [topFrame posZ]⟩) := by kernel_rfl
theorem blk0 (w : World) (os : OsState) : segRun treeTable P0 w 11 annE 1 1 (SaT w os).abs (blockOf (behindTheImports P0) envE cE posZ [topFrame posZ]) = some (.next, (SaT w os).abs, cE, posZ) := by kernel_rfl
theorem stsE : behindTheImports P0 = sts1 ++ sts2 := (List.take_append_drop 48 topL).symm
theorem seg1 (w : World) (os : OsState) : segRun treeTable P0 w 11 annE 1 12267 (SaT w os).abs (piecesOf sts1 envE cE posZ [topFrame posZ]) = some (.next, (S1T w os).abs, cE, pos1) := by
  refine segRun_of (?_ : segRunT treeTable P0 w 11 annE 1 12267 (SaT w os) _ = some (.next, S1T w os, cE, pos1))
  have e := c1 w os
  rw [← segQ_eq, ← tabQ_eq, ← execsQ_eq] at e
  exact e
/-- the whole top, from the boot to its end -/
theorem topAll {w : World} {os : OsState} {s : SharedT} (h : lastQ w os = some s) : topRun treeTable P0 w 11 annE (12 + (1 + (12267 + 100000))) ⟨boot_heap w.params, #[], boot_drawn, boot_toks, os⟩ (topStub P0) = some s.abs := by
  refine go_top (pre0 w os) (piece_block (blk0 w os) ?_)
  rw [stsE]
  refine piece_app (seg1 w os) ?_
  have h' : goF (stepT (denote treeTable) P0 w) 11 annE 100000 (S1T w os) (restOf sts2 envE cE pos1 [topFrame posZ]) = some s := by
    have e := h
    unfold lastQ rest2 at e
    rw [← stepQ_eq, ← denQ_eq, ← tabQ_eq, ← execsQ_eq, ← leavingQ_eq] at e
    exact e
  exact goF_ok h'
theorem obQ_eq (s : SharedT) : obQ s = (SS.hookM T).obs s.abs := SS.obM_eq (getT_eq s)
/-- what the top leaves -/
theorem leftT : LeftO P0 qV loose (fun s => xlAt qV [] s && recOk R.toRowW.records s) (SS.hookM T).obs (SS.hookM T).val 200000 true := by
  intro w
  obtain ⟨⟨bh, bg, bd, bt, os⟩, a1, a2⟩ := Option.map_eq_some_iff.mp (boot_open (p := P0) (N := 200000) (by kernel_rfl) (by decide) (fun s => by kernel_rfl) w)
  simp only [Prod.mk.injEq] at a2
  obtain ⟨b1, b2, b3, b4⟩ := a2
  obtain ⟨s, hs, hv⟩ := Option.map_eq_some_iff.mp (c2 w os)
  simp only [Prod.mk.injEq] at hv
  obtain ⟨l1, l2, l3⟩ := hv
  have r := topRun_mono (200000 - (12 + (1 + (12267 + 100000)))) _ _ _ _ (topAll hs)
  rw [show 12 + (1 + (12267 + 100000)) + (200000 - (12 + (1 + (12267 + 100000)))) = 200000 by decide] at r
  have l1' : (staticsOk (importedModules P0.main.body) (boot_heap w.params) s.abs.heap && namesBound P0 s.abs.heap && gensDone s.abs && laidKept (boot_heap w.params) s.abs.heap) = true := l1
  have tf : topFrom treeTable P0 w 200000 ⟨bh, bg, bd, bt, os⟩ = some s.abs := by
    rw [b1, b2, b3, b4]
    unfold topFrom
    dsimp only
    rw [boot_ns, boot11]
    have ea : (boot_heap w.params).nsMap mainGlobals "__annotations__" = annE := bootA w
    rw [ea]
    show (topRun treeTable P0 w 11 annE 200000 ⟨boot_heap w.params, #[], boot_drawn, boot_toks, os⟩ (topStub P0)).bind _ = _
    rw [r, Option.bind_some, l1']
  have e : openEnds treeTable P0 w 200000 = some s.abs := by
    unfold openEnds
    rw [a1]
    exact tf
  rw [e]
  refine congrArg some (Prod.ext ?_ ?_)
  · exact (seenQ_eq qV loose _ _ _).trans l2
  · exact (obQ_eq s).symm.trans l3
end SS.K90
end
end PT_HJ_k90
section PT_EN_k90
set_option Elab.async false
set_option linter.all false
set_option maxRecDepth 100000
set_option maxHeartbeats 0
open PySem PySem.W PySem.Calls PyProof.Rows
/-- what is left: the plain law -/
def SS.K90.Plain (n : Nat) : Prop := ∀ ns : List Int, ns.length ≤ 63 → (∀ z ∈ ns, Builtin.Int.intBits z ≤ 1048576) → ∃ m, SS.fnsN SS.K90.T.tab SS.K90.T.same (n + 1) SS.K90.d_law.f [.list (ns.map PyData.int)] [] = .ok (.bool true) m
theorem SS.K90.ends (plain : SS.K90.Plain 50) : PySem.Challenge.rw_staysoonest_k90_rows_by_names.Holds := by
  w_on; o_law
  refine holds_open (r := OpenLaw.row PySem.Challenge.rw_staysoonest_k90_rows_by_names) (q := SS.K90.qV) (loose := SS.K90.loose) (XP := XL SS.K90.qV []) (YP := (SS.hookM SS.K90.T).says) (d := HandSHeadRun.topDef SS.K90.P0 89) (kwd := []) SS.K90.leftT (SS.hookM SS.K90.T).of (SS.hookM SS.K90.T).keeps
    (fun s z => xl_of s (Bool.and_eq_true_iff.mp z).1) XL.keeps (by kernel_rfl) (by kernel_rfl) (by kernel_rfl) (fun s z => recFacts_of (Bool.and_eq_true_iff.mp z).2) (by rfl) (by first | assumption | decide +kernel) (by decide +kernel) ⟨rfl, rfl, rfl, rfl, rfl, by decide +kernel⟩ ?hw ?hc
  case hw => w_witness2
  case hc =>
    refine LamX.walk_ofTsE (l := PySem.Challenge.rw_staysoonest_k90_rows_by_names) (n := 63) (k := SS.rho 4 51) (x := "script") (CX := fun w => L2N.CX SS.K90.P0 w) rfl (by decide) (by kernel_rfl) ⟨rfl, by decide, by decide⟩ ?F (fun w H s e s' z => SS.cx_no H s e s' z)
    intro w mg fa h Y G hmg0
    obtain ⟨K, KX, c⟩ := Y
    have hmg : mg ("law" : PySem.Str) = some (.ref fa) := by
      have e : (HandSHeadRun.topDef SS.K90.P0 89).name = ("law" : PySem.Str) := by kernel_rfl
      rw [← e]
      exact hmg0
    have hd : SS.K90.d_law ∈ SS.K90.T.dis := by
      show SS.K90.d_law ∈ SS.K90.dis
      unfold SS.K90.dis
      simp only [List.mem_cons, true_or, or_true]
    have e2 : mg ("law" : PySem.Str) = some (.ref (SS.gAd K "law")) := SS.gAd_ok KX G ((SS.ex_of c.more).ds _ hd)
    rw [hmg] at e2
    cases e2
    exact ⟨K, KX, SS.law_at (T := SS.K90.T) (d := SS.K90.d_law) rfl SS.K90.okT c KX G hd rfl plain⟩
end PT_EN_k90
section PT_PE_k90
set_option Elab.async false
set_option linter.all false
set_option maxRecDepth 100000
set_option maxHeartbeats 2000000
open PySem SS
theorem SS.K90.tb : SS.K90.Tb SS.K90.T.tab := by
  unfold SS.K90.Tb SS.K90.tabL
  simp only [List.forall_mem_cons]
  refine ⟨rfl, rfl, rfl, rfl, rfl, rfl, rfl, rfl, rfl, rfl, rfl, rfl, rfl, rfl, rfl, rfl, rfl, rfl, rfl, rfl, rfl, rfl, rfl, rfl, rfl, rfl, rfl, rfl, rfl, ?_⟩
  simp
theorem SS.K90.plain : SS.K90.Plain 50 := fun ns _ _ => by
  have h := SS.K90.law_ok SS.K90.tb (n := 51) (m := []) (by omega) rfl (zs := ns)
  obtain ⟨d, m, e, hd⟩ := wp_ex' h
  subst hd
  exact ⟨m, e⟩
theorem SS.K90.all_holds : PySem.Challenge.rw_staysoonest_k90_rows_by_names.Holds := SS.K90.ends SS.K90.plain
end PT_PE_k90
theorem PySem.Challenge.cw_staysoonest_k90_rows_by_names_holds : PySem.Challenge.rw_staysoonest_k90_rows_by_names.Holds := by
  exact SS.K90.all_holds
