import PyProof.Rows.All
import Wide.All
import OpenK.AllK
import Wide.FinOn
import HandS.ForMost
import HandS.Exc
import HandS.ExcOwn
import HandS.Conv
import HandS.Defaults
import HandS.Deep
import HandS.IsInst
import HandS.Style
import HandS.Flow
import HandS.Zip
import HandS.TupAny
import HandS.TupMul
import HandS.HeadHook1
import HandS.More
import HandS.Walk
import HandS.Small
import HandS.HeadWalk
import HandS.CallRecv
import HandS.ExcIs
import HandS.HeadHook4
import KE.KStateDown
import Lean
import HandS.Head0
import HandS.Head1
import HandS.Head2
import HandS.HeadEnd
import HandS.HeadHook2
import HandS.HeadHook3
import PySem.Challenge.RW_kindmakings_k16_edges
set_option Elab.async false
set_option linter.all false
set_option maxRecDepth 100000
set_option maxHeartbeats 2000000
namespace Y
open PySem PySem.Spec PyProof.Rows L2
/-! ## plain data -/
inductive D where
  | non | bl (b : Bool) | int (i : Int) | str (s : Str)
  | scr (ns : List Int)
  | lst (xs : List D) | tup (xs : List D)
  | ktup (xs : List Str)
  | dct (ks : List Key) (xs : List D)
  | dctT (ks : List (List Key)) (xs : List D)
  | obj (c : Str) (fs : List Str) (xs : List D)
def D.atom : D → Bool
  | .non => true | .bl _ => true | .int _ => true | .str _ => true | _ => false
/-- data in a frozen heap G -/
inductive At (K : PySem.W.Frag) (G : Hp) : V → D → Prop
  | non : At K G .non .non
  | bl (b : Bool) : At K G (.bl b) (.bl b)
  | int (i : Int) : At K G (.int i) (.int i)
  | str (x : Str) : At K G (.str x) (.str x)
  | scr {a : Addr} {ns : List Int} : SqL K G a (ns.map V.int) → At K G (.ref a) (.scr ns)
  | ktup {a : Addr} {xs : List Str} : SqT K (fun _ => none) a (xs.map V.str) → At K G (.ref a) (.ktup xs)
  | lst {a : Addr} {vs : List V} {ds : List D} : G a = some (.lst vs) → Paired (At K G) vs ds → At K G (.ref a) (.lst ds)
  | tup {a : Addr} {vs : List V} {ds : List D} : G a = some (.tup vs) → Paired (At K G) vs ds → At K G (.ref a) (.tup ds)
  | dct {a : Addr} {kvs : List (Key × V)} {ks : List Key} {ds : List D} : Rd G a (.dK kvs) → kvs.map (·.1) = ks → Paired (At K G) (kvs.map (·.2)) ds → At K G (.ref a) (.dct ks ds)
  | dctT {a : Addr} {kvs : List (List Key × V)} {ks : List (List Key)} {ds : List D} : G a = some (.dT kvs) → kvs.map (·.1) = ks → Paired (At K G) (kvs.map (·.2)) ds → At K G (.ref a) (.dctT ks ds)
  | obj {a dx : Addr} {c : Str} {kvs : List (Str × V)} {fs : List Str} {ds : List D} : G a = some (.ins (He.ga K c) dx kvs) → kvs.map (·.1) = fs → Paired (At K G) (kvs.map (·.2)) ds → At K G (.ref a) (.obj c fs ds)
end Y
set_option Elab.async false
set_option linter.all false
set_option maxRecDepth 100000
set_option maxHeartbeats 2000000
namespace Y
open PySem PySem.Spec PyProof.Rows L2
/-! ## operations on plain data -/
mutual
def D.py : D → Option PyData
  | .non => some .none
  | .bl b => some (.bool b)
  | .int i => some (.int i)
  | .str s => some (.str s)
  | .lst xs => (pyL xs).map .list
  | .tup xs => (pyL xs).map .tuple
  | .scr _ => none
  | .ktup _ => none
  | .dct _ _ => none
  | .dctT _ _ => none
  | .obj _ _ _ => none
def pyL : List D → Option (List PyData)
  | [] => some []
  | x :: xs => match x.py, pyL xs with
    | some a, some b => some (a :: b)
    | _, _ => none
end
def okP (p : PyData) : Bool := SeqAt.shaped p
/-- == of plain data -/
def D.eqP (a b : D) : Option Bool := match a.py, b.py with
  | some p, some q => if okP p && okP q then some (PyData.eqv p q) else none
  | _, _ => none
def D.eqE (a b : D) : Option Bool := match a with
  | .str x => (match b with | .str y => some (decide (x = y)) | _ => D.eqP a b)
  | _ => D.eqP a b
def lim : Nat := 100000
def D.truth : D → Option Bool
  | .non => some false
  | .bl b => some b
  | .int i => some (i != 0)
  | .str s => if s.length ≤ lim then some ((s.length : Int) != 0) else none
  | .scr ns => some (!ns.isEmpty)
  | .lst xs => some (!xs.isEmpty)
  | .tup xs => some (!xs.isEmpty)
  | _ => none
def D.len : D → Option Int
  | .str s => if s.length ≤ lim then some (s.length : Int) else none
  | .scr ns => some (ns.length : Int)
  | .lst xs => some (xs.length : Int)
  | .tup xs => some (xs.length : Int)
  | .ktup xs => some (xs.length : Int)
  | .dct ks _ => some (ks.length : Int)
  | _ => none
def D.key : D → Option Key
  | .int i => some (.inl i)
  | .str s => some (.inr s)
  | _ => none
def keyL : List D → Option (List Key)
  | [] => some []
  | x :: xs => match x.key, keyL xs with
    | some a, some b => some (a :: b)
    | _, _ => none
def D.keyT : D → Option (List Key)
  | .tup xs => keyL xs
  | _ => none
/-- the value at a key -/
def look {κ α : Type} [DecidableEq κ] : List κ → List α → κ → Option α
  | k :: ks, x :: xs, j => if k = j then some x else look ks xs j
  | _, _, _ => none
def D.idx (x i : D) : Option D := match x with
  | .lst xs => match i with | .int n => atI xs n | _ => none
  | .tup xs => match i with | .int n => atI xs n | _ => none
  | .scr ns => match i with | .int n => (atI ns n).map .int | _ => none
  | .str s => match i with | .int n => if s.length ≤ lim then (atI s.cps.toList n).map fun c => .str ⟨#[c]⟩ else none | _ => none
  | .dct ks xs => match i.key with | some k => look ks xs k | none => none
  | .dctT ks xs => match i.keyT with | some k => look ks xs k | none => none
  | _ => none
def cutD {α : Type} (xs : List α) (lo hi : Option Int) : List α := (xs.drop (HT.sIx xs.length 0 lo)).take (HT.sIx xs.length xs.length hi - HT.sIx xs.length 0 lo)
def D.slc (x : D) (lo hi : Option Int) : Option D := match x with
  | .lst xs => some (.lst (cutD xs lo hi))
  | .tup xs => some (.tup (cutD xs lo hi))
  | .scr ns => some (.lst ((cutD ns lo hi).map .int))
  | _ => none
inductive BOp where
  | add | sub | mul | mod | fdiv | pow
  deriving DecidableEq
def D.add (x y : D) : Option D := match x with
  | .int i => match y with | .int j => some (.int (i + j)) | _ => none
  | .str a => match y with | .str b => if a.length + b.length ≤ lim then some (.str (a ++ b)) else none | _ => none
  | .lst a => match y with | .lst b => if a.length + b.length ≤ lim then some (.lst (a ++ b)) else none | _ => none
  | .tup a => match y with | .tup b => if a.length + b.length ≤ lim then some (.tup (a ++ b)) else none | _ => none
  | _ => none
def D.mul (x y : D) : Option D := match x with
  | .int i => match y with | .int j => if (-(2 ^ 64) < i ∧ i < 2 ^ 64) ∨ (-(2 ^ 64) < j ∧ j < 2 ^ 64) then some (.int (i * j)) else none | _ => none
  | .lst a => match y with | .int j => if -(2 ^ 63) ≤ j ∧ j < 2 ^ 63 ∧ a.length * j.toNat ≤ lim then some (.lst (List.replicate j.toNat a).flatten) else none | _ => none
  | .tup a => match y with | .int j => if 1 ≤ a.length ∧ 2 ≤ j ∧ j ≤ 1000 ∧ a.length ≤ 1000 then some (.tup (List.replicate j.toNat a).flatten) else none | _ => none
  | _ => none
def D.bin (op : BOp) (x y : D) : Option D := match op with
  | .add => x.add y
  | .mul => x.mul y
  | .sub => match x with | .int i => (match y with | .int j => some (.int (i - j)) | _ => none) | _ => none
  | .mod => match x with | .int i => (match y with | .int j => if j ≠ 0 then some (.int (i.fmod j)) else none | _ => none) | _ => none
  | .fdiv => match x with | .int i => (match y with | .int j => if j ≠ 0 ∧ j.natAbs < 1073741824 then some (.int (i.fdiv j)) else none | _ => none) | _ => none
  | .pow => match x with | .int i => (match y with | .int j => if 0 ≤ j ∧ j ≤ 1000000 ∧ i.natAbs < 2 ^ 64 then some (.int (i ^ j.toNat)) else none | _ => none) | _ => none
inductive KOp where
  | eq | ne | lt | le | gt | ge | inn | nin | is_ | isn
  deriving DecidableEq
def eqVD (x : D) : List D → Option Bool
  | [] => some false
  | y :: ys => match y.eqE x, eqVD x ys with
    | some a, some b => some (a || b)
    | _, _ => none
def D.inn (x y : D) : Option Bool := match y with
  | .lst ys => match D.py x, pyL ys with
    | some p, some qs => if okP p && okP (.list qs) then some (qs.any fun z => PyData.eqv z p) else none
    | _, _ => none
  | .tup ys => match D.py x, pyL ys with
    | some p, some qs => if okP p && okP (.tuple qs) then some (qs.any fun z => PyData.eqv z p) else none
    | _, _ => none
  | .str s => match x with
    | .str t => match t.cps.toList with
      | [c] => some (decide (c ∈ s.cps.toList))
      | _ => none
    | _ => none
  | .dct ks xs => match x.key with | some k => some (look ks xs k).isSome | none => none
  | .dctT ks xs => match x.keyT with | some k => some (look ks xs k).isSome | none => none
  | _ => none
def D.isN : D → Option Bool
  | .non => some true
  | _ => some false
def D.cmp (op : KOp) (x y : D) : Option Bool := match op with
  | .eq => x.eqE y
  | .ne => (x.eqE y).map (!·)
  | .lt => match x, y with | .int i, .int j => some (decide (i < j)) | _, _ => none
  | .le => match x, y with | .int i, .int j => some (decide (i ≤ j)) | _, _ => none
  | .gt => match x, y with | .int i, .int j => some (decide (j < i)) | _, _ => none
  | .ge => match x, y with | .int i, .int j => some (decide (j ≤ i)) | _, _ => none
  | .inn => x.inn y
  | .nin => (x.inn y).map (!·)
  | .is_ => match y with
    | .non => x.isN
    | .bl b => match x with | .bl a => some (decide (a = b)) | _ => none
    | _ => none
  | .isn => match y with
    | .non => x.isN.map (!·)
    | .bl b => match x with | .bl a => some (!decide (a = b)) | _ => none
    | _ => none
def intsD : List D → Option (List Int)
  | [] => some []
  | .int i :: xs => (intsD xs).map (i :: ·)
  | _ :: _ => none
def blsD : List D → Option (List Bool)
  | [] => some []
  | .bl i :: xs => (blsD xs).map (i :: ·)
  | _ :: _ => none
def strItems (s : Str) : List D := s.cps.toList.map fun c => .str ⟨#[c]⟩
/-- what a for walks -/
def D.items : D → Option (List D)
  | .lst xs => some xs
  | .tup xs => some xs
  | .scr ns => some (ns.map .int)
  | .str s => some (strItems s)
  | _ => none
inductive Mode where
  | fr | ow | io
  deriving DecidableEq
/-- a slot, a result: the datum, whose it is, whether all within it is new -/
structure Sl where
  d : D
  m : Mode := .fr
  n : Bool := false
abbrev G := List (Option Sl)
inductive Oc (α : Type) where
  | ok (a : α)
  | ex (c : Str)
abbrev M (α : Type) := Option (Oc α)
def M.bnd {α β : Type} (m : M α) (f : α → M β) : M β := match m with
  | none => none
  | some (.ex c) => some (.ex c)
  | some (.ok a) => f a
@[simp] theorem bnd_ok {α β : Type} (a : α) (f : α → M β) : M.bnd (some (.ok a)) f = f a := rfl
@[simp] theorem bnd_none {α β : Type} (f : α → M β) : M.bnd none f = none := rfl
@[simp] theorem bnd_ex {α β : Type} (c : Str) (f : α → M β) : M.bnd (some (.ex c)) f = some (.ex c) := rfl
/-- no exception within -/
def M.nox {α : Type} (m : M α) : M α := match m with
  | some (.ex _) => none
  | m => m
@[simp] theorem nox_ok {α : Type} (a : α) : M.nox (some (.ok a)) = some (.ok a) := rfl
@[simp] theorem nox_none {α : Type} : M.nox (none : M α) = none := rfl
@[simp] theorem nox_ex {α : Type} (c : Str) : M.nox (some (.ex c) : M α) = none := rfl
def M.opt {α : Type} (o : Option α) : M α := o.map .ok
@[simp] theorem opt_some {α : Type} (a : α) : M.opt (some a) = some (.ok a) := rfl
@[simp] theorem opt_none {α : Type} : M.opt (none : Option α) = none := rfl
/-! ## the core language -/
inductive BI where
  | len | list | tuple | all | any | sum | max1 | max2 | min2 | abs | int
  deriving DecidableEq
inductive Ty where
  | ty (n : String)
  | cls (c : Str)
inductive Tg where
  | one (i : Nat)
  | tup (is : List Nat)
inductive ItK where
  | any | rng1 | rng2 | rng3 | enum | zip
  deriving DecidableEq
inductive C where
  | var (i : Nat) | int (i : Int) | str (s : Str) | bl (b : Bool) | non
  | con (x : Str)
  | tup (cs : List C) | lst (cs : List C) | dnew | dnewT
  | bin (op : BOp) (a b : C)
  | neg (a : C)
  | cmp (op : KOp) (a b : C)
  | chain (op op' : KOp) (a b c : C)
  | and_ (a b : C) | or_ (a b : C) | not_ (a : C)
  | ife (t a b : C)
  | idx (a b : C)
  | slc (a : C) (lo hi : Option C)
  | rev (a : C)
  | att (a : C) (f : Str)
  | call (f : Nat) (args : List C)
  | new (c : Str) (f : Nat) (args : List C)
  | meth (m : Str) (io : Option Nat) (o : C) (args : List C)
  | bi (b : BI) (args : List C)
  | isi (a : C) (t : Ty)
  | index (o a : C)
  | dget (o a : C)
  | kget (x : Str) (a : C)
  | kin (neg : Bool) (x : Str) (a : C)
  | comp (own : List Nat) (tg : Tg) (k : ItK) (its : List C) (cond : Option C) (elt : C)
inductive S where
  | asg (i : Nat) (c : C)
  | asgT (is : List Nat) (c : C)
  | par2 (i j : Nat) (a b : C)
  | par3 (i j k : Nat) (a b c : C)
  | aug (i : Nat) (op : BOp) (c : C)
  | setI (i : Nat) (k v : C)
  | setA (i : Nat) (f : Str) (v : C)
  | app (i : Nat) (c : C)
  | ext (i : Nat) (c : C)
  | expr (c : C)
  | ife (t : C) (a b : List S)
  | for_ (tg : Tg) (k : ItK) (its : List C) (body : List S)
  | forD (i j : Nat) (f : Str) (body : List S)
  | while_ (t : C) (body : List S)
  | ret (c : C)
  | retN
  | raise (c : Str)
  | pass | brk | cont
/-- what the evaluator leans on: the callees (one level down; two down for those that are made), constants, classes -/
structure Ev where
  fn : Nat → List D → M (Sl × Option (D × Bool))
  fm : Nat → List D → M (Sl × Option (D × Bool))
  io : Nat → Option Nat
  dfl : Nat → List D
  np : Nat → Nat
  con : Str → Option D
  att : Str → Str → Bool
  isi : Sum String Str → Ty → Option Bool
  mt : Str → Str → Option Nat
  ini : Str → Option Nat
  gl : Str → Option Nat
  cl : Str → Bool
  kd : Str → Option (List (Str × List Str))
/-! ## slots -/
def G.get (g : G) (i : Nat) : Option Sl := (g[i]?).join
def G.put (g : G) (i : Nat) (s : Sl) : G := g.set i (some s)
/-- is all within a datum new: by its mark, or as it has no object within -/
def D.kidsAtom : D → Bool
  | .lst xs => xs.all D.atom
  | .tup xs => xs.all D.atom
  | .dct _ xs => xs.all D.atom
  | .dctT _ xs => xs.all D.atom
  | .obj _ _ xs => xs.all D.atom
  | _ => true
/-- a slot read as a value: what was its own is given up -/
def takeV (g : G) (i : Nat) : M (Sl × G) := match g.get i with
  | some ⟨d, .fr, n⟩ => some (.ok (⟨d, .fr, n || d.atom⟩, g))
  | some ⟨d, .ow, n⟩ => some (.ok (⟨d, .fr, n⟩, g.put i ⟨d, .fr, n⟩))
  | _ => none
/-- a result given up -/
def Sl.frz (s : Sl) : Sl := ⟨s.d, .fr, s.n⟩
/-- an operand: a value, or a slot that is looked at when the operation is done -/
inductive Op where
  | val (s : Sl)
  | slot (i : Nat)
def Op.get (g : G) : Op → Option Sl
  | .val s => some s
  | .slot i => (g.get i).map fun s => ⟨s.d, s.m, s.n || s.d.atom⟩
def atm (d : D) : Sl := ⟨d, .fr, true⟩
def mkL (m : Mode) (d : D) (ss : List Sl) : Sl := ⟨d, m, ss.all (·.n)⟩
def dsL (ss : List Sl) : List D := ss.map (·.d)
def keyD : Key → D
  | .inl i => .int i
  | .inr s => .str s
def biD (b : BI) (args : List Sl) : Option Sl := match b, args with
  | .len, [x] => x.d.len.map fun n => atm (.int n)
  | .list, [x] => match x.d with
    | .lst xs => some ⟨.lst xs, .ow, x.n⟩
    | .tup xs => some ⟨.lst xs, .ow, x.n⟩
    | .scr ns => some ⟨.lst (ns.map .int), .ow, true⟩
    | .dct ks _ => some ⟨.lst (ks.map keyD), .ow, true⟩
    | _ => none
  | .tuple, [x] => match x.d with
    | .lst xs => some ⟨.tup xs, .fr, x.n⟩
    | .tup xs => some ⟨.tup xs, .fr, x.n⟩
    | _ => none
  | .all, [x] => match x.d with | .lst xs => (blsD xs).map fun bs => atm (.bl (bs.all id)) | _ => none
  | .any, [x] => match x.d with | .lst xs => (blsD xs).map fun bs => atm (.bl (bs.any id)) | _ => none
  | .sum, [x] => match x.d with | .lst xs => (intsD xs).map fun ns => atm (.int ns.sum) | _ => none
  | .max1, [x] => match x.d with | .lst xs => (intsD xs).bind fun ns => (ns.max?).map fun m => atm (.int m) | _ => none
  | .max2, [x, y] => match x.d, y.d with | .int i, .int j => some (atm (.int (if j > i then j else i))) | _, _ => none
  | .min2, [x, y] => match x.d, y.d with | .int i, .int j => some (atm (.int (if j < i then j else i))) | _, _ => none
  | .abs, [x] => match x.d with | .int i => some (atm (.int (if i < 0 then -i else i))) | _ => none
  | .int, [x] => match x.d with | .int i => some (atm (.int i)) | .bl k => some (atm (.int (if k then 1 else 0))) | _ => none
  | _, _ => none
def tyName : D → Option (Sum String Str)
  | .non => some (.inl "NoneType")
  | .bl _ => some (.inl "bool")
  | .int _ => some (.inl "int")
  | .str _ => some (.inl "str")
  | .scr _ => some (.inl "list")
  | .lst _ => some (.inl "list")
  | .tup _ => some (.inl "tuple")
  | .ktup _ => none
  | .dct _ _ => some (.inl "dict")
  | .dctT _ _ => some (.inl "dict")
  | .obj c _ _ => some (.inr c)
def isiD (E : Ev) (d : D) (t : Ty) : Option Bool := match tyName d with
  | some (.inl a) => (match t with
    | .ty b => kitB a b
    | t => E.isi (.inl a) t)
  | some a => E.isi a t
  | none => none
/-- the first place of an equal one -/
def indexD (x : D) : List D → Nat → Option Nat
  | [], _ => none
  | y :: ys, n => match y.eqE x with
    | some true => some n
    | some false => indexD x ys (n + 1)
    | none => none
/-! ## what a for walks -/
def rngL (lo : Int) (n : Nat) (c : Int) : List D := (List.range n).map fun (k : Nat) => .int (lo + (k : Int) * c)
def enumL (xs : List D) : List D := (xs.zipIdx).map fun (x, k) => .tup [.int (k : Nat), x]
def zipL (xs ys : List D) : List D := (xs.zip ys).map fun (x, y) => .tup [x, y]
def rngOk (i : Int) : Bool := decide (-(2 ^ 62) ≤ i) && decide (i < 2 ^ 62)
def itemsK (k : ItK) (args : List Sl) : Option (List D × Bool) := match k, args with
  | .any, [x] => x.d.items.map fun l => (l, x.n)
  | .rng1, [x] => match x.d with | .int j => if rngOk j then some (rngL 0 j.toNat 1, true) else none | _ => none
  | .rng2, [x, y] => match x.d, y.d with | .int i, .int j => if rngOk i && rngOk j then some (rngL i (j - i).toNat 1, true) else none | _, _ => none
  | .rng3, [x, y, z] => match x.d, y.d, z.d with
    | .int i, .int j, .int c => if c ≠ 0 ∧ c.natAbs < 1073741824 ∧ Builtin.Range.small i j c = true ∧ 0 ≤ Builtin.Range.rangeSize i j c then some (rngL i (Builtin.Range.rangeSize i j c).toNat c, true) else none
    | _, _, _ => none
  | .enum, [x] => match x.d with | .lst xs => some (enumL xs, x.n) | _ => none
  | .zip, [x, y] => match x.d, y.d with
    | .lst xs, .lst ys => some (zipL xs ys, x.n && y.n)
    | .tup xs, .tup ys => some (zipL xs ys, x.n && y.n)
    | .tup xs, .ktup ys => some (zipL xs (ys.map .str), x.n)
    | _, _ => none
  | _, _ => none
/-- an item goes to its names -/
def putAll : G → List Nat → List D → Bool → Option G
  | g, [], [], _ => some g
  | g, i :: is, d :: ds, n => match g.get i with
    | some ⟨_, .io, _⟩ => none
    | _ => if i < g.length then putAll (g.put i ⟨d, .fr, n || d.atom⟩) is ds n else none
  | _, _, _, _ => none
def bindT (g : G) (t : Tg) (d : D) (n : Bool) : Option G := match t with
  | .one i => putAll g [i] [d] n
  | .tup is => match d with
    | .tup ds => putAll g is ds n
    | _ => none
/-! ## calls -/
/-- an argument: a value, a slot that the callee may change, a new thing that it may change -/
inductive Ar where
  | val (s : Sl)
  | slot (i : Nat)
  | tmp (s : Sl)
def Ar.d (g : G) : Ar → Option D
  | .val s => some s.d
  | .tmp s => some s.d
  | .slot i => match g.get i with
    | some s => if s.m = .fr then none else some s.d
    | none => none
def arsD (g : G) : List Ar → Option (List D)
  | [] => some []
  | a :: as => match a.d g, arsD g as with
    | some d, some ds => some (d :: ds)
    | _, _ => none
/-- the argument that the callee may change: its slot, or none -/
def ioOf : List Ar → Option (Option Nat)
  | [] => none
  | .slot i :: _ => some (some i)
  | .tmp _ :: _ => some none
  | .val _ :: as => ioOf as
def ioLt (io : Option Nat) (n : Nat) : Bool := match io with
  | none => true
  | some j => decide (j < n)
def doCall (fn : List D → M (Sl × Option (D × Bool))) (io : Option Nat) (np : Nat) (more : List D) (as : List Ar) (g : G) : M (Sl × G) :=
  if as.length + more.length = np ∧ ioLt io as.length = true then match arsD g as with
  | some ds => M.bnd (fn (ds ++ more)) fun (r, o) => match ioOf as with
    | none => (match o with
      | none => some (.ok (⟨r.d, r.m, r.n || r.d.atom⟩, g))
      | some _ => none)
    | some none => (match o with
      | some _ => some (.ok (⟨r.d, r.m, r.n || r.d.atom⟩, g))
      | none => none)
    | some (some i) => (match o with
      | some dn => (match g.get i with
        | some s => if s.m = .fr then none else some (.ok (⟨r.d, r.m, r.n || r.d.atom⟩, g.put i ⟨dn.1, s.m, dn.1.kidsAtom⟩))
        | none => none)
      | none => none)
  | none => none
  else none
def moreOf (E : Ev) (f n : Nat) : List D := (E.dfl f).drop ((E.dfl f).length + n - E.np f)
/-- an instance's method -/
def selfD (E : Ev) (m : Str) : D → Option Nat
  | .obj c fs _ => if fs.contains m then none else E.mt c m
  | _ => none
def selfFid (E : Ev) (m : Str) (g : G) (a : Ar) : Option Nat := match a with
  | .val s => selfD E m s.d
  | .slot i => match g.get i with
    | some s => selfD E m s.d
    | none => none
  | .tmp s => selfD E m s.d
/-! ## the evaluator -/
inductive Fl where
  | nx | rt (s : Sl) | bk | ct
def G.wipe (g : G) : List Nat → G
  | [] => g
  | v :: vs => (G.wipe g vs).set v none
def ownOk (g : G) (own : List Nat) : Bool := own.all fun i => decide (i < g.length) && match g.get i with
  | some ⟨_, .fr, _⟩ => true
  | none => true
  | _ => false
def G.restore (g g0 : G) : List Nat → G
  | [] => g
  | v :: vs => (G.restore g g0 vs).set v (g0[v]?).join
def compL (f : D → G → M (Option Sl × G)) : List D → G → M (List Sl × G)
  | [], g => some (.ok ([], g))
  | d :: ds, g => M.bnd (f d g) fun (o, g1) => M.bnd (compL f ds g1) fun (ss, g2) => some (.ok (match o with | some s => s :: ss | none => ss, g2))
def forL (f : D → G → M (Fl × G)) : List D → G → M (Fl × G)
  | [], g => some (.ok (.nx, g))
  | d :: ds, g => M.bnd (f d g) fun (fl, g1) => match fl with
    | .nx => forL f ds g1
    | .ct => forL f ds g1
    | .bk => some (.ok (.nx, g1))
    | .rt s => some (.ok (.rt s, g1))
def whileL (t : G → M (Bool × G)) (b : G → M (Fl × G)) : Nat → G → M (Fl × G)
  | 0, _ => none
  | n + 1, g => M.bnd (t g) fun (k, g1) => if k then M.bnd (b g1) fun (fl, g2) => match fl with
      | .nx => whileL t b n g2
      | .ct => whileL t b n g2
      | .bk => some (.ok (.nx, g2))
      | .rt s => some (.ok (.rt s, g2))
    else some (.ok (.nx, g1))
def whileN : Nat := 100000
def bySh (d : D) (n : Bool) : Sl := match d with
  | .lst _ => ⟨d, .ow, n⟩
  | .tup _ => ⟨d, .fr, n⟩
  | _ => atm d
def resBin (op : BOp) (x y : Sl) : Option Sl := (x.d.bin op y.d).map fun d => bySh d (x.n && y.n)
/-- an operand, a test, an argument: by what the expression is, and its value -/
def opd (c : C) (ev : G → M (Sl × G)) (g : G) : M (Op × G) := match c with
  | .var i => match g.get i with
    | some _ => some (.ok (.slot i, g))
    | none => none
  | _ => M.bnd (ev g) fun (s, g1) => some (.ok (.val s.frz, g1))
def tst (c : C) (ev : G → M (Sl × G)) (g : G) : M (Bool × G) := M.bnd (opd c ev g) fun (o, g1) => match o.get g1 with
  | some s => match s.d.truth with
    | some k => some (.ok (k, g1))
    | none => none
  | none => none
def arg1 (io : Option Nat) (j : Nat) (c : C) (ev : G → M (Sl × G)) (g : G) : M (Ar × G) :=
  if io = some j then match c with
    | .var i => match g.get i with
      | some ⟨_, .fr, _⟩ => none
      | some _ => some (.ok (Ar.slot i, g))
      | none => none
    | _ => M.bnd (ev g) fun (s, g1) => if s.m = .ow then some (.ok (Ar.tmp s, g1)) else none
  else M.bnd (ev g) fun (s, g1) => some (.ok (Ar.val s.frz, g1))
/-- an operation on two operands -/
def op2 (a b : C) (ea eb : G → M (Sl × G)) (f : Sl → Sl → Option Sl) (g : G) : M (Sl × G) :=
  M.bnd (opd a ea g) fun (oa, g1) => M.bnd (opd b eb g1) fun (ob, g2) => match oa.get g2, ob.get g2 with
    | some x, some y => match f x y with
      | some s => some (.ok (s, g2))
      | none => none
    | _, _ => none
/-- .. the first one is of a kind ahead of the second one's evaluation, too -/
def op2p (pre : D → Bool) (a b : C) (ea eb : G → M (Sl × G)) (f : Sl → Sl → Option Sl) (g : G) : M (Sl × G) :=
  M.bnd (opd a ea g) fun (oa, g1) => match oa.get g1 with
    | some x0 => if pre x0.d then M.bnd (opd b eb g1) fun (ob, g2) => (match oa.get g2, ob.get g2 with
      | some x, some y => match f x y with
        | some s => some (.ok (s, g2))
        | none => none
      | _, _ => none) else none
    | none => none
def isLst : D → Bool
  | .lst _ => true
  | _ => false
def isDct : D → Bool
  | .dct _ _ => true
  | _ => false
def op1 (a : C) (ea : G → M (Sl × G)) (f : Sl → Option Sl) (g : G) : M (Sl × G) :=
  M.bnd (opd a ea g) fun (oa, g1) => match oa.get g1 with
    | some x => match f x with
      | some s => some (.ok (s, g1))
      | none => none
    | none => none
def cmpS (op : KOp) (x y : Sl) : Option Sl := (x.d.cmp op y.d).map fun k => atm (.bl k)
def negS (x : Sl) : Option Sl := match x.d with | .int i => some (atm (.int (-i))) | _ => none
def idxS (x y : Sl) : Option Sl := (x.d.idx y.d).map fun d => ⟨d, .fr, x.n || d.atom⟩
def revS (x : Sl) : Option Sl := match x.d with | .lst xs => some ⟨.lst xs.reverse, .ow, x.n⟩ | _ => none
def attS (E : Ev) (f : Str) (x : Sl) : Option Sl := match x.d with | .obj c fs xs => if E.att c f then (look fs xs f).map fun d => ⟨d, .fr, x.n || d.atom⟩ else none | _ => none
def isiS (E : Ev) (t : Ty) (x : Sl) : Option Sl := (isiD E x.d t).map fun k => atm (.bl k)
def indexS (x y : Sl) : Option Sl := match x.d with
  | .lst xs => match D.inn y.d (.lst xs), indexD y.d xs 0 with
    | some true, some k => some (atm (.int (k : Nat)))
    | _, _ => none
  | _ => none
def dgetS (x y : Sl) : Option Sl := match x.d with
  | .dct ks xs => (y.d.key).map fun k => match look ks xs k with
    | some d => ⟨d, .fr, x.n || d.atom⟩
    | none => atm .non
  | _ => none
def slcS (l h : Option Int) (x : Sl) : Option Sl := (x.d.slc l h).map fun d => match d with
  | .lst xs => ⟨.lst xs, .ow, x.n || (D.lst xs).kidsAtom⟩
  | d => ⟨d, .fr, x.n⟩
/-- the module's own tables -/
def kgetS (E : Ev) (x : Str) (s : Sl) : Option Sl := match s.d with
  | .str z => match E.kd x with
    | some kvs => (kvs.lookup z).map fun ss => ⟨.ktup ss, .fr, true⟩
    | none => none
  | _ => none
def kinS (E : Ev) (neg : Bool) (x : Str) (s : Sl) : Option Sl := match s.d with
  | .str z => match E.kd x with
    | some kvs => some (atm (.bl (if neg then !(kvs.lookup z).isSome else (kvs.lookup z).isSome)))
    | none => none
  | _ => none
/-- a value that is a truth -/
def boolE (ev : G → M (Sl × G)) (g : G) : M (Bool × G) := M.bnd (ev g) fun (s, g1) => match s.d with
  | .bl k => some (.ok (k, g1))
  | _ => none
mutual
def evE (E : Ev) : C → G → M (Sl × G)
  | .var i, g => takeV g i
  | .int i, g => some (.ok (atm (.int i), g))
  | .str s, g => some (.ok (atm (.str s), g))
  | .bl b, g => some (.ok (atm (.bl b), g))
  | .non, g => some (.ok (atm .non, g))
  | .con x, g => match E.con x with
    | some d => if d.atom then some (.ok (atm d, g)) else none
    | none => none
  | .tup cs, g => M.bnd (evV E cs g) fun (ss, g1) => if ss.length ≤ lim then some (.ok (mkL .fr (.tup (dsL ss)) ss, g1)) else none
  | .lst cs, g => M.bnd (evV E cs g) fun (ss, g1) => if ss.length ≤ lim then some (.ok (mkL .ow (.lst (dsL ss)) ss, g1)) else none
  | .dnew, g => some (.ok (⟨.dct [] [], .ow, true⟩, g))
  | .dnewT, g => some (.ok (⟨.dctT [] [], .ow, true⟩, g))
  | .bin op a b, g => op2 a b (evE E a) (evE E b) (resBin op) g
  | .neg a, g => op1 a (evE E a) negS g
  | .cmp op a b, g => op2 a b (evE E a) (evE E b) (cmpS op) g
  | .chain op op' a b c, g => M.bnd (opd a (evE E a) g) fun (oa, g1) => M.bnd (opd b (evE E b) g1) fun (ob, g2) => match oa.get g2, ob.get g2 with
    | some x, some y => match x.d.cmp op y.d with
      | some true => M.bnd (opd c (evE E c) g2) fun (oc, g3) => match ob.get g3, oc.get g3 with
        | some y, some z => match y.d.cmp op' z.d with
          | some k => some (.ok (atm (.bl k), g3))
          | none => none
        | _, _ => none
      | some false => some (.ok (atm (.bl false), g2))
      | none => none
    | _, _ => none
  | .and_ a b, g => M.bnd (boolE (evE E a) g) fun (k, g1) => if k then M.bnd (boolE (evE E b) g1) fun (k, g2) => some (.ok (atm (.bl k), g2)) else some (.ok (atm (.bl false), g1))
  | .or_ a b, g => M.bnd (boolE (evE E a) g) fun (k, g1) => if k then some (.ok (atm (.bl true), g1)) else M.bnd (boolE (evE E b) g1) fun (k, g2) => some (.ok (atm (.bl k), g2))
  | .not_ a, g => M.bnd (boolE (evE E a) g) fun (k, g1) => some (.ok (atm (.bl (!k)), g1))
  | .ife t a b, g => M.bnd (tst t (evE E t) g) fun (k, g1) => if k then evE E a g1 else evE E b g1
  | .idx a b, g => op2 a b (evE E a) (evE E b) idxS g
  | .slc a lo hi, g => M.bnd (opd a (evE E a) g) fun (oa, g1) => M.bnd (evP E lo g1) fun (l, g2) => M.bnd (evP E hi g2) fun (h, g3) => match oa.get g3 with
    | some x => match slcS l h x with
      | some s => some (.ok (s, g3))
      | none => none
    | none => none
  | .rev a, g => op1 a (evE E a) revS g
  | .att a f, g => op1 a (evE E a) (attS E f) g
  | .call f args, g => M.bnd (evA E (E.io f) 0 args g) fun (as, g1) => doCall (E.fn f) (E.io f) (E.np f) (moreOf E f args.length) as g1
  | .new c f args, g => M.bnd (evA E (E.io f) 1 args g) fun (as, g1) => if E.io f = some 0 ∧ E.ini c = some f ∧ as.length + 1 + (moreOf E f (args.length + 1)).length = E.np f then match arsD g1 as with
      | some ds => M.bnd (E.fm f (.obj c [] [] :: (ds ++ moreOf E f (args.length + 1)))) fun (r, o) => match r.d, o with
        | .non, some dn => some (.ok (⟨dn.1, .ow, dn.2 || dn.1.kidsAtom⟩, g1))
        | _, _ => none
      | none => none
    else none
  | .meth m io o args, g => M.bnd (arg1 io 0 o (evE E o) g) fun (a, g1) => match selfFid E m g1 a with
    | some f => M.bnd (evA E io 1 args g1) fun (as, g2) => if E.io f = io then doCall (E.fn f) io (E.np f) (moreOf E f (args.length + 1)) (a :: as) g2 else none
    | none => none
  | .bi b args, g => M.bnd (evOs E args g) fun (os, g1) => match os.mapM (·.get g1) with
    | some ss => match biD b ss with
      | some s => some (.ok (s, g1))
      | none => none
    | none => none
  | .isi a t, g => op1 a (evE E a) (isiS E t) g
  | .index o a, g => op2p isLst o a (evE E o) (evE E a) indexS g
  | .dget o a, g => op2p isDct o a (evE E o) (evE E a) dgetS g
  | .kget x a, g => op1 a (evE E a) (kgetS E x) g
  | .kin neg x a, g => op1 a (evE E a) (kinS E neg x) g
  | .comp own tg k its cond elt, g => M.bnd (evV E its g) fun (ss, g1) => match itemsK k ss with
    | some (items, n) => if ownOk g1 own then
        M.bnd (compL (fun d g2 => match bindT g2 tg d n with
          | some g3 => M.bnd (evTO E cond g3).nox fun (k, g4) => if k then M.bnd (evE E elt g4).nox fun (s, g5) => some (.ok (some s.frz, G.wipe g5 own)) else some (.ok (none, G.wipe g4 own))
          | none => none) items (G.wipe g1 own)) fun (rs, g6) =>
          if rs.length < lim then some (.ok (⟨.lst (dsL rs), .ow, rs.all (·.n)⟩, G.restore g6 g1 own)) else none
      else none
    | none => none
def evOs (E : Ev) : List C → G → M (List Op × G)
  | [], g => some (.ok ([], g))
  | c :: cs, g => M.bnd (opd c (evE E c) g) fun (o, g1) => M.bnd (evOs E cs g1) fun (os, g2) => some (.ok (o :: os, g2))
def evV (E : Ev) : List C → G → M (List Sl × G)
  | [], g => some (.ok ([], g))
  | c :: cs, g => M.bnd (evE E c g) fun (s, g1) => M.bnd (evV E cs g1) fun (ss, g2) => some (.ok (s.frz :: ss, g2))
def evA (E : Ev) (io : Option Nat) : Nat → List C → G → M (List Ar × G)
  | _, [], g => some (.ok ([], g))
  | j, c :: cs, g => M.bnd (arg1 io j c (evE E c) g) fun (a, g1) => M.bnd (evA E io (j + 1) cs g1) fun (as, g2) => some (.ok (a :: as, g2))
def evP (E : Ev) : Option C → G → M (Option Int × G)
  | none, g => some (.ok (none, g))
  | some c, g => M.bnd (evE E c g) fun (s, g1) => match s.d with
    | .int i => some (.ok (some i, g1))
    | _ => none
def evTO (E : Ev) : Option C → G → M (Bool × G)
  | none, g => some (.ok (true, g))
  | some c, g => tst c (evE E c) g
end
def evT (E : Ev) (c : C) : G → M (Bool × G) := tst c (evE E c)
def evO (E : Ev) (c : C) : G → M (Op × G) := opd c (evE E c)
/-- the values where a key is given another -/
def mapSet {κ : Type} [DecidableEq κ] : List κ → List D → κ → D → List D
  | k :: ks, x :: xs, j, v => (if k = j then v else x) :: mapSet ks xs j v
  | _, xs, _, _ => xs
def setAll {κ : Type} [DecidableEq κ] (ks : List κ) (xs : List D) (j : κ) (v : D) : List κ × List D :=
  if ks.any (fun k => decide (k = j)) then (ks, mapSet ks xs j v) else (ks ++ [j], xs ++ [v])
/-- x[k] = v -/
def setKey {κ : Type} [DecidableEq κ] : List κ → List D → κ → D → List κ × List D
  | k :: ks, x :: xs, j, v => if k = j then (k :: ks, v :: xs) else let r := setKey ks xs j v; (k :: r.1, x :: r.2)
  | _, _, j, v => ([j], [v])
def D.setI (x k v : D) : Option D := match x with
  | .lst xs => match k with | .int i => (ixN xs.length i).map fun j => .lst (xs.set j v) | _ => none
  | .dct ks xs => match k.key with | some j => if ks.length < lim ∧ ks.length = xs.length then let r := setAll ks xs j v; some (.dct r.1 r.2) else none | none => none
  | .dctT ks xs => match k.keyT with | some j => if ks.length < lim ∧ ks.length = xs.length then let r := setAll ks xs j v; some (.dctT r.1 r.2) else none | none => none
  | _ => none
def D.setA (x : D) (E : Ev) (f : Str) (v : D) : Option D := match x with
  | .obj c fs xs => if E.att c f = true ∧ fs.length < 100 ∧ fs.length = xs.length then let r := setKey fs xs f v; some (.obj c r.1 r.2) else none
  | _ => none
def mutSlot (g : G) (i : Nat) (f : D → Option D) (n : Bool) : M (Fl × G) := match g.get i with
  | some ⟨d, .fr, _⟩ => none
  | some ⟨d, m, n0⟩ => match f d with
    | some d' => some (.ok (.nx, g.put i ⟨d', m, n0 && n⟩))
    | none => none
  | none => none
def D.app (v : D) (x : D) : Option D := match x with | .lst xs => if xs.length < lim then some (.lst (xs ++ [v])) else none | _ => none
def D.ext (v : D) (x : D) : Option D := match x, v with | .lst xs, .lst ys => if xs.length + ys.length ≤ lim then some (.lst (xs ++ ys)) else none | _, _ => none
/-- a name is given a result -/
def setSlot (g : G) (i : Nat) (s : Sl) : Option G := match g.get i with
  | some ⟨_, .io, _⟩ => none
  | _ => if i < g.length then some (g.put i s) else none
/-- the slot holds a list that may be changed -/
def ownL (g : G) (i : Nat) : Bool := match g.get i with
  | some ⟨.lst _, .ow, _⟩ => true
  | some ⟨.lst _, .io, _⟩ => true
  | _ => false
mutual
def evS (E : Ev) : S → G → M (Fl × G)
  | .asg i c, g => M.bnd (evE E c g) fun (s, g1) => match setSlot g1 i s with
    | some g2 => some (.ok (.nx, g2))
    | none => none
  | .asgT is c, g => M.bnd (evE E c g) fun (s, g1) => match s.d with
    | .tup ds => match putAll g1 is ds s.n with
      | some g2 => some (.ok (.nx, g2))
      | none => none
    | _ => none
  | .par2 i j a b, g => M.bnd (evE E a g) fun (s, g1) => M.bnd (evE E b g1) fun (t, g2) => if i = j then none else match setSlot g2 i s with
    | some g3 => match setSlot g3 j t with
      | some g4 => some (.ok (.nx, g4))
      | none => none
    | none => none
  | .par3 i j k a b c, g => M.bnd (evE E a g) fun (s, g1) => M.bnd (evE E b g1) fun (t, g2) => M.bnd (evE E c g2) fun (u, g3) => if i = j ∨ i = k ∨ j = k then none else match setSlot g3 i s with
    | some g4 => match setSlot g4 j t with
      | some g5 => match setSlot g5 k u with
        | some g6 => some (.ok (.nx, g6))
        | none => none
      | none => none
    | none => none
  | .aug i op c, g => match g.get i with
    | some ⟨.int x, .fr, _⟩ => M.bnd (evE E c g) fun (s, g1) => match g1.get i, s.d with
      | some ⟨.int _, .fr, _⟩, .int y => match D.bin op (.int x) (.int y) with
        | some d => if op = .add ∨ op = .sub then some (.ok (.nx, g1.put i (atm d))) else none
        | none => none
      | _, _ => none
    | _ => none
  | .setI i k v, g => M.bnd (evE E v g) fun (s, g1) => if (g1.get i).isSome = true then M.bnd (opd k (evE E k) g1) fun (o, g2) => (match o.get g2 with
    | some y => mutSlot g2 i (fun x => x.setI y.d s.d) s.n
    | none => none) else none
  | .setA i f v, g => M.bnd (evE E v g) fun (s, g1) => mutSlot g1 i (fun x => x.setA E f s.d) s.n
  | .app i c, g => if ownL g i then M.bnd (evE E c g) fun (s, g1) => mutSlot g1 i (D.app s.d) s.n else none
  | .ext i c, g => if ownL g i then M.bnd (evE E c g) fun (s, g1) => mutSlot g1 i (D.ext s.d) s.n else none
  | .expr c, g => M.bnd (evE E c g) fun (_, g1) => some (.ok (.nx, g1))
  | .ife t a b, g => M.bnd (evT E t g) fun (k, g1) => if k then evSs E a g1 else evSs E b g1
  | .for_ tg k its body, g => M.nox (M.bnd (evV E its g) fun (ss, g1) => match itemsK k ss with
    | some (items, n) => forL (fun d g2 => match bindT g2 tg d n with
      | some g3 => evSs E body g3
      | none => none) items g1
    | none => none)
  | .forD i j f body, g => M.nox (match g.get j with
    | some ⟨.obj c fs xs, _, _⟩ => if E.att c f = true then (match look fs xs f with
      | some (.dct ks _) => forL (fun d g2 => match putAll g2 [i] [d] true with
        | some g3 => evSs E body g3
        | none => none) (ks.map keyD) g
      | _ => none) else none
    | _ => none)
  | .while_ t body, g => M.nox (whileL (evT E t) (evSs E body) whileN g)
  | .ret c, g => match c with
    | .var i => match g.get i with
      | some ⟨d, .ow, n⟩ => some (.ok (.rt ⟨d, .ow, n⟩, g.set i none))
      | _ => M.bnd (evE E c g) fun (s, g1) => some (.ok (.rt s, g1))
    | _ => M.bnd (evE E c g) fun (s, g1) => some (.ok (.rt s, g1))
  | .retN, g => some (.ok (.rt (atm .non), g))
  | .raise c, g => some (.ex c)
  | .pass, g => some (.ok (.nx, g))
  | .brk, g => some (.ok (.bk, g))
  | .cont, g => some (.ok (.ct, g))
def evSs (E : Ev) : List S → G → M (Fl × G)
  | [], g => some (.ok (.nx, g))
  | s :: ss, g => M.bnd (evS E s g) fun (fl, g1) => match fl with
    | .nx => evSs E ss g1
    | fl => some (.ok (fl, g1))
end
end Y
set_option Elab.async false
set_option linter.all false
set_option maxRecDepth 100000
set_option maxHeartbeats 2000000
namespace Y
open PySem PySem.Spec PyProof.Rows L2
/-! ## heaps -/
theorem ex_seqL {K : PySem.W.Frag} {H H' : Hp} {a : Addr} {xs : List V} (e : Same H H') (h : SqL K H a xs) : SqL K H' a xs := e.seq h
theorem ex_seqT {K : PySem.W.Frag} {H H' : Hp} {a : Addr} {xs : List V} (e : Same H H') (h : SqT K H a xs) : SqT K H' a xs := by
  rcases h with (h | ⟨o, h⟩) | h
  · exact .inl (.inl (e _ _ h))
  · exact .inl (.inr ⟨o, e _ _ h⟩)
  · exact .inr h
section
variable {K : PySem.W.Frag} {F F' H : Hp}
mutual
theorem At.mono (e : Same F F') : ∀ (d : D) (v : V), At K F v d → At K F' v d
  | .non, _, h => by cases h; exact .non
  | .bl b, _, h => by cases h; exact .bl b
  | .int i, _, h => by cases h; exact .int i
  | .str s, _, h => by cases h; exact .str s
  | .scr ns, _, h => by cases h with | scr h1 => exact .scr (ex_seqL e h1)
  | .ktup xs, _, h => by cases h with | ktup h1 => exact .ktup h1
  | .lst xs, _, h => by cases h with | lst h1 h2 => exact .lst (e _ _ h1) (atL_mono e xs _ h2)
  | .tup xs, _, h => by cases h with | tup h1 h2 => exact .tup (e _ _ h1) (atL_mono e xs _ h2)
  | .dct ks xs, _, h => by cases h with | dct h1 h2 h3 => exact .dct (h1.elim (fun z => .inl (e _ _ z)) fun ⟨o, z⟩ => .inr ⟨o, e _ _ z⟩) h2 (atL_mono e xs _ h3)
  | .dctT ks xs, _, h => by cases h with | dctT h1 h2 h3 => exact .dctT (e _ _ h1) h2 (atL_mono e xs _ h3)
  | .obj c fs xs, _, h => by cases h with | obj h1 h2 h3 => exact .obj (e _ _ h1) h2 (atL_mono e xs _ h3)
theorem atL_mono (e : Same F F') : ∀ (ds : List D) (vs : List V), Paired (At K F) vs ds → Paired (At K F') vs ds
  | [], _, h => by cases h; exact .nil
  | d :: ds, _, h => by cases h with | cons h1 h2 => exact .cons (At.mono e d _ h1) (atL_mono e ds _ h2)
end
theorem At.atom {G : Hp} : ∀ {d : D} {v : V}, At K F v d → d.atom = true → At K G v d
  | .non, _, h, _ => by cases h; exact .non
  | .bl b, _, h, _ => by cases h; exact .bl b
  | .int i, _, h, _ => by cases h; exact .int i
  | .str s, _, h, _ => by cases h; exact .str s
  | .scr _, _, _, e => by cases e
  | .ktup _, _, _, e => by cases e
  | .lst _, _, _, e => by cases e
  | .tup _, _, _, e => by cases e
  | .dct _ _, _, _, e => by cases e
  | .dctT _ _, _, _, e => by cases e
  | .obj _ _ _, _, _, e => by cases e
theorem atL_atom {G : Hp} : ∀ {ds : List D} {vs : List V}, Paired (At K F) vs ds → ds.all D.atom = true → Paired (At K G) vs ds
  | [], _, h, _ => by cases h; exact .nil
  | d :: ds, _, h, e => by
    cases h with
    | cons h1 h2 =>
      rw [List.all_cons, Bool.and_eq_true] at e
      exact .cons (h1.atom e.1) (atL_atom h2 e.2)
end
/-- the part of F that is new since H0, where asked -/
def FN (H0 F : Hp) (n : Bool) : Hp := fun b => if n = true ∧ (H0 b).isSome = true then none else F b
theorem FN_false {H0 F : Hp} : FN H0 F false = F := by
  funext b
  simp [FN]
theorem FN_le {H0 F : Hp} {n : Bool} : Same (FN H0 F n) F := fun b o h => by
  unfold FN at h
  split at h
  · cases h
  · exact h
theorem FN_mono {H0 F F' : Hp} {n : Bool} (e : Same F F') : Same (FN H0 F n) (FN H0 F' n) := fun b o h => by
  unfold FN at h ⊢
  split at h
  · cases h
  · rename_i h1
    rw [if_neg h1]
    exact e _ _ h
theorem FN_imp {H0 F : Hp} {n m : Bool} (h : m = true → n = true) : Same (FN H0 F n) (FN H0 F m) := fun b o q => by
  unfold FN at q ⊢
  split at q
  · cases q
  · rename_i h1
    split
    · rename_i h2
      exact absurd ⟨h h2.1, h2.2⟩ h1
    · exact q
theorem FN_new {H0 F : Hp} {n : Bool} {b : Addr} (h : H0 b = none) : FN H0 F n b = F b := by
  unfold FN
  rw [if_neg]
  rw [h]
  simp
/-! ## what stands at a slot's own object -/
inductive Top (K : PySem.W.Frag) (F H : Hp) (p : Addr) : D → Prop
  | lst {vs : List V} {ds : List D} : H p = some (.lst vs) → Paired (At K F) vs ds → Top K F H p (.lst ds)
  | dct {kvs : List (Key × V)} {ks : List Key} {ds : List D} : H p = some (.dK kvs) → kvs.map (·.1) = ks → Paired (At K F) (kvs.map (·.2)) ds → Top K F H p (.dct ks ds)
  | dctT {kvs : List (List Key × V)} {ks : List (List Key)} {ds : List D} : H p = some (.dT kvs) → kvs.map (·.1) = ks → Paired (At K F) (kvs.map (·.2)) ds → Top K F H p (.dctT ks ds)
  | obj {dx : Addr} {c : Str} {kvs : List (Str × V)} {fs : List Str} {ds : List D} : H p = some (.ins (He.ga K c) dx kvs) → kvs.map (·.1) = fs → Paired (At K F) (kvs.map (·.2)) ds → Top K F H p (.obj c fs ds)
theorem Top.mono {K : PySem.W.Frag} {F F' H H' : Hp} {p : Addr} {d : D} (h : Top K F H p d) (e : Same F F') (hp : H' p = H p) : Top K F' H' p d := by
  cases h with
  | lst h1 h2 => exact .lst (by rw [hp]; exact h1) (atL_mono e _ _ h2)
  | dct h1 h2 h3 => exact .dct (by rw [hp]; exact h1) h2 (atL_mono e _ _ h3)
  | dctT h1 h2 h3 => exact .dctT (by rw [hp]; exact h1) h2 (atL_mono e _ _ h3)
  | obj h1 h2 h3 => exact .obj (by rw [hp]; exact h1) h2 (atL_mono e _ _ h3)
theorem Top.is {K : PySem.W.Frag} {F H : Hp} {p : Addr} {d : D} (h : Top K F H p d) : ∃ o, H p = some o := by
  cases h <;> exact ⟨_, by assumption⟩
theorem Top.atoms {K : PySem.W.Frag} {F G H : Hp} {p : Addr} {d : D} (h : Top K F H p d) (e : d.kidsAtom = true) : Top K G H p d := by
  cases h with
  | lst h1 h2 => exact .lst h1 (atL_atom h2 e)
  | dct h1 h2 h3 => exact .dct h1 h2 (atL_atom h3 e)
  | dctT h1 h2 h3 => exact .dctT h1 h2 (atL_atom h3 e)
  | obj h1 h2 h3 => exact .obj h1 h2 (atL_atom h3 e)
/-- an own object given up: it stands in the frozen heap from now on -/
theorem Top.at {K : PySem.W.Frag} {F F' H : Hp} {p : Addr} {d : D} (h : Top K F H p d) (e : Same F F') (hp : F' p = H p) : At K F' (.ref p) d := by
  cases h with
  | lst h1 h2 => exact .lst (by rw [hp]; exact h1) (atL_mono e _ _ h2)
  | dct h1 h2 h3 => exact .dct (.inl (by rw [hp]; exact h1)) h2 (atL_mono e _ _ h3)
  | dctT h1 h2 h3 => exact .dctT (by rw [hp]; exact h1) h2 (atL_mono e _ _ h3)
  | obj h1 h2 h3 => exact .obj (by rw [hp]; exact h1) h2 (atL_mono e _ _ h3)
/-- the frame of a run: the written part, the heap at its entry, the objects that it may change by their slots -/
structure Fr where
  K : PySem.W.Frag
  H0 : Hp
  F0 : Hp
  io : List (Nat × Addr)
/-- a slot's value -/
def SlAt (R : Fr) (F H : Hp) (i : Nat) (v : V) (s : Sl) : Prop := match s.m with
  | .fr => At R.K (FN R.H0 F s.n) v s.d
  | .ow => ∃ p, v = .ref p ∧ F p = none ∧ R.H0 p = none ∧ Top R.K (FN R.H0 F s.n) H p s.d
  | .io => ∃ p, v = .ref p ∧ F p = none ∧ (i, p) ∈ R.io ∧ Top R.K (FN R.H0 F s.n) H p s.d
/-- the objects that the slots own -/
def Own (g : G) (σ : L2.St) (b : Addr) : Prop := ∃ i s, g.get i = some s ∧ s.m ≠ .fr ∧ σ[i]? = some (some (.ref b))
structure Rel (R : Fr) (F : Hp) (g : G) (σ : L2.St) (H : Hp) : Prop where
  len : σ.length = g.length
  at_ : ∀ i s, g.get i = some s → ∃ v, σ[i]? = some (some v) ∧ SlAt R F H i v s
  dis : ∀ i j s t p, g.get i = some s → g.get j = some t → s.m ≠ .fr → t.m ≠ .fr → σ[i]? = some (some (.ref p)) → σ[j]? = some (some (.ref p)) → i = j
  ex : Same F H
  keep : ∀ b o, R.H0 b = some o → (∀ q ∈ R.io, q.2 ≠ b) → H b = some o
  there : ∀ b, (R.H0 b).isSome = true → (H b).isSome = true
  ios : ∀ q ∈ R.io, (R.H0 q.2).isSome = true
  iog : ∀ q ∈ R.io, ∃ s, g.get q.1 = some s ∧ s.m = .io ∧ σ[q.1]? = some (some (.ref q.2))
/-- what an evaluation may do besides -/
structure Step (g : G) (σ : L2.St) (F H : Hp) (g' : G) (F' H' : Hp) : Prop where
  exF : Same F F'
  fr : ∀ b o, H b = some o → ¬ Own g σ b → H' b = some o
  nF : ∀ b, F b = none → (H b).isSome = true → ¬ Own g σ b → F' b = none
  own : ∀ b, Own g' σ b → Own g σ b
  there : ∀ b, (H b).isSome = true → (H' b).isSome = true
theorem Step.refl (g : G) (σ : L2.St) (F H : Hp) : Step g σ F H g F H := ⟨Same.refl F, fun _ _ h _ => h, fun _ h _ _ => h, fun _ h => h, fun _ h => h⟩
theorem Step.trans {g g1 g2 : G} {σ : L2.St} {F H F1 H1 F2 H2 : Hp} (a : Step g σ F H g1 F1 H1) (b : Step g1 σ F1 H1 g2 F2 H2) : Step g σ F H g2 F2 H2 where
  exF := a.exF.trans b.exF
  fr := fun x o h n => b.fr x o (a.fr x o h n) fun z => n (a.own x z)
  nF := fun x h1 h2 n => b.nF x (a.nF x h1 h2 n) (a.there x h2) fun z => n (a.own x z)
  own := fun x z => a.own x (b.own x z)
  there := fun x z => b.there x (a.there x z)
/-- a result: H the heap ahead of the evaluation -/
def ResAt (R : Fr) (g' : G) (σ : L2.St) (H F' H' : Hp) (v : V) (s : Sl) : Prop := match s.m with
  | .fr => At R.K (FN R.H0 F' s.n) v s.d
  | .ow => ∃ p, v = .ref p ∧ H p = none ∧ F' p = none ∧ ¬ Own g' σ p ∧ Top R.K (FN R.H0 F' s.n) H' p s.d
  | .io => False
/-! ## weakest conditions of the evaluator's monad -/
def wp {α : Type} (m : M α) (C : α → Prop) (W : Str → Prop) : Prop := match m with
  | none => False
  | some (.ok a) => C a
  | some (.ex c) => W c
theorem wp_bnd {α β : Type} {m : M α} {f : α → M β} {C : β → Prop} {W : Str → Prop} (h : wp (M.bnd m f) C W) : wp m (fun a => wp (f a) C W) W := by
  cases m with
  | none => exact h
  | some o => cases o <;> exact h
theorem wp_mono {α : Type} {m : M α} {C C' : α → Prop} {W W' : Str → Prop} (h : wp m C W) (h1 : ∀ a, C a → C' a) (h2 : ∀ c, W c → W' c) : wp m C' W' := by
  cases m with
  | none => exact h
  | some o => cases o with
    | ok a => exact h1 _ h
    | ex c => exact h2 _ h
/-- what is wanted of an exception: W by its class and the heap -/
def ExW (R : Fr) (W : XK) (c : Str) : Prop := ∀ H', (∀ b o, R.H0 b = some o → (∀ q ∈ R.io, q.2 ≠ b) → H' b = some o) → W (.ref (He.ga R.K c)) none H'
/-- an expression's reading by the evaluator -/
def TE_ (R : Fr) (W : XK) (ev : G → M (Sl × G)) : TE := fun σ H Q => ∃ F g, Rel R F g σ H ∧
  wp (ev g) (fun (s, g') => ∀ v F' H', Rel R F' g' σ H' → Step g σ F H g' F' H' → ResAt R g' σ H F' H' v s → Q v H') (ExW R W)
end Y
set_option Elab.async false
set_option linter.all false
set_option maxRecDepth 100000
set_option maxHeartbeats 2000000
namespace Y
open PySem PySem.Spec L2
theorem wp_nox {α : Type} {m : M α} {C : α → Prop} {W : Str → Prop} (h : wp m.nox C W) : wp m C (fun _ => False) := by
  cases m with
  | none => exact h
  | some o => cases o with
    | ok a => exact h
    | ex c => exact h
/-- a reading that asks more -/
theorem PE.imp {X : Cx} {e : Expr} {t t' : TE} (h : PE X e t) (i : ∀ σ H Q, t' σ H Q → t σ H Q) : PE X e t' := ⟨fun pins s σ H Q I q => h.run pins s σ H Q I (i σ H Q q)⟩
theorem PT.imp {X : Cx} {e : Expr} {t t' : TT} (h : PT X e t) (i : ∀ σ H Q, t' σ H Q → t σ H Q) : PT X e t' := ⟨fun pins s σ H Q I q => h.run pins s σ H Q I (i σ H Q q)⟩
theorem PW.imp {X : Cx} {e : Expr} {t t' : TT} (h : PW X e t) (i : ∀ σ H Q, t' σ H Q → t σ H Q) : PW X e t' := ⟨fun wh pins s σ H Q I q => h.run wh pins s σ H Q I (i σ H Q q)⟩
theorem PA.imp {X : Cx} {es : List Expr} {t t' : TA} (h : PA X es t) (i : ∀ σ H Q, t' σ H Q → t σ H Q) : PA X es t' := ⟨fun pos pins s σ H Q I q => h.run pos pins s σ H Q I (i σ H Q q)⟩
theorem PS.imp {X : Cx} {st : Stmt} {t t' : TS} (h : PS X st t) (i : ∀ D σ H, t' D σ H → t D σ H) : PS X st t' := ⟨fun pins s σ H D I q => h.run pins s σ H D I (i D σ H q)⟩
theorem PSs.imp {X : Cx} {st : List Stmt} {t t' : TS} (h : PSs X st t) (i : ∀ D σ H, t' D σ H → t D σ H) : PSs X st t' := ⟨fun pins s σ H D I q => h.run pins s σ H D I (i D σ H q)⟩
theorem PI.imp {X : Cx} {tg it : Expr} {t t' : TI} (h : PI X tg it t) (i : ∀ σ H R, t' σ H R → t σ H R) : PI X tg it t' := ⟨fun pins s σ H R I q => h.run pins s σ H R I (i σ H R q)⟩
section
variable {R : Fr} {F F' H H' : Hp} {g g' : G} {σ : L2.St} {p : Addr} {o : HO} {d : D} {v : V} {n : Bool} {i : Nat}
theorem slAt_mono {s : Sl} (h : SlAt R F H i v s) (e : Same F F') (nf : s.m ≠ .fr → ∀ p, v = .ref p → F p = none → F' p = none) (hp : s.m ≠ .fr → ∀ p, v = .ref p → H' p = H p) : SlAt R F' H' i v s := by
  obtain ⟨d, m, n⟩ := s
  cases m with
  | fr => exact At.mono (FN_mono e) _ _ h
  | ow =>
    obtain ⟨p, rfl, h1, h2, h3⟩ := h
    exact ⟨p, rfl, nf (by simp) p rfl h1, h2, h3.mono (FN_mono e) (hp (by simp) p rfl)⟩
  | io =>
    obtain ⟨p, rfl, h1, h2, h3⟩ := h
    exact ⟨p, rfl, nf (by simp) p rfl h1, h2, h3.mono (FN_mono e) (hp (by simp) p rfl)⟩
theorem slAt_own {s : Sl} (h : SlAt R F H i v s) (hm : s.m ≠ .fr) : ∃ p, v = .ref p ∧ F p = none ∧ Top R.K (FN R.H0 F s.n) H p s.d := by
  obtain ⟨d, m, n⟩ := s
  cases m with
  | fr => exact absurd rfl hm
  | ow =>
    obtain ⟨p, rfl, h1, h2, h3⟩ := h
    exact ⟨p, rfl, h1, h3⟩
  | io =>
    obtain ⟨p, rfl, h1, h2, h3⟩ := h
    exact ⟨p, rfl, h1, h3⟩
theorem Rel.own_some (r : Rel R F g σ H) {b : Addr} (h : Own g σ b) : F b = none ∧ ∃ u, H b = some u := by
  obtain ⟨i, s, h1, h2, h3⟩ := h
  obtain ⟨v, h4, h5⟩ := r.at_ i s h1
  rw [h3] at h4
  cases h4
  obtain ⟨p, e, h6, h7⟩ := slAt_own h5 h2
  cases e
  exact ⟨h6, h7.is⟩
theorem Rel.fresh (r : Rel R F g σ H) (h : H p = none) : F p = none ∧ R.H0 p = none ∧ ¬ Own g σ p := by
  refine ⟨?_, ?_, fun z => ?_⟩
  · cases q : F p with
    | none => rfl
    | some u => rw [r.ex p u q] at h; cases h
  · cases q : R.H0 p with
    | none => rfl
    | some u =>
      have := r.there p (by rw [q]; rfl)
      rw [h] at this
      cases this
  · obtain ⟨_, u, hu⟩ := r.own_some z
    rw [h] at hu
    cases hu
/-- a new object is laid -/
theorem Rel.alloc (r : Rel R F g σ H) (h : H p = none) : Rel R F g σ (upd H p o) := by
  obtain ⟨f0, h0, no⟩ := r.fresh h
  have keepsH : ∀ b u, H b = some u → upd H p o b = some u := fun b u q => by
    rw [upd_ne (ne_of_none q h)]
    exact q
  refine ⟨r.len, fun i s hi => ?_, r.dis, fun b u q => keepsH b u (r.ex b u q), fun b u q n => keepsH b u (r.keep b u q n), fun b q => ?_, r.ios, r.iog⟩
  · obtain ⟨v, h1, h2⟩ := r.at_ i s hi
    refine ⟨v, h1, slAt_mono h2 (Same.refl F) (fun _ _ _ z => z) fun hm q e => ?_⟩
    subst e
    obtain ⟨_, u, hu⟩ := r.own_some (b := q) ⟨i, s, hi, hm, h1⟩
    exact upd_ne (ne_of_none hu h)
  · obtain ⟨u, hu⟩ := Option.isSome_iff_exists.mp (r.there b q)
    rw [keepsH b u hu]
    rfl
theorem same_upd {F : Hp} {p : Addr} {o : HO} (h : F p = none) : Same F (upd F p o) := fun b u q => by
  rw [upd_ne (ne_of_none q h)]
  exact q
/-- an object that no slot owns is frozen -/
theorem Rel.freeze (r : Rel R F g σ H) (hf : F p = none) (hp : H p = some o) (no : ¬ Own g σ p) : Rel R (upd F p o) g σ H := by
  refine ⟨r.len, fun i s hi => ?_, r.dis, fun b u q => ?_, r.keep, r.there, r.ios, r.iog⟩
  · obtain ⟨v, h1, h2⟩ := r.at_ i s hi
    refine ⟨v, h1, slAt_mono h2 (same_upd hf) (fun hm q e z => ?_) fun _ _ _ => rfl⟩
    subst e
    rw [upd_ne (fun e => no (by rw [← e]; exact ⟨i, s, hi, hm, h1⟩))]
    exact z
  · by_cases hb : b = p
    · subst hb
      rw [upd_same] at q
      cases q
      exact hp
    · rw [upd_ne hb] at q
      exact r.ex b u q
theorem Step.alloc (r : Rel R F g σ H) (h : H p = none) : Step g σ F H g F (upd H p o) :=
  ⟨Same.refl F, fun b u q _ => by rw [upd_ne (ne_of_none q h)]; exact q, fun _ q _ _ => q, fun _ z => z, fun b q => by
    obtain ⟨u, hu⟩ := Option.isSome_iff_exists.mp q
    rw [upd_ne (ne_of_none hu h), hu]
    rfl⟩
/-- .. a new one is frozen besides -/
theorem Step.freeze {g0 : G} {F0 H0 : Hp} (st : Step g0 σ F0 H0 g F H) (hp : H0 p = none) (hf : F p = none) : Step g0 σ F0 H0 g (upd F p o) H :=
  ⟨st.exF.trans (same_upd hf), st.fr, fun b h1 h2 h3 => by
    rw [upd_ne (fun e => by subst e; rw [hp] at h2; cases h2)]
    exact st.nF b h1 h2 h3, st.own, st.there⟩
theorem Step.gone {g0 : G} {F0 H0 : Hp} (st : Step g0 σ F0 H0 g F H) (h : H p = none) : H0 p = none := by
  cases q : H0 p with
  | none => rfl
  | some u =>
    have := st.there p (by rw [q]; rfl)
    rw [h] at this
    cases this
/-- a result as a frozen value -/
theorem ResAt.frz {g0 : G} {F0 H0 : Hp} {s : Sl} (r : Rel R F g σ H) (st : Step g0 σ F0 H0 g F H) (r0 : Rel R F0 g0 σ H0) (h : ResAt R g σ H0 F H v s) :
    ∃ F', Rel R F' g σ H ∧ Step g0 σ F0 H0 g F' H ∧ At R.K (FN R.H0 F' s.n) v s.d := by
  obtain ⟨d, m, n⟩ := s
  cases m with
  | fr => exact ⟨F, r, st, h⟩
  | io => exact h.elim
  | ow =>
    obtain ⟨p, rfl, h1, h2, h3, h4⟩ := h
    obtain ⟨u, hu⟩ := h4.is
    refine ⟨upd F p u, r.freeze h2 hu h3, st.freeze h1 h2, h4.at (FN_mono (same_upd h2)) ?_⟩
    rw [FN_new (r0.fresh h1).2.1, upd_same, hu]
abbrev Kont (R : Fr) (g : G) (σ : L2.St) (F H : Hp) (s : Sl) (g' : G) (Q : VK) : Prop := ∀ v F' H', Rel R F' g' σ H' → Step g σ F H g' F' H' → ResAt R g' σ H F' H' v s → Q v H'
theorem kont_fr {F2 H2 : Hp} {g2 : G} {Q : VK} (k : Kont R g σ F H ⟨d, .fr, n⟩ g2 Q) (r : Rel R F2 g2 σ H2) (st : Step g σ F H g2 F2 H2) (h : At R.K (FN R.H0 F2 n) v d) : Q v H2 := k v F2 H2 r st h
theorem kont_ow {F2 H2 : Hp} {g2 : G} {Q : VK} (k : Kont R g σ F H ⟨d, .ow, n⟩ g2 Q) (r : Rel R F2 g2 σ H2) (st : Step g σ F H g2 F2 H2) (hp : H2 p = none) (h : Top R.K (FN R.H0 F2 n) (upd H2 p o) p d) : Q (.ref p) (upd H2 p o) := by
  obtain ⟨f0, h0, no⟩ := r.fresh hp
  exact k _ F2 _ (r.alloc hp) (st.trans (.alloc r hp)) ⟨p, rfl, st.gone hp, f0, no, h⟩
theorem kont_tup {F2 H2 : Hp} {g2 : G} {Q : VK} {vs : List V} {ds : List D} (k : Kont R g σ F H ⟨.tup ds, .fr, n⟩ g2 Q) (r : Rel R F2 g2 σ H2) (st : Step g σ F H g2 F2 H2) (hp : H2 p = none) (h : Paired (At R.K (FN R.H0 F2 n)) vs ds) : Q (.ref p) (upd H2 p (.tup vs)) := by
  obtain ⟨f0, h0, no⟩ := r.fresh hp
  have e : Same (FN R.H0 F2 n) (FN R.H0 (upd F2 p (.tup vs)) n) := FN_mono (same_upd f0)
  refine k _ (upd F2 p (.tup vs)) _ ((r.alloc hp).freeze f0 upd_same no) ((st.trans (.alloc r hp)).freeze (st.gone hp) f0) (.tup ?_ (atL_mono e _ _ h))
  rw [FN_new h0, upd_same]
/-! ## what is seen of a value in the heap as it stands: its top there, what is within in the frozen heap -/
inductive View (K : PySem.W.Frag) (F H : Hp) : V → D → Prop
  | atom {v : V} {d : D} : At K F v d → d.atom = true → View K F H v d
  | scr {a : Addr} {ns : List Int} : SqL K H a (ns.map V.int) → At K F (.ref a) (.scr ns) → View K F H (.ref a) (.scr ns)
  | ktup {a : Addr} {xs : List Str} : SqT K (fun _ => none) a (xs.map V.str) → View K F H (.ref a) (.ktup xs)
  | tup {a : Addr} {vs : List V} {ds : List D} : H a = some (.tup vs) → Paired (At K F) vs ds → At K F (.ref a) (.tup ds) → View K F H (.ref a) (.tup ds)
  | dct {a : Addr} {kvs : List (Key × V)} {ks : List Key} {ds : List D} : Rd H a (.dK kvs) → kvs.map (·.1) = ks → Paired (At K F) (kvs.map (·.2)) ds → View K F H (.ref a) (.dct ks ds)
  | top {a : Addr} {d : D} : Top K F H a d → View K F H (.ref a) d
theorem At.view {K : PySem.W.Frag} (e : Same F H) : ∀ {d : D} {v : V}, At K F v d → View K F H v d := fun {d v} h => by
  cases h with
  | non => exact .atom .non rfl
  | bl b => exact .atom (.bl b) rfl
  | int b => exact .atom (.int b) rfl
  | str b => exact .atom (.str b) rfl
  | scr h1 => exact .scr (e.seq h1) (.scr h1)
  | ktup h1 => exact .ktup h1
  | lst h1 h2 => exact .top (.lst (e _ _ h1) h2)
  | tup h1 h2 => exact .tup (e _ _ h1) h2 (.tup h1 h2)
  | dct h1 h2 h3 => exact .dct (h1.elim (fun z => .inl (e _ _ z)) fun ⟨o, z⟩ => .inr ⟨o, e _ _ z⟩) h2 h3
  | dctT h1 h2 h3 => exact .top (.dctT (e _ _ h1) h2 h3)
  | obj h1 h2 h3 => exact .top (.obj (e _ _ h1) h2 h3)
theorem View.at {K : PySem.W.Frag} (e : Same F H) : ∀ {d : D} {v : V}, View K F H v d → At K H v d := fun {d v} h => by
  cases h with
  | atom h1 h2 => exact h1.atom h2
  | scr h1 _ => exact .scr h1
  | ktup h1 => exact .ktup h1
  | tup h1 h2 _ => exact .tup h1 (atL_mono e _ _ h2)
  | dct h1 h2 h3 => exact .dct h1 h2 (atL_mono e _ _ h3)
  | top h => exact h.at e rfl
/-- an operand -/
def OpAt (R : Fr) (F : Hp) (σ : L2.St) (v : V) : Op → Prop
  | .val s => At R.K (FN R.H0 F s.n) v s.d
  | .slot i => σ[i]? = some (some v)
theorem OpAt.mono {o : Op} (h : OpAt R F σ v o) (e : Same F F') : OpAt R F' σ v o := by
  cases o with
  | val s => exact At.mono (FN_mono e) _ _ h
  | slot i => exact h
theorem OpAt.view {o : Op} {s : Sl} (h : OpAt R F σ v o) (r : Rel R F g σ H) (e : o.get g = some s) : View R.K (FN R.H0 F s.n) H v s.d := by
  have eF : Same (FN R.H0 F s.n) H := FN_le.trans r.ex
  cases o with
  | val t =>
    cases e
    exact At.view eF h
  | slot i =>
    have e' : (g.get i).map (fun s => (⟨s.d, s.m, s.n || s.d.atom⟩ : Sl)) = some s := e
    cases q : g.get i with
    | none => rw [q] at e'; cases e'
    | some t =>
      rw [q] at e'
      cases e'
      obtain ⟨v', h1, h2⟩ := r.at_ i t q
      have h' : σ[i]? = some (some v) := h
      rw [h'] at h1
      cases h1
      obtain ⟨d, m, n⟩ := t
      show View R.K (FN R.H0 F (n || d.atom)) H v d
      cases ha : d.atom with
      | true =>
        cases m with
        | fr => exact .atom (At.atom h2 ha) ha
        | ow =>
          obtain ⟨p, rfl, _, _, h3⟩ := h2
          cases h3 <;> cases ha
        | io =>
          obtain ⟨p, rfl, _, _, h3⟩ := h2
          cases h3 <;> cases ha
      | false =>
        rw [Bool.or_false]
        cases m with
        | fr => exact At.view (FN_le.trans r.ex) h2
        | ow =>
          obtain ⟨p, rfl, _, _, h3⟩ := h2
          exact .top h3
        | io =>
          obtain ⟨p, rfl, _, _, h3⟩ := h2
          exact .top h3
end
/-! ## readings of operands, frozen values -/
def TO_ (R : Fr) (W : XK) (ev : G → M (Op × G)) : TE := fun σ H Q => ∃ F g, Rel R F g σ H ∧
  wp (ev g) (fun (o, g') => ∀ v F' H', Rel R F' g' σ H' → Step g σ F H g' F' H' → OpAt R F' σ v o → Q v H') (ExW R W)
def TF_ (R : Fr) (W : XK) (ev : G → M (Sl × G)) : TE := fun σ H Q => ∃ F g, Rel R F g σ H ∧
  wp (ev g) (fun (s, g') => ∀ v F' H', Rel R F' g' σ H' → Step g σ F H g' F' H' → At R.K (FN R.H0 F' s.n) v s.d → Q v H') (ExW R W)
section
variable {X : Cx} {R : Fr} {W : XK} {e : Expr} {ev : G → M (Sl × G)}
theorem pe_frz (h : PE X e (TE_ R W ev)) : PE X e (TF_ R W ev) := PE.imp h fun σ H Q ⟨F, g, r, q⟩ => by
  refine ⟨F, g, r, wp_mono q (fun (s, g1) k v F' H' r' st res => ?_) fun _ z => z⟩
  obtain ⟨F2, r2, st2, h2⟩ := res.frz r' st r
  exact k v F2 H' r2 st2 h2
theorem pe_opd {c : C} (hc : ∀ i, c ≠ .var i) (h : PE X e (TE_ R W ev)) : PE X e (TO_ R W (opd c ev)) := by
  have h1 : opd c ev = fun g => M.bnd (ev g) fun (s, g1) => some (.ok (.val s.frz, g1)) := by
    funext g
    cases c <;> first | rfl | exact absurd rfl (hc _)
  rw [h1]
  refine PE.imp (pe_frz h) fun σ H Q ⟨F, g, r, q⟩ => ⟨F, g, r, wp_mono (wp_bnd q) (fun (s, g1) k v F' H' r' st h2 => ?_) fun _ z => z⟩
  exact k v F' H' r' st h2
theorem pe_slot {x : Str} {pos : Pos} {i : Nat} (h : PE X (.Name x pos) (tVar i)) : PE X (.Name x pos) (TO_ R W (opd (.var i) ev)) := PE.imp h fun σ H Q ⟨F, g, r, q⟩ => by
  have q' : wp (match g.get i with | some _ => some (.ok (Op.slot i, g)) | none => none) (fun (o, g') => ∀ v F' H', Rel R F' g' σ H' → Step g σ F H g' F' H' → OpAt R F' σ v o → Q v H') (ExW R W) := q
  cases e : g.get i with
  | none => rw [e] at q'; exact q'.elim
  | some s =>
    rw [e] at q'
    obtain ⟨v, h1, _⟩ := r.at_ i s e
    exact ⟨v, h1, q' v F H r (Step.refl g σ F H) h1⟩
end
end Y
set_option Elab.async false
set_option linter.all false
set_option maxRecDepth 100000
set_option maxHeartbeats 2000000
namespace Y
open PySem PySem.Spec L2
/-! ## operations -/
def Res1 (R : Fr) (r : V → Hp → VK → Prop) (f : Sl → Option Sl) : Prop := ∀ (x : V) (sx s : Sl) (F H : Hp) (g : G) (σ : L2.St) (g0 : G) (F0 H0 : Hp) (Q : VK), Rel R F g σ H → Step g0 σ F0 H0 g F H →
  View R.K (FN R.H0 F sx.n) H x sx.d → f sx = some s → Kont R g0 σ F0 H0 s g Q → r x H Q
def Res2 (R : Fr) (r : R2) (f : Sl → Sl → Option Sl) : Prop := ∀ (x y : V) (sx sy s : Sl) (F H : Hp) (g : G) (σ : L2.St) (g0 : G) (F0 H0 : Hp) (Q : VK), Rel R F g σ H → Step g0 σ F0 H0 g F H →
  View R.K (FN R.H0 F sx.n) H x sx.d → View R.K (FN R.H0 F sy.n) H y sy.d → f sx sy = some s → Kont R g0 σ F0 H0 s g Q → r x y H Q
section
variable {R : Fr} {W : XK} {σ : L2.St} {H : Hp} {Q : VK} {ca cb : C} {eva evb : G → M (Sl × G)}
theorem imp_op1 {r : V → Hp → VK → Prop} {f : Sl → Option Sl} (h : Res1 R r f) (q : TE_ R W (op1 ca eva f) σ H Q) : tUn r (TO_ R W (opd ca eva)) σ H Q := by
  obtain ⟨F, g, rl, q⟩ := q
  refine ⟨F, g, rl, wp_mono (wp_bnd q) (fun (oa, g1) q1 v F1 H1 r1 st1 o1 => ?_) fun _ z => z⟩
  cases e : oa.get g1 with
  | none => simp only [e] at q1; exact q1.elim
  | some x =>
    simp only [e] at q1
    cases e2 : f x with
    | none => simp only [e2] at q1; exact q1.elim
    | some s =>
      simp only [e2] at q1
      exact h v x s F1 H1 g1 σ g F H Q r1 st1 (o1.view r1 e) e2 q1
theorem imp_op2 {r : R2} {f : Sl → Sl → Option Sl} (h : Res2 R r f) (q : TE_ R W (op2 ca cb eva evb f) σ H Q) : tOp r (TO_ R W (opd ca eva)) (TO_ R W (opd cb evb)) σ H Q := by
  obtain ⟨F, g, rl, q⟩ := q
  refine ⟨F, g, rl, wp_mono (wp_bnd q) (fun (oa, g1) q1 v F1 H1 r1 st1 o1 => ⟨F1, g1, r1, wp_mono (wp_bnd q1) (fun (ob, g2) q2 w F2 H2 r2 st2 o2 => ?_) fun _ z => z⟩) fun _ z => z⟩
  cases e : oa.get g2 with
  | none => simp only [e] at q2; exact q2.elim
  | some x =>
    cases e1 : ob.get g2 with
    | none => simp only [e, e1] at q2; exact q2.elim
    | some y =>
      simp only [e, e1] at q2
      cases e2 : f x y with
      | none => simp only [e2] at q2; exact q2.elim
      | some s =>
        simp only [e2] at q2
        exact h v w x y s F2 H2 g2 σ g F H Q r2 (st1.trans st2) ((o1.mono st2.exF).view r2 e) (o2.view r2 e1) e2 q2
end
/-! ### what a view tells -/
section
variable {K : PySem.W.Frag} {F H : Hp} {v : V}
theorem View.as_int {i : Int} (h : View K F H v (.int i)) : v = .int i := by
  cases h with
  | atom h _ => cases h; rfl
  | top h => cases h
theorem View.as_bl {i : Bool} (h : View K F H v (.bl i)) : v = .bl i := by
  cases h with
  | atom h _ => cases h; rfl
  | top h => cases h
theorem View.as_str {i : Str} (h : View K F H v (.str i)) : v = .str i := by
  cases h with
  | atom h _ => cases h; rfl
  | top h => cases h
theorem View.as_non (h : View K F H v .non) : v = .non := by
  cases h with
  | atom h _ => cases h; rfl
  | top h => cases h
theorem View.as_lst {ds : List D} (h : View K F H v (.lst ds)) : ∃ a vs, v = .ref a ∧ H a = some (.lst vs) ∧ Paired (At K F) vs ds := by
  cases h with
  | atom h e => cases e
  | top h =>
    cases h with
    | lst h1 h2 => exact ⟨_, _, rfl, h1, h2⟩
theorem View.as_tup {ds : List D} (h : View K F H v (.tup ds)) : ∃ a vs, v = .ref a ∧ H a = some (.tup vs) ∧ Paired (At K F) vs ds ∧ At K F v (.tup ds) := by
  cases h with
  | atom h e => cases e
  | tup h1 h2 h3 => exact ⟨_, _, rfl, h1, h2, h3⟩
  | top h => cases h
theorem View.as_ktup {xs : List Str} (h : View K F H v (.ktup xs)) : ∃ a, v = .ref a ∧ SqT K H a (xs.map V.str) := by
  cases h with
  | atom h e => cases e
  | ktup h => exact ⟨_, rfl, ex_seqT (fun b o z => by cases z) h⟩
  | top h => cases h
theorem View.as_scr {ns : List Int} (h : View K F H v (.scr ns)) : ∃ a, v = .ref a ∧ SqL K H a (ns.map V.int) := by
  cases h with
  | atom h e => cases e
  | scr h _ => exact ⟨_, rfl, h⟩
  | top h => cases h
theorem View.as_dct {ks : List Key} {ds : List D} (h : View K F H v (.dct ks ds)) : ∃ a kvs, v = .ref a ∧ Rd H a (.dK kvs) ∧ kvs.map (·.1) = ks ∧ Paired (At K F) (kvs.map (·.2)) ds := by
  cases h with
  | atom h e => cases e
  | top h =>
    cases h with
    | dct h1 h2 h3 => exact ⟨_, _, rfl, .inl h1, h2, h3⟩
  | dct h1 h2 h3 => exact ⟨_, _, rfl, h1, h2, h3⟩
theorem View.as_dctT {ks : List (List Key)} {ds : List D} (h : View K F H v (.dctT ks ds)) : ∃ a kvs, v = .ref a ∧ H a = some (.dT kvs) ∧ kvs.map (·.1) = ks ∧ Paired (At K F) (kvs.map (·.2)) ds := by
  cases h with
  | atom h e => cases e
  | top h =>
    cases h with
    | dctT h1 h2 h3 => exact ⟨_, _, rfl, h1, h2, h3⟩
theorem View.as_obj {c : Str} {fs : List Str} {ds : List D} (h : View K F H v (.obj c fs ds)) : ∃ a dx kvs, v = .ref a ∧ H a = some (.ins (He.ga K c) dx kvs) ∧ kvs.map (·.1) = fs ∧ Paired (At K F) (kvs.map (·.2)) ds := by
  cases h with
  | atom h e => cases e
  | top h =>
    cases h with
    | obj h1 h2 h3 => exact ⟨_, _, _, rfl, h1, h2, h3⟩
end
end Y
namespace PySem
open L2 Y
/-! ### lists of pairs -/
theorem Paired.yapp {α β : Type} {F : α → β → Prop} : ∀ {xs : List α} {ys : List β} {xs' : List α} {ys' : List β}, Paired F xs ys → Paired F xs' ys' → Paired F (xs ++ xs') (ys ++ ys')
  | _, _, _, _, .nil, s => s
  | _, _, _, _, .cons r t, s => .cons r (Paired.yapp t s)
theorem Paired.yat {α β : Type} {F : α → β → Prop} : ∀ {xs : List α} {ys : List β} {i : Nat} {y : β}, Paired F xs ys → ys[i]? = some y → ∃ x, xs[i]? = some x ∧ F x y
  | _, _, i, _, .nil, e => by simp at e
  | _, _, 0, _, .cons r _, e => by simp at e; subst e; exact ⟨_, rfl, r⟩
  | _, _, i + 1, _, .cons _ t, e => by
    obtain ⟨x, h1, h2⟩ := Paired.yat (i := i) t (by simpa using e)
    exact ⟨x, by simpa using h1, h2⟩
theorem Paired.yatL {α β : Type} {F : α → β → Prop} : ∀ {xs : List α} {ys : List β} {i : Nat} {x : α}, Paired F xs ys → xs[i]? = some x → ∃ y, ys[i]? = some y ∧ F x y
  | _, _, i, _, .nil, e => by simp at e
  | _, _, 0, _, .cons r _, e => by simp at e; subst e; exact ⟨_, rfl, r⟩
  | _, _, i + 1, _, .cons _ t, e => by
    obtain ⟨x, h1, h2⟩ := Paired.yatL (i := i) t (by simpa using e)
    exact ⟨x, by simpa using h1, h2⟩
theorem Paired.yatI {α β : Type} {F : α → β → Prop} {xs : List α} {ys : List β} {i : Int} {y : β} (h : Paired F xs ys) (e : atI ys i = some y) : ∃ x, atI xs i = some x ∧ F x y := by
  unfold L2.atI at e ⊢
  rw [h.length]
  cases q : ixN ys.length i with
  | none => rw [q] at e; cases e
  | some j =>
    rw [q] at e
    exact h.yat (show ys[j]? = some y from e)
theorem Paired.ydrop {α β : Type} {F : α → β → Prop} : ∀ {xs : List α} {ys : List β} (n : Nat), Paired F xs ys → Paired F (xs.drop n) (ys.drop n)
  | _, _, 0, r => r
  | _, _, _ + 1, .nil => .nil
  | _, _, n + 1, .cons _ t => Paired.ydrop n t
theorem Paired.ytake {α β : Type} {F : α → β → Prop} : ∀ {xs : List α} {ys : List β} (n : Nat), Paired F xs ys → Paired F (xs.take n) (ys.take n)
  | _, _, 0, _ => .nil
  | _, _, _ + 1, .nil => .nil
  | _, _, n + 1, .cons r t => .cons r (Paired.ytake n t)
theorem Paired.ycut {α β : Type} {F : α → β → Prop} {xs : List α} {ys : List β} (lo hi : Option Int) (h : Paired F xs ys) : Paired F (cutD xs lo hi) (cutD ys lo hi) := by
  unfold cutD
  rw [h.length]
  exact (h.ydrop _).ytake _
theorem Paired.yrev {α β : Type} {F : α → β → Prop} {xs : List α} {ys : List β} (h : Paired F xs ys) : Paired F xs.reverse ys.reverse := by
  induction h with
  | nil => exact .nil
  | cons r t ih =>
    rw [List.reverse_cons, List.reverse_cons]
    exact ih.yapp (.cons r .nil)
theorem Paired.yrep {α β : Type} {F : α → β → Prop} {xs : List α} {ys : List β} (h : Paired F xs ys) : ∀ k : Nat, Paired F (List.replicate k xs).flatten (List.replicate k ys).flatten
  | 0 => .nil
  | k + 1 => by
    rw [List.replicate_succ, List.replicate_succ, List.flatten_cons, List.flatten_cons]
    exact h.yapp (Paired.yrep h k)
theorem Paired.ysnoc {α β : Type} {F : α → β → Prop} {xs : List α} {ys : List β} {x : α} {y : β} (h : Paired F xs ys) (r : F x y) : Paired F (xs ++ [x]) (ys ++ [y]) := h.yapp (.cons r .nil)
theorem Paired.yset {α β : Type} {F : α → β → Prop} {x : α} {y : β} (r : F x y) : ∀ {xs : List α} {ys : List β} (i : Nat), Paired F xs ys → Paired F (xs.set i x) (ys.set i y)
  | _, _, _, .nil => .nil
  | _, _, 0, .cons _ t => .cons r t
  | _, _, i + 1, .cons q t => .cons q (Paired.yset r i t)
theorem Paired.yimp {α β : Type} {F F' : α → β → Prop} : ∀ {xs : List α} {ys : List β}, Paired F xs ys → (∀ x y, F x y → F' x y) → Paired F' xs ys
  | _, _, .nil, _ => .nil
  | _, _, .cons r t, i => .cons (i _ _ r) (Paired.yimp t i)
end PySem
namespace Y
open PySem PySem.Spec L2
/-! ### arithmetic, +, * -/
theorem lim_size {n : Nat} (h : n ≤ lim) : n ≤ sizeLine := Nat.le_trans h (by decide)
theorem lim_lt {n : Nat} (h : n < lim) : n < sizeLine := Nat.lt_of_lt_of_le h (by decide)
section
variable {R : Fr}
theorem atm_k {g0 g : G} {σ : L2.St} {F0 H0 F H : Hp} {Q : VK} {d : D} {v : V} (k : Kont R g0 σ F0 H0 (atm d) g Q) (r : Rel R F g σ H) (st : Step g0 σ F0 H0 g F H) (h : At R.K (FN R.H0 F true) v d) : Q v H := kont_fr k r st h
abbrev rBin : BOp → PySem.W.Frag → R2
  | .add, K => fun x y H Q => rI0 (fun i j => .int (i + j)) x y H Q ∨ (fun (x y : V) (H : Hp) (Q : VK) => ∃ i j, x = .str i ∧ y = .str j ∧ i.length + j.length ≤ sizeLine ∧ Q (.str (i ++ j)) H) x y H Q ∨ rCat x y H Q ∨ rCatA K x y H Q
  | .sub, _ => rI0 fun i j => .int (i - j)
  | .mul, K => fun x y H Q => rI CMul (fun i j => .int (i * j)) x y H Q ∨ rRep x y H Q ∨ rRepT K x y H Q
  | .mod, _ => rI (fun _ j => j ≠ 0) fun i j => .int (i.fmod j)
  | .fdiv, _ => rI CDivN fun i j => .int (i.fdiv j)
  | .pow, _ => rI CPow fun i j => .int (i ^ j.toNat)
end
end Y
set_option Elab.async false
set_option linter.all false
set_option maxRecDepth 100000
set_option maxHeartbeats 2000000
namespace Y
open PySem PySem.Spec L2
/-! ### plain data for == and in -/
section
variable {K : PySem.W.Frag} {H : Hp}
mutual
theorem At.dp : ∀ (d : D) (v : V) (p : PyData), At K H v d → d.py = some p → Dp K H v p
  | .non, _, _, h, e => by cases h; cases e; exact .non
  | .bl b, _, _, h, e => by cases h; cases e; exact .bl b
  | .int b, _, _, h, e => by cases h; cases e; exact .int b
  | .str b, _, _, h, e => by cases h; cases e; exact .str b
  | .lst xs, _, p, h, e => by
    cases h with
    | lst h1 h2 =>
      unfold D.py at e
      cases q : pyL xs with
      | none => rw [q] at e; cases e
      | some ps => rw [q] at e; cases e; exact .lst (SqL.of h1) (atL_dp xs _ ps h2 q)
  | .tup xs, _, p, h, e => by
    cases h with
    | tup h1 h2 =>
      unfold D.py at e
      cases q : pyL xs with
      | none => rw [q] at e; cases e
      | some ps => rw [q] at e; cases e; exact .tup (SqT.of h1) (atL_dp xs _ ps h2 q)
  | .scr _, _, _, _, e => by cases e
  | .ktup _, _, _, _, e => by cases e
  | .dct _ _, _, _, _, e => by cases e
  | .dctT _ _, _, _, _, e => by cases e
  | .obj _ _ _, _, _, _, e => by cases e
theorem atL_dp : ∀ (ds : List D) (vs : List V) (ps : List PyData), Paired (At K H) vs ds → pyL ds = some ps → DpAll K H vs ps
  | [], _, _, h, e => by cases h; cases e; exact .nil
  | d :: ds, _, ps, h, e => by
    cases h with
    | cons h1 h2 =>
      unfold pyL at e
      cases q : d.py with
      | none => rw [q] at e; cases e
      | some a =>
        cases q2 : pyL ds with
        | none => rw [q, q2] at e; cases e
        | some b =>
          rw [q, q2] at e
          cases e
          exact .cons (At.dp d _ a h1 q) (atL_dp ds _ b h2 q2)
end
end
section
variable {R : Fr}
theorem FN_ex {F H : Hp} {g : G} {σ : L2.St} {n : Bool} (r : Rel R F g σ H) : Same (FN R.H0 F n) H := FN_le.trans r.ex
/-- both kinds of newness -/
theorem atL_and {F : Hp} {n m : Bool} {vs : List V} {ds : List D} (h : Paired (At R.K (FN R.H0 F n)) vs ds) : Paired (At R.K (FN R.H0 F (n && m))) vs ds :=
  atL_mono (FN_imp fun q => (Bool.and_eq_true_iff.mp q).1) _ _ h
theorem atL_and' {F : Hp} {n m : Bool} {vs : List V} {ds : List D} (h : Paired (At R.K (FN R.H0 F m)) vs ds) : Paired (At R.K (FN R.H0 F (n && m))) vs ds :=
  atL_mono (FN_imp fun q => (Bool.and_eq_true_iff.mp q).2) _ _ h
theorem intOf {F H : Hp} {g : G} {σ : L2.St} {d e : D} {n m : Bool} : True := trivial
theorem res_add : Res2 R (rBin .add R.K) (resBin .add) := by
  intro x y ⟨dx, mx, nx⟩ ⟨dy, my, ny⟩ s F H g σ g0 F0 H0 Q r st vx vy e k
  have e' : (D.add dx dy).map (fun d => bySh d (nx && ny)) = some s := e
  cases dx with
  | int i =>
    cases dy with
    | int j =>
      cases e'
      obtain rfl := vx.as_int
      obtain rfl := vy.as_int
      exact .inl ⟨_, _, rfl, rfl, atm_k k r st (.int _)⟩
    | _ => cases e'
  | str a =>
    cases dy with
    | str b =>
      obtain rfl := vx.as_str
      obtain rfl := vy.as_str
      unfold D.add at e'
      dsimp only at e'
      split at e'
      · rename_i hl
        cases e'
        exact .inr (.inl ⟨_, _, rfl, rfl, lim_size hl, atm_k k r st (.str _)⟩)
      · cases e'
    | _ => cases e'
  | lst a =>
    cases dy with
    | lst b =>
      unfold D.add at e'
      dsimp only at e'
      split at e'
      · rename_i hl
        cases e'
        obtain ⟨p, vs, rfl, hp, pa⟩ := vx.as_lst
        obtain ⟨q, us, rfl, hq, pb⟩ := vy.as_lst
        refine .inr (.inr (.inl ⟨p, q, vs, us, rfl, rfl, hp, hq, by rw [pa.length, pb.length]; exact lim_size hl, fun z hz => ?_⟩))
        exact kont_ow k r st hz (.lst upd_same ((atL_and pa).yapp (atL_and' pb)))
      · cases e'
    | _ => cases e'
  | tup a =>
    cases dy with
    | tup b =>
      unfold D.add at e'
      dsimp only at e'
      split at e'
      · rename_i hl
        cases e'
        obtain ⟨p, vs, rfl, hp, pa, aa⟩ := vx.as_tup
        obtain ⟨q, us, rfl, hq, pb, ab⟩ := vy.as_tup
        refine .inr (.inr (.inr ⟨p, q, vs, us, rfl, rfl, SqT.of hp, SqT.of hq, by rw [pa.length, pb.length]; exact lim_size hl, fun z => ?_, fun _ z => ?_, fun _ _ z hz => ?_⟩))
        · subst z
          cases pa
          exact kont_fr k r st (At.mono (FN_imp fun w => (Bool.and_eq_true_iff.mp w).2) _ _ ab)
        · subst z
          cases pb
          rw [List.append_nil] at k
          exact kont_fr k r st (At.mono (FN_imp fun w => (Bool.and_eq_true_iff.mp w).1) _ _ aa)
        · exact kont_tup k r st hz ((atL_and pa).yapp (atL_and' pb))
      · cases e'
    | _ => cases e'
  | _ => cases e'
theorem res_sub : Res2 R (rBin .sub R.K) (resBin .sub) := by
  intro x y ⟨dx, mx, nx⟩ ⟨dy, my, ny⟩ s F H g σ g0 F0 H0 Q r st vx vy e k
  have e' : (D.bin .sub dx dy).map (fun d => bySh d (nx && ny)) = some s := e
  cases dx with
  | int i =>
    cases dy with
    | int j =>
      cases e'
      obtain rfl := vx.as_int
      obtain rfl := vy.as_int
      exact ⟨_, _, rfl, rfl, atm_k k r st (.int _)⟩
    | _ => cases e'
  | _ => cases e'
theorem res_mod : Res2 R (rBin .mod R.K) (resBin .mod) := by
  intro x y ⟨dx, mx, nx⟩ ⟨dy, my, ny⟩ s F H g σ g0 F0 H0 Q r st vx vy e k
  have e' : (D.bin .mod dx dy).map (fun d => bySh d (nx && ny)) = some s := e
  cases dx with
  | int i =>
    cases dy with
    | int j =>
      obtain rfl := vx.as_int
      obtain rfl := vy.as_int
      unfold D.bin at e'
      dsimp only at e'
      split at e'
      · cases e'
        exact ⟨_, _, rfl, rfl, by assumption, atm_k k r st (.int _)⟩
      · cases e'
    | _ => cases e'
  | _ => cases e'
theorem res_fdiv : Res2 R (rBin .fdiv R.K) (resBin .fdiv) := by
  intro x y ⟨dx, mx, nx⟩ ⟨dy, my, ny⟩ s F H g σ g0 F0 H0 Q r st vx vy e k
  have e' : (D.bin .fdiv dx dy).map (fun d => bySh d (nx && ny)) = some s := e
  cases dx with
  | int i =>
    cases dy with
    | int j =>
      obtain rfl := vx.as_int
      obtain rfl := vy.as_int
      unfold D.bin at e'
      dsimp only at e'
      split at e'
      · cases e'
        exact ⟨_, _, rfl, rfl, by assumption, atm_k k r st (.int _)⟩
      · cases e'
    | _ => cases e'
  | _ => cases e'
theorem res_pow : Res2 R (rBin .pow R.K) (resBin .pow) := by
  intro x y ⟨dx, mx, nx⟩ ⟨dy, my, ny⟩ s F H g σ g0 F0 H0 Q r st vx vy e k
  have e' : (D.bin .pow dx dy).map (fun d => bySh d (nx && ny)) = some s := e
  cases dx with
  | int i =>
    cases dy with
    | int j =>
      obtain rfl := vx.as_int
      obtain rfl := vy.as_int
      unfold D.bin at e'
      dsimp only at e'
      split at e'
      · cases e'
        exact ⟨_, _, rfl, rfl, by assumption, atm_k k r st (.int _)⟩
      · cases e'
    | _ => cases e'
  | _ => cases e'
theorem res_mul : Res2 R (rBin .mul R.K) (resBin .mul) := by
  intro x y ⟨dx, mx, nx⟩ ⟨dy, my, ny⟩ s F H g σ g0 F0 H0 Q r st vx vy e k
  have e' : (D.mul dx dy).map (fun d => bySh d (nx && ny)) = some s := e
  cases dx with
  | int i =>
    cases dy with
    | int j =>
      obtain rfl := vx.as_int
      obtain rfl := vy.as_int
      unfold D.mul at e'
      dsimp only at e'
      split at e'
      · rename_i hc
        cases e'
        exact .inl ⟨_, _, rfl, rfl, hc, atm_k k r st (.int _)⟩
      · cases e'
    | _ => cases e'
  | lst a =>
    cases dy with
    | int j =>
      obtain ⟨p, vs, rfl, hp, pa⟩ := vx.as_lst
      obtain rfl := vy.as_int
      unfold D.mul at e'
      dsimp only at e'
      split at e'
      · rename_i hc
        cases e'
        refine .inr (.inl ⟨p, j, vs, rfl, rfl, hp, hc.1, hc.2.1, by rw [pa.length]; exact lim_size hc.2.2, fun z hz => ?_⟩)
        exact kont_ow k r st hz (.lst upd_same ((atL_and pa).yrep _))
      · cases e'
    | _ => cases e'
  | tup a =>
    cases dy with
    | int j =>
      obtain ⟨p, vs, rfl, hp, pa, _⟩ := vx.as_tup
      obtain rfl := vy.as_int
      unfold D.mul at e'
      dsimp only at e'
      split at e'
      · rename_i hc
        cases e'
        refine .inr (.inr ⟨p, j, vs, rfl, rfl, SqT.of hp, fun z => ?_, hc.2.1, hc.2.2.1, by rw [pa.length]; exact hc.2.2.2, fun z hz => ?_⟩)
        · subst z
          cases pa
          exact absurd hc.1 (by decide)
        · exact kont_tup k r st hz ((atL_and pa).yrep _)
      · cases e'
    | _ => cases e'
  | _ => cases e'
theorem res_bin (op : BOp) : Res2 R (rBin op R.K) (resBin op) := by
  cases op
  · exact res_add
  · exact res_sub
  · exact res_mul
  · exact res_mod
  · exact res_fdiv
  · exact res_pow
end
def BOp.py : BOp → Operator
  | .add => .Add | .sub => .Sub | .mul => .Mult | .mod => .Mod | .fdiv => .FloorDiv | .pow => .Pow
theorem op_bin {X : Cx} (op : BOp) : OpR X (binaryOp op.py) (rBin op X.K) := by
  cases op
  · exact OpR.or op_add (OpR.or op_add_str (OpR.or op_cat op_catA))
  · exact op_sub
  · exact OpR.or op_mul (OpR.or op_rep op_repT)
  · exact op_modN
  · exact op_fdivN
  · exact op_pow
/-! ### comparisons -/
def rInTD (K : PySem.W.Frag) : R2 := fun x y H Q => ∃ d ds, Dp K H x d ∧ Dp K H y (.tuple ds) ∧ SeqAt.shaped d = true ∧ SeqAt.shaped (.tuple ds) = true ∧ Q (.bl (ds.any fun z => PyData.eqv z d)) H
def rNotInTD (K : PySem.W.Frag) : R2 := fun x y H Q => ∃ d ds, Dp K H x d ∧ Dp K H y (.tuple ds) ∧ SeqAt.shaped d = true ∧ SeqAt.shaped (.tuple ds) = true ∧ Q (.bl (!ds.any fun z => PyData.eqv z d)) H
theorem room_inT {A : Around} {d : PyData} {ds : List PyData} (sd : SeqAt.shaped d = true) (hu : A.units + 65 < cLine) : A.units + 1 + min (PyData.depthAll ds) d.depth < cLine := by
  have := SeqAt.depth_of_shaped sd
  have := Nat.min_le_right (PyData.depthAll ds) d.depth
  omega
section
variable {X : Cx}
theorem op_inTD (hu : X.A.units + 65 < cLine) : OpR X (compareOp .In) (rInTD X.K) := by
  intro pins s σ H x y v u Q I rx ry h
  obtain ⟨d, ds, hd, he, sd, se, q⟩ := h
  obtain ⟨as, r1⟩ := Dp.reads I d x v hd rx
  obtain ⟨bs, r2⟩ := Dp.reads I (.tuple ds) y u he ry
  exact SeqAt.in_tuple_reads r2 r1 (SeqAt.canLay_of_shaped se) (SeqAt.canLay_of_shaped sd) (room_inT sd hu) ⟨.bl _, H, I, rfl, q⟩
theorem op_notInTD (hu : X.A.units + 65 < cLine) : OpR X (compareOp .NotIn) (rNotInTD X.K) := by
  intro pins s σ H x y v u Q I rx ry h
  obtain ⟨d, ds, hd, he, sd, se, q⟩ := h
  obtain ⟨as, r1⟩ := Dp.reads I d x v hd rx
  obtain ⟨bs, r2⟩ := Dp.reads I (.tuple ds) y u he ry
  exact SeqAt.notIn_tuple_reads r2 r1 (SeqAt.canLay_of_shaped se) (SeqAt.canLay_of_shaped sd) (room_inT sd hu) ⟨.bl _, H, I, rfl, q⟩
def rInS : R2 := fun x y H Q => ∃ (c : Nat) (z : Str), x = .str ⟨#[c]⟩ ∧ y = .str z ∧ Q (.bl (decide (c ∈ z.cps.toList))) H
def rNotInS : R2 := fun x y H Q => ∃ (c : Nat) (z : Str), x = .str ⟨#[c]⟩ ∧ y = .str z ∧ Q (.bl (!decide (c ∈ z.cps.toList))) H
def rInDc : R2 := fun x y H Q => ∃ (a : Addr) (o : Option V), y = .ref a ∧ DGet H a x o ∧ Q (.bl o.isSome) H
def rNotInDc : R2 := fun x y H Q => ∃ (a : Addr) (o : Option V), y = .ref a ∧ DGet H a x o ∧ Q (.bl (!o.isSome)) H
theorem op_inDc (hu : X.A.units + 1 < cLine) : OpR X (compareOp .In) rInDc := by
  intro pins s σ H x y v u Q I rx ry h
  obtain ⟨a, o, rfl, g, q⟩ := h
  cases ry
  exact d_in hu I g rx fun s' I' => ⟨.bl _, H, I', rfl, q⟩
theorem op_notInDc (hu : X.A.units + 1 < cLine) : OpR X (compareOp .NotIn) rNotInDc := by
  intro pins s σ H x y v u Q I rx ry h
  obtain ⟨a, o, rfl, g, q⟩ := h
  cases ry
  exact d_notIn hu I g rx fun s' I' => ⟨.bl _, H, I', rfl, q⟩
end
abbrev rCmp : KOp → PySem.W.Frag → R2
  | .eq, K => fun x y H Q => rEq x y H Q ∨ rEqD K x y H Q
  | .ne, K => fun x y H Q => rNe x y H Q ∨ rNeD K x y H Q
  | .lt, _ => rI0 fun i j => .bl (decide (i < j))
  | .le, _ => rI0 fun i j => .bl (decide (i ≤ j))
  | .gt, _ => rI0 fun i j => .bl (decide (j < i))
  | .ge, _ => rI0 fun i j => .bl (decide (j ≤ i))
  | .inn, K => fun x y H Q => rInD K x y H Q ∨ rInTD K x y H Q ∨ rInS x y H Q ∨ rInDc x y H Q
  | .nin, K => fun x y H Q => rNotInD K x y H Q ∨ rNotInTD K x y H Q ∨ rNotInS x y H Q ∨ rNotInDc x y H Q
  | .is_, _ => fun x y H Q => (fun (x y : V) (H : Hp) (Q : VK) => y = .non ∧ Q (.bl (decide (x = .non))) H) x y H Q ∨ rIsB x y H Q
  | .isn, _ => fun x y H Q => (fun (x y : V) (H : Hp) (Q : VK) => y = .non ∧ Q (.bl (!decide (x = .non))) H) x y H Q ∨ rNotB x y H Q
def KOp.py : KOp → CmpOp
  | .eq => .Eq | .ne => .NotEq | .lt => .Lt | .le => .LtE | .gt => .Gt | .ge => .GtE | .inn => .In | .nin => .NotIn | .is_ => .Is | .isn => .IsNot
theorem op_cmp {X : Cx} (hu : X.A.units + 65 < cLine) (op : KOp) : OpR X (compareOp op.py) (rCmp op X.K) := by
  have h64 : X.A.units + 64 < cLine := by omega
  have h1 : X.A.units + 1 < cLine := by omega
  cases op
  · exact OpR.or op_eq (op_eqD h64)
  · exact OpR.or op_ne (op_neD h64)
  · exact op_lt
  · exact op_le
  · exact op_gt
  · exact op_ge
  · exact OpR.or (op_inD hu) (OpR.or (op_inTD hu) (OpR.or op_in_sign (op_inDc h1)))
  · exact OpR.or (op_notInD hu) (OpR.or (op_notInTD hu) (OpR.or op_notIn_sign (op_notInDc h1)))
  · exact OpR.or op_isN op_isBl
  · exact OpR.or op_notN op_notBl
section
variable {R : Fr}
theorem look_val {κ : Type} [DecidableEq κ] {P : V → D → Prop} (k : κ) : ∀ {kvs : List (κ × V)} {ks : List κ} {ds : List D}, kvs.map (·.1) = ks → Paired P (kvs.map (·.2)) ds →
    (∀ d, look ks ds k = some d → ∃ v, valV kvs k = some v ∧ P v d) ∧ (look ks ds k = none → valV kvs k = none)
  | [], ks, ds, h1, h2 => by
    cases h1
    cases h2
    exact ⟨fun d e => (by cases e), fun _ => rfl⟩
  | (j, v) :: r, ks, ds, h1, h2 => by
    cases h1
    cases h2 with
    | cons q t =>
      rename_i d ds
      show (∀ e, (if j = k then some d else look (r.map (·.1)) ds k) = some e → ∃ w, valV ((j, v) :: r) k = some w ∧ P w e) ∧ ((if j = k then some d else look (r.map (·.1)) ds k) = none → valV ((j, v) :: r) k = none)
      by_cases e : j = k
      · rw [if_pos e, valV_pos (p := (j, v)) e]
        refine ⟨fun d' z => ?_, fun z => (by cases z)⟩
        cases z
        exact ⟨v, rfl, q⟩
      · rw [if_neg e, valV_neg (p := (j, v)) e]
        exact look_val k rfl t
theorem key_kV {F H : Hp} {K : PySem.W.Frag} {v : V} {d : D} {k : Key} (h : View K F H v d) (e : d.key = some k) : v = kV k := by
  cases d with
  | int i => cases e; exact h.as_int
  | str s => cases e; exact h.as_str
  | _ => cases e
theorem keyL_kV {F : Hp} {K : PySem.W.Frag} : ∀ {ds : List D} {vs : List V} {ks : List Key}, Paired (At K F) vs ds → keyL ds = some ks → vs = ks.map kV
  | [], _, _, h, e => by cases h; cases e; rfl
  | d :: ds, _, ks, h, e => by
    cases h with
    | cons h1 h2 =>
      unfold keyL at e
      cases q : d.key with
      | none => rw [q] at e; cases e
      | some a =>
        cases q2 : keyL ds with
        | none => rw [q, q2] at e; cases e
        | some b =>
          rw [q, q2] at e
          cases e
          rw [keyL_kV h2 q2, List.map_cons]
          cases d with
          | int i => cases q; cases h1; rfl
          | str s => cases q; cases h1; rfl
          | _ => cases q
theorem keyT_kV {F H : Hp} {K : PySem.W.Frag} {v : V} {d : D} {k : List Key} (h : View K F H v d) (e : d.keyT = some k) : ∃ b, v = .ref b ∧ H b = some (.tup (k.map kV)) := by
  cases d with
  | tup xs =>
    obtain ⟨a, vs, rfl, h1, h2, _⟩ := h.as_tup
    refine ⟨a, rfl, ?_⟩
    rw [h1, keyL_kV h2 e]
  | _ => cases e
/-- a dict looked at -/
theorem dget_of {F H : Hp} {K : PySem.W.Frag} {v w : V} {ks : List Key} {ds : List D} {d : D} {k : Key} (h : View K F H v (.dct ks ds)) (hw : View K F' H w d) (e : d.key = some k) :
    ∃ a o, v = .ref a ∧ DGet H a w o ∧ (∀ x, look ks ds k = some x → ∃ u, o = some u ∧ At K F u x) ∧ (look ks ds k = none → o = none) := by
  obtain ⟨a, kvs, rfl, h1, h2, h3⟩ := h.as_dct
  obtain rfl := key_kV hw e
  obtain ⟨q1, q2⟩ := look_val k h2 h3
  exact ⟨a, _, rfl, .inl ⟨kvs, k, h1, rfl, rfl⟩, q1, q2⟩
theorem dget_ofT {F H : Hp} {K : PySem.W.Frag} {v w : V} {ks : List (List Key)} {ds : List D} {d : D} {k : List Key} (h : View K F H v (.dctT ks ds)) (hw : View K F' H w d) (e : d.keyT = some k) :
    ∃ a o, v = .ref a ∧ DGet H a w o ∧ (∀ x, look ks ds k = some x → ∃ u, o = some u ∧ At K F u x) ∧ (look ks ds k = none → o = none) := by
  obtain ⟨a, kvs, rfl, h1, h2, h3⟩ := h.as_dctT
  obtain ⟨b, rfl, hb⟩ := keyT_kV hw e
  obtain ⟨q1, q2⟩ := look_val k h2 h3
  exact ⟨a, _, rfl, DGet.t h1 hb, q1, q2⟩
theorem opt_isSome {α β : Type} {P : β → α → Prop} {l : Option α} {o : Option β} (h1 : ∀ x, l = some x → ∃ u, o = some u ∧ P u x) (h2 : l = none → o = none) : o.isSome = l.isSome := by
  cases l with
  | none => rw [h2 rfl]; rfl
  | some x => obtain ⟨u, rfl, _⟩ := h1 x rfl; rfl
/-- equality -/
theorem eqP_dp {F H : Hp} {K : PySem.W.Frag} {x y : V} {dx dy : D} {b : Bool} {n m : Bool} {H0 : Hp} (eF : Same F H) (vx : View K (FN H0 F n) H x dx) (vy : View K (FN H0 F m) H y dy) (e : D.eqP dx dy = some b) :
    ∃ p q, Dp K H x p ∧ Dp K H y q ∧ SeqAt.shaped p = true ∧ SeqAt.shaped q = true ∧ PyData.eqv p q = b := by
  unfold D.eqP at e
  cases h1 : dx.py with
  | none => rw [h1] at e; cases e
  | some p =>
    cases h2 : dy.py with
    | none => rw [h1, h2] at e; cases e
    | some q =>
      rw [h1, h2] at e
      dsimp only at e
      split at e
      · rename_i h3
        cases e
        rw [Bool.and_eq_true] at h3
        exact ⟨p, q, At.dp _ _ _ (vx.at (FN_le.trans eF)) h1, At.dp _ _ _ (vy.at (FN_le.trans eF)) h2, h3.1, h3.2, rfl⟩
      · cases e
theorem res_eq : Res2 R (rCmp .eq R.K) (cmpS .eq) := by
  intro x y ⟨dx, mx, nx⟩ ⟨dy, my, ny⟩ s F H g σ g0 F0 H0 Q r st vx vy e k
  have e' : (D.eqE dx dy).map (fun k => atm (.bl k)) = some s := e
  cases q : D.eqE dx dy with
  | none => rw [q] at e'; cases e'
  | some b =>
    rw [q] at e'
    cases e'
    by_cases hs : ∃ a b', dx = .str a ∧ dy = .str b'
    · obtain ⟨a, b', rfl, rfl⟩ := hs
      obtain rfl := vx.as_str
      obtain rfl := vy.as_str
      refine .inl ⟨rfl, ?_⟩
      have e3 : decide (V.str a = V.str b') = b := by
        have : some (decide (a = b')) = some b := q
        rw [← Option.some.inj this, decide_eq_decide]
        exact ⟨fun z => V.str.inj z, fun z => by rw [z]⟩
      rw [e3]
      exact atm_k k r st (.bl _)
    · have e2 : D.eqP dx dy = some b := by
        rw [← q]
        unfold D.eqE
        cases dx <;> first | rfl | (cases dy <;> first | rfl | exact absurd ⟨_, _, rfl, rfl⟩ hs)
      obtain ⟨p, q', h1, h2, h3, h4, h5⟩ := eqP_dp r.ex vx vy e2
      refine .inr ⟨p, q', h1, h2, h3, h4, ?_⟩
      rw [h5]
      exact atm_k k r st (.bl _)
theorem res_ne : Res2 R (rCmp .ne R.K) (cmpS .ne) := by
  intro x y ⟨dx, mx, nx⟩ ⟨dy, my, ny⟩ s F H g σ g0 F0 H0 Q r st vx vy e k
  have e' : ((D.eqE dx dy).map (!·)).map (fun k => atm (.bl k)) = some s := e
  cases q : D.eqE dx dy with
  | none => rw [q] at e'; cases e'
  | some b =>
    rw [q] at e'
    cases e'
    by_cases hs : ∃ a b', dx = .str a ∧ dy = .str b'
    · obtain ⟨a, b', rfl, rfl⟩ := hs
      obtain rfl := vx.as_str
      obtain rfl := vy.as_str
      refine .inl ⟨rfl, ?_⟩
      have e3 : decide (V.str a = V.str b') = b := by
        have : some (decide (a = b')) = some b := q
        rw [← Option.some.inj this, decide_eq_decide]
        exact ⟨fun z => V.str.inj z, fun z => by rw [z]⟩
      rw [e3]
      exact atm_k k r st (.bl _)
    · have e2 : D.eqP dx dy = some b := by
        rw [← q]
        unfold D.eqE
        cases dx <;> first | rfl | (cases dy <;> first | rfl | exact absurd ⟨_, _, rfl, rfl⟩ hs)
      obtain ⟨p, q', h1, h2, h3, h4, h5⟩ := eqP_dp r.ex vx vy e2
      refine .inr ⟨p, q', h1, h2, h3, h4, ?_⟩
      rw [h5]
      exact atm_k k r st (.bl _)
theorem res_ord (op : KOp) (f : Int → Int → Bool) (hr : rCmp op R.K = rI0 fun i j => .bl (f i j)) (hf : ∀ x y, D.cmp op x y = match x, y with | .int i, .int j => some (f i j) | _, _ => none) : Res2 R (rCmp op R.K) (cmpS op) := by
  intro x y ⟨dx, mx, nx⟩ ⟨dy, my, ny⟩ s F H g σ g0 F0 H0 Q r st vx vy e k
  have e' : (D.cmp op dx dy).map (fun k => atm (.bl k)) = some s := e
  rw [hf] at e'
  rw [hr]
  cases dx with
  | int i =>
    cases dy with
    | int j =>
      cases e'
      obtain rfl := vx.as_int
      obtain rfl := vy.as_int
      exact ⟨_, _, rfl, rfl, atm_k k r st (.bl _)⟩
    | _ => cases e'
  | _ => cases e'
theorem in_of {F H : Hp} {K : PySem.W.Frag} {x y : V} {dx dy : D} {b : Bool} {n m : Bool} {H0 : Hp} (eF : Same F H) (vx : View K (FN H0 F n) H x dx) (vy : View K (FN H0 F m) H y dy) (e : D.inn dx dy = some b) :
    (∃ d ds, Dp K H x d ∧ Dp K H y (.list ds) ∧ SeqAt.shaped d = true ∧ SeqAt.shaped (.list ds) = true ∧ (ds.any fun z => PyData.eqv z d) = b) ∨
    (∃ d ds, Dp K H x d ∧ Dp K H y (.tuple ds) ∧ SeqAt.shaped d = true ∧ SeqAt.shaped (.tuple ds) = true ∧ (ds.any fun z => PyData.eqv z d) = b) ∨
    (∃ (c : Nat) (z : Str), x = .str ⟨#[c]⟩ ∧ y = .str z ∧ decide (c ∈ z.cps.toList) = b) ∨ (∃ (a : Addr) (o : Option V), y = .ref a ∧ DGet H a x o ∧ o.isSome = b) := by
  cases dy with
  | lst ys =>
    left
    unfold D.inn at e
    dsimp only at e
    cases h1 : dx.py with
    | none => rw [h1] at e; cases e
    | some p =>
      cases h2 : pyL ys with
      | none => rw [h1, h2] at e; cases e
      | some qs =>
        rw [h1, h2] at e
        dsimp only at e
        split at e
        · rename_i h3
          cases e
          rw [Bool.and_eq_true] at h3
          exact ⟨p, qs, At.dp _ _ _ (vx.at (FN_le.trans eF)) h1, At.dp _ _ _ (vy.at (FN_le.trans eF)) (by unfold D.py; rw [h2]; rfl), h3.1, h3.2, rfl⟩
        · cases e
  | tup ys =>
    right; left
    unfold D.inn at e
    dsimp only at e
    cases h1 : dx.py with
    | none => rw [h1] at e; cases e
    | some p =>
      cases h2 : pyL ys with
      | none => rw [h1, h2] at e; cases e
      | some qs =>
        rw [h1, h2] at e
        dsimp only at e
        split at e
        · rename_i h3
          cases e
          rw [Bool.and_eq_true] at h3
          exact ⟨p, qs, At.dp _ _ _ (vx.at (FN_le.trans eF)) h1, At.dp _ _ _ (vy.at (FN_le.trans eF)) (by unfold D.py; rw [h2]; rfl), h3.1, h3.2, rfl⟩
        · cases e
  | str z =>
    right; right; left
    unfold D.inn at e
    dsimp only at e
    cases dx with
    | str t =>
      dsimp only at e
      split at e
      · rename_i c hc
        cases e
        refine ⟨c, z, ?_, vy.as_str, rfl⟩
        rw [vx.as_str]
        obtain ⟨⟨l⟩⟩ := t
        have : l = [c] := hc
        rw [this]
      · cases e
    | _ => cases e
  | dct ks xs =>
    right; right; right
    unfold D.inn at e
    dsimp only at e
    cases h1 : dx.key with
    | none => rw [h1] at e; cases e
    | some j =>
      rw [h1] at e
      cases e
      obtain ⟨a, o, rfl, hg, q1, q2⟩ := dget_of vy vx h1
      exact ⟨a, o, rfl, hg, opt_isSome q1 q2⟩
  | dctT ks xs =>
    right; right; right
    unfold D.inn at e
    dsimp only at e
    cases h1 : dx.keyT with
    | none => rw [h1] at e; cases e
    | some j =>
      rw [h1] at e
      cases e
      obtain ⟨a, o, rfl, hg, q1, q2⟩ := dget_ofT vy vx h1
      exact ⟨a, o, rfl, hg, opt_isSome q1 q2⟩
  | _ => cases e
theorem res_in : Res2 R (rCmp .inn R.K) (cmpS .inn) := by
  intro x y ⟨dx, mx, nx⟩ ⟨dy, my, ny⟩ s F H g σ g0 F0 H0 Q r st vx vy e k
  have e' : (D.inn dx dy).map (fun k => atm (.bl k)) = some s := e
  cases q : D.inn dx dy with
  | none => rw [q] at e'; cases e'
  | some b =>
    rw [q] at e'
    cases e'
    have fin : Q (.bl b) H := atm_k k r st (.bl _)
    rcases in_of r.ex vx vy q with ⟨d, ds, h1, h2, h3, h4, h5⟩ | ⟨d, ds, h1, h2, h3, h4, h5⟩ | ⟨c, z, h1, h2, h5⟩ | ⟨a, o, h1, h2, h5⟩
    · exact .inl ⟨d, ds, h1, h2, h3, h4, by rw [h5]; exact fin⟩
    · exact .inr (.inl ⟨d, ds, h1, h2, h3, h4, by rw [h5]; exact fin⟩)
    · exact .inr (.inr (.inl ⟨c, z, h1, h2, by rw [h5]; exact fin⟩))
    · exact .inr (.inr (.inr ⟨a, o, h1, h2, by rw [h5]; exact fin⟩))
theorem res_nin : Res2 R (rCmp .nin R.K) (cmpS .nin) := by
  intro x y ⟨dx, mx, nx⟩ ⟨dy, my, ny⟩ s F H g σ g0 F0 H0 Q r st vx vy e k
  have e' : ((D.inn dx dy).map (!·)).map (fun k => atm (.bl k)) = some s := e
  cases q : D.inn dx dy with
  | none => rw [q] at e'; cases e'
  | some b =>
    rw [q] at e'
    cases e'
    have fin : Q (.bl (!b)) H := atm_k k r st (.bl _)
    rcases in_of r.ex vx vy q with ⟨d, ds, h1, h2, h3, h4, h5⟩ | ⟨d, ds, h1, h2, h3, h4, h5⟩ | ⟨c, z, h1, h2, h5⟩ | ⟨a, o, h1, h2, h5⟩
    · exact .inl ⟨d, ds, h1, h2, h3, h4, by rw [h5]; exact fin⟩
    · exact .inr (.inl ⟨d, ds, h1, h2, h3, h4, by rw [h5]; exact fin⟩)
    · exact .inr (.inr (.inl ⟨c, z, h1, h2, by rw [h5]; exact fin⟩))
    · exact .inr (.inr (.inr ⟨a, o, h1, h2, by rw [h5]; exact fin⟩))
theorem isN_of {F H : Hp} {K : PySem.W.Frag} {x : V} {d : D} {b : Bool} (v : View K F H x d) (e : d.isN = some b) : decide (x = .non) = b := by
  cases d with
  | non => cases e; rw [v.as_non]; rfl
  | _ =>
    cases e
    cases v <;> first | rfl | (rename_i h; cases h <;> rfl) | (rename_i h _; cases h <;> rfl)
theorem res_is : Res2 R (rCmp .is_ R.K) (cmpS .is_) := by
  intro x y ⟨dx, mx, nx⟩ ⟨dy, my, ny⟩ s F H g σ g0 F0 H0 Q r st vx vy e k
  cases dy with
  | non =>
    have e' : (D.isN dx).map (fun k => atm (.bl k)) = some s := e
    cases q : D.isN dx with
    | none => rw [q] at e'; cases e'
    | some b =>
      rw [q] at e'
      cases e'
      refine .inl ⟨vy.as_non, ?_⟩
      rw [isN_of vx q]
      exact atm_k k r st (.bl _)
  | bl b =>
    cases dx with
    | bl a =>
      cases e
      exact .inr ⟨a, b, vx.as_bl, vy.as_bl, atm_k k r st (.bl _)⟩
    | _ => cases e
  | _ => cases e
theorem res_isn : Res2 R (rCmp .isn R.K) (cmpS .isn) := by
  intro x y ⟨dx, mx, nx⟩ ⟨dy, my, ny⟩ s F H g σ g0 F0 H0 Q r st vx vy e k
  cases dy with
  | non =>
    have e' : ((D.isN dx).map (!·)).map (fun k => atm (.bl k)) = some s := e
    cases q : D.isN dx with
    | none => rw [q] at e'; cases e'
    | some b =>
      rw [q] at e'
      cases e'
      refine .inl ⟨vy.as_non, ?_⟩
      rw [isN_of vx q]
      exact atm_k k r st (.bl _)
  | bl b =>
    cases dx with
    | bl a =>
      cases e
      exact .inr ⟨a, b, vx.as_bl, vy.as_bl, atm_k k r st (.bl _)⟩
    | _ => cases e
  | _ => cases e
theorem res_cmp (op : KOp) : Res2 R (rCmp op R.K) (cmpS op) := by
  cases op
  · exact res_eq
  · exact res_ne
  · exact res_ord .lt (fun i j => decide (i < j)) rfl fun x y => rfl
  · exact res_ord .le (fun i j => decide (i ≤ j)) rfl fun x y => rfl
  · exact res_ord .gt (fun i j => decide (j < i)) rfl fun x y => rfl
  · exact res_ord .ge (fun i j => decide (j ≤ i)) rfl fun x y => rfl
  · exact res_in
  · exact res_nin
  · exact res_is
  · exact res_isn
end
end Y
set_option Elab.async false
set_option linter.all false
set_option maxRecDepth 100000
set_option maxHeartbeats 2000000
namespace Y
open PySem PySem.Spec L2 PyProof.Rows
def rDG : R2 := fun x y H Q => ∃ a v, x = .ref a ∧ DGet H a y (some v) ∧ Q v H
theorem ix_dict {X : Cx} (hu : X.A.units + 1 < cLine) : IxR X rDG := by
  intro value slice pins s σ H x y v u Q I rx ry h hs
  obtain ⟨a, w, rfl, g, q⟩ := h
  cases rx
  have hT := dict_typeIs I g
  unfold subscriptTail
  refine wpAny_bind ?_
  rw [getitemInPython_of_ne hT.not_modules]
  refine wpAny_bind (wpAny_specialOf hT PySem.F.slot_dict_getitem.lookup ?_)
  have fin : wpAny (model X.prog X.w) X.A (subscripted slice false (.ref a) u) (fun r s₃ => wpAny (model X.prog X.w) X.A (letTemporaryGo value (.ref a) r >>= fun _ => pure r) (EP X pins σ Q) X.xe s₃) X.xe s := by
    rw [hs]
    exact wpAny_operating (wpAny_mono (d_getItem hu I g ry fun w' s3 I3 rw' => (⟨w, H, I3, rw', q⟩ : EP X pins σ Q w' s3)) (fun r s₃ h₃ => wpAny_bind (wpAny_letTemporaryGo (wpAny_pure h₃))) fun _ _ x => x)
  first
    | exact wpAny_pure (wpAny_bind fin)
    | exact wpAny_bind (wpAny_pure (wpAny_bind fin))
    | exact wpAny_bind fin
section
variable {R : Fr}
theorem At.sub {F : Hp} {n : Bool} {v : V} {d : D} (h : At R.K (FN R.H0 F n) v d) : At R.K (FN R.H0 F (n || d.atom)) v d := by
  cases ha : d.atom with
  | true => exact h.atom ha
  | false => rw [Bool.or_false]; exact h
theorem atI_map {α β : Type} (f : α → β) (xs : List α) (i : Int) : atI (xs.map f) i = (atI xs i).map f := by
  unfold atI
  rw [List.length_map]
  cases ixN xs.length i with
  | none => rfl
  | some j => show (xs.map f)[j]? = (xs[j]?).map f; rw [List.getElem?_map]
abbrev rIxD (K : PySem.W.Frag) : R2 := fun x y H Q => rIx K x y H Q ∨ rDG x y H Q
theorem res_idx : Res2 R (rIxD R.K) idxS := by
  intro x y ⟨dx, mx, nx⟩ ⟨dy, my, ny⟩ s F H g σ g0 F0 H0 Q r st vx vy e k
  have e' : (D.idx dx dy).map (fun d => (⟨d, .fr, nx || d.atom⟩ : Sl)) = some s := e
  cases q : D.idx dx dy with
  | none => rw [q] at e'; cases e'
  | some d =>
    rw [q] at e'
    cases e'
    cases dx with
    | lst xs =>
      cases dy with
      | int i =>
        obtain ⟨p, vs, rfl, h1, h2⟩ := vx.as_lst
        obtain ⟨w, h3, h4⟩ := h2.yatI q
        exact .inl (.inl ⟨p, vs, i, w, rfl, vy.as_int, SqL.of h1, h3, kont_fr k r st h4.sub⟩)
      | _ => cases q
    | tup xs =>
      cases dy with
      | int i =>
        obtain ⟨p, vs, rfl, h1, h2, _⟩ := vx.as_tup
        obtain ⟨w, h3, h4⟩ := h2.yatI q
        exact .inl (.inr (.inl ⟨p, vs, i, w, rfl, vy.as_int, SqT.of h1, h3, kont_fr k r st h4.sub⟩))
      | _ => cases q
    | scr ns =>
      cases dy with
      | int i =>
        obtain ⟨p, rfl, h1⟩ := vx.as_scr
        have q' : (atI ns i).map D.int = some d := q
        cases h2 : atI ns i with
        | none => rw [h2] at q'; cases q'
        | some n =>
          rw [h2] at q'
          cases q'
          refine .inl (.inl ⟨p, _, i, .int n, rfl, vy.as_int, h1, by rw [atI_map, h2]; rfl, kont_fr k r st ?_⟩)
          exact At.int n
      | _ => cases q
    | str z =>
      cases dy with
      | int i =>
        have q' : (if z.length ≤ lim then (atI z.cps.toList i).map (fun c => D.str ⟨#[c]⟩) else none) = some d := q
        split at q'
        · rename_i hl
          cases h2 : atI z.cps.toList i with
          | none => rw [h2] at q'; cases q'
          | some c =>
            rw [h2] at q'
            cases q'
            exact .inl (.inr (.inr ⟨z, i, c, vx.as_str, vy.as_int, lim_size hl, h2, kont_fr k r st (At.str _)⟩))
        · cases q'
      | _ => cases q
    | dct ks xs =>
      have q' : (match dy.key with | some k => look ks xs k | none => none) = some d := q
      cases h1 : dy.key with
      | none => rw [h1] at q'; cases q'
      | some j =>
        rw [h1] at q'
        obtain ⟨a, o, rfl, hg, q1, _⟩ := dget_of vx vy h1
        obtain ⟨u, rfl, h4⟩ := q1 d q'
        exact .inr ⟨a, u, rfl, hg, kont_fr k r st h4.sub⟩
    | dctT ks xs =>
      have q' : (match dy.keyT with | some k => look ks xs k | none => none) = some d := q
      cases h1 : dy.keyT with
      | none => rw [h1] at q'; cases q'
      | some j =>
        rw [h1] at q'
        obtain ⟨a, o, rfl, hg, q1, _⟩ := dget_ofT vx vy h1
        obtain ⟨u, rfl, h4⟩ := q1 d q'
        exact .inr ⟨a, u, rfl, hg, kont_fr k r st h4.sub⟩
    | _ => cases q
theorem res_neg : Res1 R (rU fun i => .int (-i)) negS := by
  intro x ⟨dx, mx, nx⟩ s F H g σ g0 F0 H0 Q r st vx e k
  cases dx with
  | int i =>
    cases e
    exact ⟨i, vx.as_int, atm_k k r st (.int _)⟩
  | _ => cases e
abbrev rRev : V → Hp → VK → Prop := fun x H Q => ∃ a xs, x = .ref a ∧ H a = some (.lst xs) ∧ ∀ p, H p = none → Q (.ref p) (upd H p (.lst xs.reverse))
theorem res_rev : Res1 R rRev revS := by
  intro x ⟨dx, mx, nx⟩ s F H g σ g0 F0 H0 Q r st vx e k
  cases dx with
  | lst xs =>
    cases e
    obtain ⟨p, vs, rfl, h1, h2⟩ := vx.as_lst
    exact ⟨p, vs, rfl, h1, fun z hz => kont_ow k r st hz (.lst upd_same h2.yrev)⟩
  | _ => cases e
theorem look_lookup {P : V → D → Prop} (k : Str) : ∀ {kvs : List (Str × V)} {ks : List Str} {ds : List D}, kvs.map (·.1) = ks → Paired P (kvs.map (·.2)) ds → ∀ d, look ks ds k = some d → ∃ v, kvs.lookup k = some v ∧ P v d
  | [], ks, ds, h1, h2, d, e => by
    cases h1
    cases h2
    cases e
  | (j, v) :: r, ks, ds, h1, h2, d, e => by
    cases h1
    cases h2 with
    | cons q t =>
      rename_i d' ds
      have e' : (if j = k then some d' else look (r.map (·.1)) ds k) = some d := e
      rw [List.lookup_cons]
      by_cases h : j = k
      · rw [if_pos h] at e'
        cases e'
        have : (k == j) = true := by rw [h]; exact beq_self_eq_true _
        rw [this]
        exact ⟨v, rfl, q⟩
      · rw [if_neg h] at e'
        have : (k == j) = false := beq_eq_false_iff_ne.mpr fun z => h z.symm
        rw [this]
        exact look_lookup k rfl t d e'
theorem lookup_none {k : Str} : ∀ {kvs : List (Str × V)}, k ∉ kvs.map (·.1) → kvs.lookup k = none
  | [], _ => rfl
  | (j, v) :: r, h => by
    rw [List.lookup_cons]
    have : (k == j) = false := beq_eq_false_iff_ne.mpr fun z => h (by rw [z]; exact List.mem_cons_self)
    rw [this]
    exact lookup_none fun z => h (List.mem_cons_of_mem _ z)
/-- the classes whose attributes are asked for -/
def AttOk (K : PySem.W.Frag) (E : Ev) : Prop := ∀ c f, E.att c f = true → Cls K (He.ga K c) ∧ NoAttr K (He.ga K c) f
abbrev rAtt (K : PySem.W.Frag) (f : Str) : V → Hp → VK → Prop := fun x H Q => ∃ a C dx fs v, x = .ref a ∧ H a = some (.ins C dx fs) ∧ Cls K C ∧ NoAttr K C f ∧ fs.lookup f = some v ∧ Q v H
theorem res_att {E : Ev} (hE : AttOk R.K E) (f : Str) : Res1 R (rAtt R.K f) (attS E f) := by
  intro x ⟨dx, mx, nx⟩ s F H g σ g0 F0 H0 Q r st vx e k
  cases dx with
  | obj c fs xs =>
    have e' : (if E.att c f then (look fs xs f).map (fun d => (⟨d, .fr, nx || d.atom⟩ : Sl)) else none) = some s := e
    split at e'
    · rename_i hc
      obtain ⟨hc1, hc2⟩ := hE c f hc
      cases q : look fs xs f with
      | none => rw [q] at e'; cases e'
      | some d =>
        rw [q] at e'
        cases e'
        obtain ⟨p, dx, kvs, rfl, h1, h2, h3⟩ := vx.as_obj
        obtain ⟨v, h4, h5⟩ := look_lookup f h2 h3 d q
        exact ⟨p, _, dx, kvs, v, rfl, h1, hc1, hc2, h4, kont_fr k r st h5.sub⟩
    · cases e'
  | _ => cases e
/-! ### isinstance -/
def tyV' (K : PySem.W.Frag) : Sum String Str → Value
  | .inl a => .type a
  | .inr c => .ref (He.ga K c)
def Ty.v (K : PySem.W.Frag) : Ty → V
  | .ty n => .ty n
  | .cls c => .ref (He.ga K c)
def Ty.u (K : PySem.W.Frag) : Ty → Value
  | .ty n => .type n
  | .cls c => .ref (He.ga K c)
/-- what is leant on for isinstance: the answers; that the instances' classes have the built-in __class__ -/
structure IsiOk (K : PySem.W.Frag) (E : Ev) : Prop where
  is_ : ∀ a t b, E.isi a t = some b → PySem.W.kitOne K (tyV' K a) (t.u K) = some b
  cl : ∀ c t b, E.isi (.inr c) t = some b → Cls K (He.ga K c) ∧ PySem.W.findIn K (.ref (He.ga K c)) "__class__" = some (some (.builtin "object.__class__")) ∧
    PySem.W.specialIn K (.builtin "object.__class__") "__get__" = some (some (.builtin "getset_descriptor.__get__")) ∧ PySem.W.takesIn K (.builtin "object.__class__") = some true ∧ PySem.W.mroIn K (He.ga K c) (.type "object") = some true
theorem tyx_of {K : PySem.W.Frag} {E : Ev} (hE : IsiOk K E) {F H : Hp} {x : V} {d : D} {t : Ty} {b : Bool} (v : View K F H x d) (e : isiD E d t = some b) : ∃ u, TyX K H x u ∧ PySem.W.kitOne K u (t.u K) = some b := by
  have main : ∀ a : String, tyName d = some (.inl a) → TyX K H x (.type a) → ∃ u, TyX K H x u ∧ PySem.W.kitOne K u (t.u K) = some b := fun a ha hx => by
    refine ⟨_, hx, ?_⟩
    unfold isiD at e
    rw [ha] at e
    cases t with
    | ty n => exact kit_ty e
    | cls c => exact hE.is_ (.inl a) (.cls c) b e
  cases d with
  | non => exact main _ rfl (by rw [v.as_non]; exact .base .non)
  | bl k => exact main _ rfl (by rw [v.as_bl]; exact .base (.bl k))
  | int k => exact main _ rfl (by rw [v.as_int]; exact .base (.int k))
  | str k => exact main _ rfl (by rw [v.as_str]; exact .base (.str k))
  | scr ns =>
    obtain ⟨a, rfl, h⟩ := v.as_scr
    refine main _ rfl ?_
    rcases h with (h | ⟨o, h⟩) | ⟨oo, its, n, h, hc, _⟩
    · exact .base (.lst h)
    · exact .base (.frz h)
    · exact .kList h hc
  | lst xs =>
    obtain ⟨a, vs, rfl, h, _⟩ := v.as_lst
    exact main _ rfl (.base (.lst h))
  | tup xs =>
    obtain ⟨a, vs, rfl, h, _⟩ := v.as_tup
    exact main _ rfl (.base (.tup h))
  | ktup xs =>
    unfold isiD at e
    cases e
  | dct ks xs =>
    obtain ⟨a, vs, rfl, h, _⟩ := v.as_dct
    exact h.elim (fun h => main _ rfl (.base (.dK h))) fun ⟨o, h⟩ => main _ rfl (.fDict h)
  | dctT ks xs =>
    obtain ⟨a, vs, rfl, h, _⟩ := v.as_dctT
    exact main _ rfl (.base (.dT h))
  | obj c fs xs =>
    obtain ⟨a, dx, kvs, rfl, h, _⟩ := v.as_obj
    have e' : E.isi (.inr c) t = some b := e
    obtain ⟨h1, h2, h3, h4, h5⟩ := hE.cl c t b e'
    exact ⟨_, .base (.ins h h1 h2 h3 h4 h5), hE.is_ _ _ _ e'⟩
theorem Ty.clsV (K : PySem.W.Frag) (t : Ty) : ClsV (t.v K) (t.u K) := by
  cases t with
  | ty n => exact .ty n
  | cls c => exact .own _
/-- isinstance(x, T) -/
theorem res_isi {E : Ev} (hE : IsiOk R.K E) (t : Ty) : Res1 R (fun x H Q => rIsi R.K [x, t.v R.K] H Q) (isiS E t) := by
  intro x ⟨dx, mx, nx⟩ s F H g σ g0 F0 H0 Q r st vx e k
  have e' : (isiD E dx t).map (fun k => atm (.bl k)) = some s := e
  cases q : isiD E dx t with
  | none => rw [q] at e'; cases e'
  | some b =>
    rw [q] at e'
    cases e'
    obtain ⟨u, h1, h2⟩ := tyx_of hE vx q
    exact ⟨x, _, u, _, b, rfl, Ty.clsV _ t, h1, h2, atm_k k r st (.bl _)⟩
/-! ### x.index(y), d.get(k) -/
theorem indexD_of {H : Hp} {F : Hp} {K : PySem.W.Frag} : ∀ {xs : List D} {ps : List PyData} {y : D} {p : PyData} {n k : Nat}, pyL xs = some ps → y.py = some p → indexD y xs n = some k →
    n ≤ k ∧ ∃ z, ps[k - n]? = some z ∧ PyData.eqv z p = true ∧ ∀ (m : Nat) (z' : PyData), m < k - n → ps[m]? = some z' → PyData.eqv z' p = false := by
  intro xs
  induction xs with
  | nil => intro ps y p n k h1 h2 e; cases e
  | cons x xs ih =>
    intro ps y p n k h1 h2 e
    have py1 : ∃ a b, x.py = some a ∧ pyL xs = some b ∧ ps = a :: b := by
      unfold pyL at h1
      cases q : x.py with
      | none => rw [q] at h1; cases h1
      | some a =>
        cases q2 : pyL xs with
        | none => rw [q, q2] at h1; cases h1
        | some b => rw [q, q2] at h1; cases h1; exact ⟨a, b, rfl, rfl, rfl⟩
    obtain ⟨a, b, ha, hb, rfl⟩ := py1
    have eqa : ∀ c, x.eqE y = some c → PyData.eqv a p = c := fun c hc => by
      unfold D.eqE at hc
      cases x with
      | str s =>
        cases y with
        | str t =>
          cases ha
          cases h2
          have : some (decide (s = t)) = some c := hc
          rw [← Option.some.inj this]
          simp only [PyData.eqv]
          by_cases e : s = t
          · subst e; simp
          · simp [e]
        | _ =>
          all_goals
            simp only [D.eqP, ha, h2] at hc
            split at hc
            · cases hc; rfl
            · cases hc
      | _ =>
        all_goals
          simp only [D.eqP, ha, h2] at hc
          split at hc
          · cases hc; rfl
          · cases hc
    have e' : (match x.eqE y with | some true => some n | some false => indexD y xs (n + 1) | none => none) = some k := e
    cases q : x.eqE y with
    | none => rw [q] at e'; cases e'
    | some c =>
      rw [q] at e'
      cases c with
      | true =>
        cases e'
        rw [Nat.sub_self]
        exact ⟨Nat.le_refl _, a, rfl, eqa _ q, fun m z' hm _ => absurd hm (Nat.not_lt_zero _)⟩
      | false =>
        obtain ⟨h3, z, h4, h5, h6⟩ := ih hb h2 (show indexD y xs (n + 1) = some k from e')
        have hk : k - n = (k - (n + 1)) + 1 := by omega
        refine ⟨by omega, z, by rw [hk]; simpa using h4, h5, fun m z' hm hz => ?_⟩
        cases m with
        | zero =>
          simp at hz
          subst hz
          exact eqa _ q
        | succ m => exact h6 m z' (by omega) (by simpa using hz)
theorem res_index : Res2 R (fun x y H Q => rIndexD R.K x [y] H Q) indexS := by
  intro x y ⟨dx, mx, nx⟩ ⟨dy, my, ny⟩ s F H g σ g0 F0 H0 Q r st vx vy e k
  cases dx with
  | lst xs =>
    have e' : (match D.inn dy (.lst xs), indexD dy xs 0 with
      | some true, some k => some (atm (.int (k : Nat)))
      | _, _ => none) = some s := e
    cases q : D.inn dy (.lst xs) with
    | none => rw [q] at e'; cases e'
    | some b =>
      cases b with
      | false => rw [q] at e'; cases e'
      | true =>
        cases q2 : indexD dy xs 0 with
        | none => rw [q, q2] at e'; cases e'
        | some j =>
          rw [q, q2] at e'
          cases e'
          have q' := q
          unfold D.inn at q'
          dsimp only at q'
          cases h1 : dy.py with
          | none => rw [h1] at q'; cases q'
          | some p =>
            cases h2 : pyL xs with
            | none => rw [h1, h2] at q'; cases q'
            | some ps =>
              rw [h1, h2] at q'
              dsimp only at q'
              split at q'
              · rename_i h3
                rw [Bool.and_eq_true] at h3
                obtain ⟨a, vs, rfl, h4, h5⟩ := vx.as_lst
                obtain ⟨_, z, h6, h7, h8⟩ := indexD_of (H := H) (F := F) (K := R.K) h2 h1 q2
                rw [Nat.sub_zero] at h6 h8
                refine ⟨a, y, p, ps, j, z, rfl, rfl, .lst (SqL.of h4) (atL_dp _ _ _ (atL_mono (FN_le.trans r.ex) _ _ h5) h2), At.dp _ _ _ (vy.at (FN_le.trans r.ex)) h1, h3.2, h3.1, h6, h7, h8, ?_⟩
                exact atm_k k r st (.int _)
              · cases q'
  | _ => cases e
end
end Y
set_option Elab.async false
set_option linter.all false
set_option maxRecDepth 100000
set_option maxHeartbeats 2000000
namespace Y
open PySem PySem.Spec L2
/-! ### built-ins -/
def ResL (R : Fr) (r : List V → Hp → VK → Prop) (f : List Sl → Option Sl) : Prop := ∀ (xs : List V) (ss : List Sl) (s : Sl) (F H : Hp) (g : G) (σ : L2.St) (g0 : G) (F0 H0 : Hp) (Q : VK), Rel R F g σ H → Step g0 σ F0 H0 g F H →
  Paired (fun x s => View R.K (FN R.H0 F s.n) H x s.d) xs ss → f ss = some s → Kont R g0 σ F0 H0 s g Q → r xs H Q
theorem blsD_of {P : V → D → Prop} (hP : ∀ v b, P v (.bl b) → v = .bl b) : ∀ {ds : List D} {vs : List V} {bs : List Bool}, Paired P vs ds → blsD ds = some bs → vs = bs.map V.bl
  | [], _, _, h, e => by cases h; cases e; rfl
  | d :: ds, _, bs, h, e => by
    cases h with
    | cons h1 h2 =>
      cases d with
      | bl b =>
        have e' : (blsD ds).map (b :: ·) = some bs := e
        cases q : blsD ds with
        | none => rw [q] at e'; cases e'
        | some cs =>
          rw [q] at e'
          cases e'
          rw [hP _ _ h1, blsD_of hP h2 q, List.map_cons]
      | _ => cases e
theorem intsD_of {P : V → D → Prop} (hP : ∀ v b, P v (.int b) → v = .int b) : ∀ {ds : List D} {vs : List V} {bs : List Int}, Paired P vs ds → intsD ds = some bs → vs = bs.map V.int
  | [], _, _, h, e => by cases h; cases e; rfl
  | d :: ds, _, bs, h, e => by
    cases h with
    | cons h1 h2 =>
      cases d with
      | int b =>
        have e' : (intsD ds).map (b :: ·) = some bs := e
        cases q : intsD ds with
        | none => rw [q] at e'; cases e'
        | some cs =>
          rw [q] at e'
          cases e'
          rw [hP _ _ h1, intsD_of hP h2 q, List.map_cons]
      | _ => cases e
theorem at_bl {K : PySem.W.Frag} {F : Hp} (v : V) (b : Bool) (h : At K F v (.bl b)) : v = .bl b := by cases h; rfl
theorem at_int {K : PySem.W.Frag} {F : Hp} (v : V) (b : Int) (h : At K F v (.int b)) : v = .int b := by cases h; rfl
theorem at_ints {K : PySem.W.Frag} {G : Hp} : ∀ ns : List Int, Paired (At K G) (ns.map V.int) (ns.map D.int)
  | [] => .nil
  | n :: ns => .cons (.int n) (at_ints ns)
theorem at_keys {K : PySem.W.Frag} {G : Hp} : ∀ ks : List Key, Paired (At K G) (ks.map kV) (ks.map keyD)
  | [] => .nil
  | .inl i :: ks => .cons (.int i) (at_keys ks)
  | .inr s :: ks => .cons (.str s) (at_keys ks)
abbrev rBI : BI → PySem.W.Frag → List V → Hp → VK → Prop
  | .len, K => fun xs H Q => (∃ x n, xs = [x] ∧ LenV K x H n ∧ Q (.int n) H) ∨ (∃ a kvs, xs = [V.ref a] ∧ Rd H a (.dK kvs) ∧ Q (.int kvs.length) H)
  | .list, K => fun xs H Q => (∃ p ys, xs = [.ref p] ∧ (SqL K H p ys ∨ SqT K H p ys) ∧ ∀ l, H l = none → Q (.ref l) (upd H l (.lst ys))) ∨ (∃ (a : Addr) (kvs : List (Key × V)), xs = [.ref a] ∧ Rd H a (.dK kvs) ∧ ∀ p, H p = none → Q (.ref p) (upd H p (.lst (kvs.map fun kv => kV kv.1))))
  | .tuple, K => fun xs H Q => ∃ p ys, xs = [.ref p] ∧ ((SqL K H p ys ∧ ∀ l, H l = none → Q (.ref l) (upd H l (.tup ys))) ∨ (SqT K H p ys ∧ Q (.ref p) H))
  | .all, K => rAll K
  | .any, K => rAny K
  | .sum, K => rSum K
  | .max1, K => rMax K
  | .max2, _ => fun xs H Q => ∃ i j, xs = [.int i, .int j] ∧ Q (.int (if j > i then j else i)) H
  | .min2, _ => fun xs H Q => ∃ i j, xs = [.int i, .int j] ∧ Q (.int (if j < i then j else i)) H
  | .abs, _ => fun xs H Q => ∃ i, xs = [.int i] ∧ Q (.int (if i < 0 then -i else i)) H
  | .int, _ => fun xs H Q => (∃ i, xs = [.int i] ∧ Q (.int i) H) ∨ ∃ k, xs = [.bl k] ∧ Q (.int (if k then 1 else 0)) H
def BI.val : BI → Value
  | .len => .builtin "len" | .list => .type "list" | .tuple => .type "tuple" | .all => .builtin "all" | .any => .builtin "any" | .sum => .builtin "sum"
  | .max1 => .builtin "max" | .max2 => .builtin "max" | .min2 => .builtin "min" | .abs => .builtin "abs" | .int => .type "int"
def BI.nm : BI → Str
  | .len => "len" | .list => "list" | .tuple => "tuple" | .all => "all" | .any => "any" | .sum => "sum" | .max1 => "max" | .max2 => "max" | .min2 => "min" | .abs => "abs" | .int => "int"
theorem call_lenR {X : Cx} : CallR X (.builtin "len") (fun xs H Q => ∃ a kvs, xs = [V.ref a] ∧ Rd H a (.dK kvs) ∧ Q (.int kvs.length) H) := by
  intro pins s σ H xs us Q I r h
  obtain ⟨a, kvs, rfl, ha, q⟩ := h
  obtain ⟨u, rfl, ru⟩ := vals1 r
  cases ru
  exact d_len I ha fun t s' I' => ⟨.int kvs.length, H, I', ⟨t, rfl⟩, q⟩
theorem call_bi {X : Cx} (hc : X.calm = true) (b : BI) : CallR X b.val (rBI b X.K) := by
  cases b
  · exact CallR.or call_len call_lenR
  · exact CallR.or call_list_of (call_listD hc)
  · exact call_tuple_of
  · exact cr_all hc
  · exact cr_any hc
  · exact cr_sum hc
  · exact cr_max hc
  · exact call_max2 hc
  · exact call_min2 hc
  · exact call_abs
  · exact call_int1
theorem paired1 {α β : Type} {P : α → β → Prop} {xs : List α} {y : β} (h : Paired P xs [y]) : ∃ x, xs = [x] ∧ P x y := by
  cases h with
  | cons h1 h2 => cases h2; exact ⟨_, rfl, h1⟩
theorem paired2 {α β : Type} {P : α → β → Prop} {xs : List α} {y z : β} (h : Paired P xs [y, z]) : ∃ x w, xs = [x, w] ∧ P x y ∧ P w z := by
  cases h with
  | cons h1 h2 => obtain ⟨w, rfl, h3⟩ := paired1 h2; exact ⟨_, _, rfl, h1, h3⟩
section
variable {R : Fr}
theorem max_eq {ns : List Int} {m : Int} (e : ns.max? = some m) : 0 < ns.length ∧ ∀ m', m' ∈ ns → (∀ y, y ∈ ns → y ≤ m') → m' = m := by
  have h := List.max?_eq_some_iff.mp e
  refine ⟨List.length_pos_of_mem h.1, fun m' h1 h2 => ?_⟩
  have h3 := h2 m h.1
  have h4 := h.2 m' h1
  omega
theorem res_bi1 (b : BI) (x : V) (sx s : Sl) (hb : biD b [sx] = some s) (F H : Hp) (g : G) (σ : L2.St) (g0 : G) (F0 H0 : Hp) (Q : VK) (r : Rel R F g σ H) (st : Step g0 σ F0 H0 g F H) (vx : View R.K (FN R.H0 F sx.n) H x sx.d) (k : Kont R g0 σ F0 H0 s g Q) : rBI b R.K [x] H Q := by
  obtain ⟨d, m, n⟩ := sx
  cases b with
  | len =>
    have e : (D.len d).map (fun n => atm (.int n)) = some s := hb
    cases d with
    | str z =>
      have e' : (if z.length ≤ lim then some (z.length : Int) else none).map (fun n => atm (.int n)) = some s := e
      split at e'
      · rename_i hl
        cases e'
        rw [vx.as_str]
        exact .inl ⟨.str z, z.length, rfl, ⟨lim_size hl, rfl⟩, atm_k k r st (.int _)⟩
      · cases e'
    | scr ns =>
      cases e
      obtain ⟨a, rfl, h⟩ := vx.as_scr
      refine .inl ⟨.ref a, _, rfl, .inl ⟨_, h, rfl⟩, ?_⟩
      rw [List.length_map]
      exact atm_k k r st (.int _)
    | lst xs =>
      cases e
      obtain ⟨a, vs, rfl, h, hp⟩ := vx.as_lst
      refine .inl ⟨.ref a, _, rfl, .inl ⟨_, SqL.of h, rfl⟩, ?_⟩
      rw [hp.length]
      exact atm_k k r st (.int _)
    | tup xs =>
      cases e
      obtain ⟨a, vs, rfl, h, hp, _⟩ := vx.as_tup
      refine .inl ⟨.ref a, _, rfl, .inr ⟨_, SqT.of h, rfl⟩, ?_⟩
      rw [hp.length]
      exact atm_k k r st (.int _)
    | ktup xs =>
      cases e
      obtain ⟨a, rfl, h⟩ := vx.as_ktup
      refine .inl ⟨.ref a, _, rfl, .inr ⟨_, h, rfl⟩, ?_⟩
      rw [List.length_map]
      exact atm_k k r st (.int _)
    | dct ks xs =>
      cases e
      obtain ⟨a, kvs, rfl, h, hk, hp⟩ := vx.as_dct
      refine .inr ⟨a, kvs, rfl, h, ?_⟩
      subst hk
      rw [List.length_map] at k
      exact atm_k k r st (.int _)
    | _ => cases e
  | list =>
    cases d with
    | lst xs =>
      cases hb
      obtain ⟨a, vs, rfl, h, hp⟩ := vx.as_lst
      exact .inl ⟨a, vs, rfl, .inl (SqL.of h), fun l hl => kont_ow k r st hl (.lst upd_same hp)⟩
    | tup xs =>
      cases hb
      obtain ⟨a, vs, rfl, h, hp, _⟩ := vx.as_tup
      exact .inl ⟨a, vs, rfl, .inr (SqT.of h), fun l hl => kont_ow k r st hl (.lst upd_same hp)⟩
    | scr ns =>
      cases hb
      obtain ⟨a, rfl, h⟩ := vx.as_scr
      exact .inl ⟨a, _, rfl, .inl h, fun l hl => kont_ow k r st hl (.lst upd_same (at_ints ns))⟩
    | dct ks xs =>
      cases hb
      obtain ⟨a, kvs, rfl, h, hk, hp⟩ := vx.as_dct
      refine .inr ⟨a, kvs, rfl, h, fun l hl => ?_⟩
      subst hk
      refine kont_ow k r st hl (.lst upd_same ?_)
      have := at_keys (K := R.K) (G := FN R.H0 F true) (kvs.map (·.1))
      rw [List.map_map] at this
      exact this
    | _ => cases hb
  | tuple =>
    cases d with
    | lst xs =>
      cases hb
      obtain ⟨a, vs, rfl, h, hp⟩ := vx.as_lst
      exact ⟨a, vs, rfl, .inl ⟨SqL.of h, fun l hl => kont_tup k r st hl hp⟩⟩
    | tup xs =>
      cases hb
      obtain ⟨a, vs, rfl, h, hp, ha⟩ := vx.as_tup
      exact ⟨a, vs, rfl, .inr ⟨SqT.of h, kont_fr k r st ha⟩⟩
    | _ => cases hb
  | all =>
    cases d with
    | lst xs =>
      have e : (blsD xs).map (fun bs => atm (.bl (bs.all id))) = some s := hb
      cases q : blsD xs with
      | none => rw [q] at e; cases e
      | some bs =>
        rw [q] at e
        cases e
        obtain ⟨a, vs, rfl, h, hp⟩ := vx.as_lst
        rw [blsD_of at_bl hp q] at h
        exact ⟨a, bs, rfl, SqL.of h, atm_k k r st (.bl _)⟩
    | _ => cases hb
  | any =>
    cases d with
    | lst xs =>
      have e : (blsD xs).map (fun bs => atm (.bl (bs.any id))) = some s := hb
      cases q : blsD xs with
      | none => rw [q] at e; cases e
      | some bs =>
        rw [q] at e
        cases e
        obtain ⟨a, vs, rfl, h, hp⟩ := vx.as_lst
        rw [blsD_of at_bl hp q] at h
        exact ⟨a, bs, rfl, SqL.of h, atm_k k r st (.bl _)⟩
    | _ => cases hb
  | sum =>
    cases d with
    | lst xs =>
      have e : (intsD xs).map (fun ns => atm (.int ns.sum)) = some s := hb
      cases q : intsD xs with
      | none => rw [q] at e; cases e
      | some bs =>
        rw [q] at e
        cases e
        obtain ⟨a, vs, rfl, h, hp⟩ := vx.as_lst
        rw [intsD_of at_int hp q] at h
        exact ⟨a, bs, rfl, SqL.of h, atm_k k r st (.int _)⟩
    | _ => cases hb
  | max1 =>
    cases d with
    | lst xs =>
      have e : ((intsD xs).bind fun ns => (ns.max?).map fun m => atm (.int m)) = some s := hb
      cases q : intsD xs with
      | none => rw [q] at e; cases e
      | some bs =>
        rw [q] at e
        have e2 : (bs.max?).map (fun m => atm (.int m)) = some s := e
        cases q2 : bs.max? with
        | none => rw [q2] at e2; cases e2
        | some m =>
          rw [q2] at e2
          cases e2
          obtain ⟨a, vs, rfl, h, hp⟩ := vx.as_lst
          rw [intsD_of at_int hp q] at h
          obtain ⟨h1, h2⟩ := max_eq q2
          refine ⟨a, bs, rfl, SqL.of h, h1, fun m' h3 h4 => ?_⟩
          rw [h2 m' h3 h4]
          exact atm_k k r st (.int _)
    | _ => cases hb
  | max2 => cases hb
  | min2 => cases hb
  | abs =>
    cases d with
    | int i =>
      cases hb
      exact ⟨i, by rw [vx.as_int], atm_k k r st (.int _)⟩
    | _ => cases hb
  | int =>
    cases d with
    | int i =>
      cases hb
      exact .inl ⟨i, by rw [vx.as_int], atm_k k r st (.int _)⟩
    | bl i =>
      cases hb
      exact .inr ⟨i, by rw [vx.as_bl], atm_k k r st (.int _)⟩
    | _ => cases hb
theorem res_bi (b : BI) : ResL R (rBI b R.K) (biD b) := by
  intro xs ss s F H g σ g0 F0 H0 Q r st hv hb k
  match ss, hb with
  | [sx], hb =>
    obtain ⟨x, rfl, vx⟩ := paired1 hv
    exact res_bi1 b x sx s hb F H g σ g0 F0 H0 Q r st vx k
  | [sx, sy], hb =>
    obtain ⟨x, y, rfl, vx, vy⟩ := paired2 hv
    obtain ⟨dx, mx, nx⟩ := sx
    obtain ⟨dy, my, ny⟩ := sy
    cases b with
    | max2 =>
      cases dx with
      | int i =>
        cases dy with
        | int j =>
          cases hb
          exact ⟨i, j, by rw [vx.as_int, vy.as_int], atm_k k r st (.int _)⟩
        | _ => cases hb
      | _ => cases hb
    | min2 =>
      cases dx with
      | int i =>
        cases dy with
        | int j =>
          cases hb
          exact ⟨i, j, by rw [vx.as_int, vy.as_int], atm_k k r st (.int _)⟩
        | _ => cases hb
      | _ => cases hb
    | _ => cases hb
  | [], hb => cases b <;> cases hb
  | _ :: _ :: _ :: _, hb => cases b <;> cases hb
end
end Y
set_option Elab.async false
set_option linter.all false
set_option maxRecDepth 100000
set_option maxHeartbeats 2000000
namespace Y
open PySem PySem.Spec L2
/-! ### lists of expressions -/
def TV_ (R : Fr) (W : XK) (ev : G → M (List Sl × G)) : TA := fun σ H Q => ∃ F g, Rel R F g σ H ∧
  wp (ev g) (fun (ss, g') => ∀ vs F' H', Rel R F' g' σ H' → Step g σ F H g' F' H' → Paired (fun v (s : Sl) => At R.K (FN R.H0 F' s.n) v s.d) vs ss → Q vs H') (ExW R W)
def TOs_ (R : Fr) (W : XK) (ev : G → M (List Op × G)) : TA := fun σ H Q => ∃ F g, Rel R F g σ H ∧
  wp (ev g) (fun (os, g') => ∀ vs F' H', Rel R F' g' σ H' → Step g σ F H g' F' H' → Paired (fun v o => OpAt R F' σ v o) vs os → Q vs H') (ExW R W)
section
variable {X : Cx} {R : Fr} {W : XK} {E : Ev} {e : Expr} {es : List Expr} {c : C} {cs : List C}
theorem pa_v_nil : PA X [] (TV_ R W (evV E [])) := PA.imp pa_nil fun σ H Q ⟨F, g, r, q⟩ => q [] F H r (Step.refl g σ F H) .nil
theorem pa_v_cons (h : PE X e (TE_ R W (evE E c))) (hs : PA X es (TV_ R W (evV E cs))) (st : starEach (e :: es) X.env = (false, eval e X.env) :: starEach es X.env) : PA X (e :: es) (TV_ R W (evV E (c :: cs))) := by
  refine PA.imp (pa_cons (pe_frz h) hs st) fun σ H Q ⟨F, g, r, q⟩ => ?_
  refine ⟨F, g, r, wp_mono (wp_bnd q) (fun (s, g1) q1 v F1 H1 r1 st1 h1 => ⟨F1, g1, r1, wp_mono (wp_bnd q1) (fun (ss, g2) q2 vs F2 H2 r2 st2 h2 => ?_) fun _ z => z⟩) fun _ z => z⟩
  exact q2 (v :: vs) F2 H2 r2 (st1.trans st2) (.cons (At.mono (FN_mono st2.exF) _ _ h1) h2)
theorem pa_o_nil : PA X [] (TOs_ R W (evOs E [])) := PA.imp pa_nil fun σ H Q ⟨F, g, r, q⟩ => q [] F H r (Step.refl g σ F H) .nil
theorem pa_o_cons (h : PE X e (TO_ R W (opd c (evE E c)))) (hs : PA X es (TOs_ R W (evOs E cs))) (st : starEach (e :: es) X.env = (false, eval e X.env) :: starEach es X.env) : PA X (e :: es) (TOs_ R W (evOs E (c :: cs))) := by
  refine PA.imp (pa_cons h hs st) fun σ H Q ⟨F, g, r, q⟩ => ?_
  refine ⟨F, g, r, wp_mono (wp_bnd q) (fun (s, g1) q1 v F1 H1 r1 st1 h1 => ⟨F1, g1, r1, wp_mono (wp_bnd q1) (fun (ss, g2) q2 vs F2 H2 r2 st2 h2 => ?_) fun _ z => z⟩) fun _ z => z⟩
  exact q2 (v :: vs) F2 H2 r2 (st1.trans st2) (.cons (h1.mono st2.exF) h2)
theorem ats_ds {F : Hp} : ∀ {vs : List V} {ss : List Sl}, Paired (fun v (s : Sl) => At R.K (FN R.H0 F s.n) v s.d) vs ss → Paired (At R.K (FN R.H0 F (ss.all (·.n)))) vs (dsL ss)
  | _, _, .nil => .nil
  | _, _, .cons h t => by
    rename_i a b l1 l2
    refine .cons (At.mono (FN_imp fun z => ?_) _ _ h) (atL_mono (FN_imp fun z => ?_) _ _ (ats_ds t))
    · rw [List.all_cons, Bool.and_eq_true] at z; exact z.1
    · rw [List.all_cons, Bool.and_eq_true] at z; exact z.2
theorem dsL_length (ss : List Sl) : (dsL ss).length = ss.length := List.length_map _
variable {pos : Pos}
theorem pe_tup_ {k : Nat} (h : PA X es (TV_ R W (evV E cs))) : PE X (.Tuple es k pos) (TE_ R W (evE E (.tup cs))) := by
  refine PE.imp (pe_tup h) fun σ H Q ⟨F, g, r, q⟩ => ⟨F, g, r, wp_mono (wp_bnd q) (fun (ss, g1) q1 vs F1 H1 r1 st1 h1 => ?_) fun _ z => z⟩
  dsimp only at q1
  split at q1
  · rename_i hl
    exact ⟨by rw [h1.length]; exact lim_size hl, fun p hp => kont_tup q1 r1 st1 hp (ats_ds h1)⟩
  · exact q1.elim
theorem pe_lst_ (h : PA X es (TV_ R W (evV E cs))) : PE X (.List es pos) (TE_ R W (evE E (.lst cs))) := by
  refine PE.imp (pe_lst h) fun σ H Q ⟨F, g, r, q⟩ => ⟨F, g, r, wp_mono (wp_bnd q) (fun (ss, g1) q1 vs F1 H1 r1 st1 h1 => ?_) fun _ z => z⟩
  dsimp only at q1
  split at q1
  · rename_i hl
    exact ⟨by rw [h1.length]; exact lim_size hl, fun p hp => kont_ow q1 r1 st1 hp (.lst upd_same (ats_ds h1))⟩
  · exact q1.elim
theorem pe_dnew_ : PE X (.Dict [] [] pos) (TE_ R W (evE E .dnew)) := PE.imp pe_dnewK fun σ H Q ⟨F, g, r, q⟩ p hp => kont_ow q r (Step.refl g σ F H) hp (.dct upd_same rfl .nil)
theorem pe_dnewT_ : PE X (.Dict [] [] pos) (TE_ R W (evE E .dnewT)) := PE.imp pe_dnewT fun σ H Q ⟨F, g, r, q⟩ p hp => kont_ow q r (Step.refl g σ F H) hp (.dctT upd_same rfl .nil)
/-! ### atoms, names -/
theorem pe_c_ {v : V} {d : D} (h : PE X e (tC v)) (hv : At R.K (fun _ => none) v d) (he : evE E c = fun g => some (.ok (atm d, g))) : PE X e (TE_ R W (evE E c)) := PE.imp h fun σ H Q ⟨F, g, r, q⟩ => by
  rw [he] at q
  exact kont_fr q r (Step.refl g σ F H) (At.mono (fun b o z => by cases z) _ _ hv)
theorem pe_int_ {i : Int} {j} : PE X (.Constant (.int i) j pos) (TE_ R W (evE E (.int i))) := pe_c_ pe_int (.int i) rfl
theorem pe_str_ {i : Str} {j} : PE X (.Constant (.str i) j pos) (TE_ R W (evE E (.str i))) := pe_c_ pe_str (.str i) rfl
theorem pe_bl_ {i : Bool} {j} : PE X (.Constant (.bool i) j pos) (TE_ R W (evE E (.bl i))) := pe_c_ pe_bl (.bl i) rfl
theorem pe_non_ {j} : PE X (.Constant .none j pos) (TE_ R W (evE E .non)) := pe_c_ pe_non .non rfl
/-- the module's constants -/
def ConOk (E : Ev) (mg : Str → Option Value) : Prop := ∀ x d, E.con x = some d → ∃ u v, mg x = some u ∧ RelV v u ∧ At R.K (fun _ => none) v d
theorem pe_con_ {x : Str} (hE : ConOk (R := R) E X.mg) (hg : Gl X x) (hd : (x == ("__debug__" : Str)) = false) (hx : (E.con x).isSome = true) : PE X (.Name x pos) (TE_ R W (evE E (.con x))) := by
  cases q : E.con x with
  | none => rw [q] at hx; cases hx
  | some d =>
    obtain ⟨u, v, h1, h2, h3⟩ := hE x d q
    refine PE.imp (pe_glob hg h1 h2 hd) fun σ H Q ⟨F, g, r, k⟩ => ?_
    have k' : wp (match E.con x with | some d => if d.atom then some (.ok (atm d, g)) else none | none => none) (fun (s, g') => ∀ v F' H', Rel R F' g' σ H' → Step g σ F H g' F' H' → ResAt R g' σ H F' H' v s → Q v H') (ExW R W) := k
    rw [q] at k'
    dsimp only at k'
    split at k'
    · exact kont_fr k' r (Step.refl g σ F H) (At.mono (fun b o z => by cases z) _ _ h3)
    · exact k'.elim
theorem G.get_put_self {g : G} {i : Nat} {s t : Sl} (h : g.get i = some t) : (g.put i s).get i = some s := by
  unfold G.get G.put at *
  have hi : i < g.length := by
    cases q : g[i]? with
    | none => rw [q] at h; cases h
    | some o => exact (List.getElem?_eq_some_iff.mp q).1
  rw [List.getElem?_set_self hi]
  rfl
theorem G.get_put_ne {g : G} {i j : Nat} {s : Sl} (h : j ≠ i) : (g.put i s).get j = g.get j := by
  unfold G.get G.put
  rw [List.getElem?_set_ne (Ne.symm h)]
theorem G.put_len {g : G} {i : Nat} {s : Sl} : (g.put i s).length = g.length := List.length_set
theorem Own.put_le {g : G} {σ : L2.St} {i : Nat} {s t : Sl} {b : Addr} (h : g.get i = some t) (hm : s.m ≠ .fr → t.m ≠ .fr) (o : Own (g.put i s) σ b) : Own g σ b := by
  obtain ⟨j, u, h1, h2, h3⟩ := o
  by_cases e : j = i
  · subst e
    rw [G.get_put_self h] at h1
    cases h1
    exact ⟨j, t, h, hm h2, h3⟩
  · rw [G.get_put_ne e] at h1
    exact ⟨j, u, h1, h2, h3⟩
/-- a slot's own object given up -/
theorem Rel.give {F H : Hp} {g : G} {σ : L2.St} {i : Nat} {d : D} {n : Bool} {v : V} (r : Rel R F g σ H) (hi : g.get i = some ⟨d, .ow, n⟩) (hv : σ[i]? = some (some v)) :
    ∃ F', Rel R F' (g.put i ⟨d, .fr, n⟩) σ H ∧ Step g σ F H (g.put i ⟨d, .fr, n⟩) F' H ∧ At R.K (FN R.H0 F' n) v d := by
  obtain ⟨v', h1, h2⟩ := r.at_ i _ hi
  rw [hv] at h1
  cases h1
  obtain ⟨p, rfl, h3, h4, h5⟩ := h2
  obtain ⟨u, hu⟩ := h5.is
  have hs : Same F (upd F p u) := same_upd h3
  have hat : At R.K (FN R.H0 (upd F p u) n) (.ref p) d := h5.at (FN_mono hs) (by rw [FN_new h4, upd_same, hu])
  refine ⟨upd F p u, ⟨r.len.trans G.put_len.symm, fun j s hj => ?_, fun a b s t q ha hb hsm htm hpa hpb => ?_, fun b o z => ?_, r.keep, r.there, r.ios, fun q hq => ?_⟩, ⟨hs, fun _ _ z _ => z, fun b h6 h7 h8 => ?_, fun b o => o.put_le hi (fun z => absurd rfl z), fun _ z => z⟩, hat⟩
  · by_cases e : j = i
    · subst e
      rw [G.get_put_self hi] at hj
      cases hj
      exact ⟨.ref p, hv, hat⟩
    · rw [G.get_put_ne e] at hj
      obtain ⟨w, h6, h7⟩ := r.at_ j s hj
      refine ⟨w, h6, slAt_mono h7 hs (fun hm q eq z => ?_) fun _ _ _ => rfl⟩
      subst eq
      rw [upd_ne (fun eq => e (r.dis j i s _ p hj hi hm (by simp) (by rw [h6, eq]) hv))]
      exact z
  · have ha' : ∃ s', g.get a = some s' ∧ s'.m ≠ .fr := by
      by_cases e : a = i
      · subst e; exact ⟨_, hi, by simp⟩
      · rw [G.get_put_ne e] at ha; exact ⟨s, ha, hsm⟩
    have hb' : ∃ s', g.get b = some s' ∧ s'.m ≠ .fr := by
      by_cases e : b = i
      · subst e; exact ⟨_, hi, by simp⟩
      · rw [G.get_put_ne e] at hb; exact ⟨t, hb, htm⟩
    obtain ⟨s', a1, a2⟩ := ha'
    obtain ⟨t', b1, b2⟩ := hb'
    exact r.dis a b s' t' q a1 b1 a2 b2 hpa hpb
  · by_cases hb : b = p
    · subst hb; rw [upd_same] at z; cases z; exact hu
    · rw [upd_ne hb] at z; exact r.ex b o z
  · obtain ⟨s, h6, h7, h8⟩ := r.iog q hq
    have e : q.1 ≠ i := fun e => by rw [e, hi] at h6; cases h6; cases h7
    exact ⟨s, by rw [G.get_put_ne e]; exact h6, h7, h8⟩
  · rw [upd_ne (fun e => h8 (by rw [e]; exact ⟨i, _, hi, by simp, hv⟩))]
    exact h6
theorem pe_var_ {x : Str} {i : Nat} (h : PE X (.Name x pos) (tVar i)) : PE X (.Name x pos) (TE_ R W (evE E (.var i))) := PE.imp h fun σ H Q ⟨F, g, r, q⟩ => by
  have q' : wp (takeV g i) (fun (s, g') => ∀ v F' H', Rel R F' g' σ H' → Step g σ F H g' F' H' → ResAt R g' σ H F' H' v s → Q v H') (ExW R W) := q
  unfold takeV at q'
  cases e : g.get i with
  | none => rw [e] at q'; exact q'.elim
  | some s =>
    rw [e] at q'
    obtain ⟨v, h1, h2⟩ := r.at_ i s e
    obtain ⟨d, m, n⟩ := s
    refine ⟨v, h1, ?_⟩
    cases m with
    | fr => exact kont_fr q' r (Step.refl g σ F H) (At.sub h2)
    | ow =>
      obtain ⟨F', r', st', hat⟩ := r.give e h1
      exact kont_fr q' r' st' hat
    | io => exact q'.elim
end
end Y
set_option Elab.async false
set_option linter.all false
set_option maxRecDepth 100000
set_option maxHeartbeats 2000000
namespace Y
open PySem PySem.Spec L2
def TT_ (R : Fr) (W : XK) (ev : G → M (Bool × G)) : TT := fun σ H Q => ∃ F g, Rel R F g σ H ∧
  wp (ev g) (fun (k, g') => ∀ F' H', Rel R F' g' σ H' → Step g σ F H g' F' H' → Q k H') (ExW R W)
section
variable {X : Cx} {R : Fr} {W : XK} {E : Ev} {e a b : Expr} {es : List Expr} {c ca cb : C} {cs : List C} {pos : Pos} {F H : Hp} {g : G} {σ : L2.St}
theorem truth_of {K : PySem.W.Frag} {x : V} {d : D} {k : Bool} (v : View K F H x d) (e : d.truth = some k) : TruV K x H k := by
  cases d with
  | non => cases e; rw [v.as_non]; rfl
  | bl b => cases e; rw [v.as_bl]; rfl
  | int b => cases e; rw [v.as_int]; rfl
  | str z =>
    have e' : (if z.length ≤ lim then some ((z.length : Int) != 0) else none) = some k := e
    split at e'
    · rename_i hl
      cases e'
      rw [v.as_str]
      exact ⟨lim_size hl, rfl⟩
    · cases e'
  | scr ns =>
    cases e
    obtain ⟨a, rfl, h⟩ := v.as_scr
    refine .inl ⟨_, h, ?_⟩
    cases ns <;> rfl
  | lst xs =>
    cases e
    obtain ⟨a, vs, rfl, h, hp⟩ := v.as_lst
    refine .inl ⟨_, SqL.of h, ?_⟩
    cases hp <;> rfl
  | tup xs =>
    cases e
    obtain ⟨a, vs, rfl, h, hp, _⟩ := v.as_tup
    refine .inr (.inl ⟨_, SqT.of h, ?_⟩)
    cases hp <;> rfl
  | _ => cases e
/-- a test by the value's truth -/
theorem pt_plain {ev : G → M (Sl × G)} (h : PE X e (TO_ R W (opd c ev))) (hK : X.K = R.K) (he : ∀ whole, isTrue e X.env whole = (do let v ← whole; standAt e.pos; holding [v] (truthy v))) : PT X e (TT_ R W (tst c ev)) := by
  refine PT.imp (pt_truth h he) fun σ H Q ⟨F, g, r, q⟩ => ⟨F, g, r, wp_mono (wp_bnd q) (fun (o, g1) q1 v F1 H1 r1 st1 h1 => ?_) fun _ z => z⟩
  cases e1 : o.get g1 with
  | none => simp only [e1] at q1; exact q1.elim
  | some s =>
    simp only [e1] at q1
    cases e2 : s.d.truth with
    | none => simp only [e2] at q1; exact q1.elim
    | some k =>
      simp only [e2] at q1
      rw [hK]
      exact ⟨k, truth_of (h1.view r1 e1) e2, q1 F1 H1 r1 st1⟩
/-- a test of an expression that gives a truth -/
theorem tt_te {ev : G → M (Sl × G)} (hc : ∀ i, c ≠ .var i) (hb : ∀ g s g', ev g = some (.ok (s, g')) → ∃ k, s = atm (.bl k)) {Q : Bool → Hp → Prop} (q : TT_ R W (tst c ev) σ H Q) : TE_ R W ev σ H (fun x H' => ∃ k, x = .bl k ∧ Q k H') := by
  obtain ⟨F, g, r, q⟩ := q
  have h1 : opd c ev = fun g => M.bnd (ev g) fun (s, g1) => some (.ok (.val s.frz, g1)) := by
    funext g
    cases c <;> first | rfl | exact absurd rfl (hc _)
  refine ⟨F, g, r, ?_⟩
  have q1 := wp_bnd q
  rw [h1] at q1
  have q2 := wp_bnd q1
  cases e : ev g with
  | none => rw [e] at q2; exact q2
  | some o =>
    rw [e] at q2
    cases o with
    | ex c => exact q2
    | ok sg =>
      obtain ⟨s, g1⟩ := sg
      obtain ⟨k, rfl⟩ := hb _ _ _ e
      have q3 : ∀ F' H', Rel R F' g1 σ H' → Step g σ F H g1 F' H' → Q k H' := q2
      show ∀ v F' H', Rel R F' g1 σ H' → Step g σ F H g1 F' H' → ResAt R g1 σ H F' H' v (atm (.bl k)) → ∃ k', v = .bl k' ∧ Q k' H'
      intro v F' H' r' st' h
      have h' : At R.K (FN R.H0 F' true) v (.bl k) := h
      cases h'
      exact ⟨k, rfl, q3 F' H' r' st'⟩
/-- .. a test by tst is what the value says -/
theorem tst_bl {F H : Hp} (r : Rel R F g σ H) {s : Sl} {g1 : G} {k : Bool} (e : evE E c g = some (.ok (s, g1))) (hs : s.d = .bl k) : tst c (evE E c) g = some (.ok (k, g1)) := by
  by_cases hc : ∃ i, c = .var i
  · obtain ⟨i, rfl⟩ := hc
    have e' : takeV g i = some (.ok (s, g1)) := e
    unfold takeV at e'
    cases q : g.get i with
    | none => rw [q] at e'; cases e'
    | some t =>
      rw [q] at e'
      obtain ⟨v, h1, h2⟩ := r.at_ i t q
      obtain ⟨d, m, n⟩ := t
      cases m with
      | fr =>
        cases e'
        unfold tst opd
        simp only [q, bnd_ok]
        unfold Op.get
        have hd : d = .bl k := hs
        subst hd
        simp only [q, Option.map_some]
        rfl
      | ow =>
        cases e'
        have hd : d = .bl k := hs
        subst hd
        obtain ⟨p, _, _, _, h3⟩ := h2
        cases h3
      | io => cases e'
  · have h1 : opd c (evE E c) = fun g => M.bnd (evE E c g) fun (s, g1) => some (.ok (.val s.frz, g1)) := by
      funext g
      cases c <;> first | rfl | exact absurd ⟨_, rfl⟩ hc
    obtain ⟨d, m, n⟩ := s
    have hd : d = .bl k := hs
    subst hd
    unfold tst
    rw [h1]
    simp only [e, bnd_ok]
    rfl
/-! ### operations as expressions -/
theorem pe_bin_ {op : BOp} {o : Operator} (ho : o = op.py) (hK : X.K = R.K) (ha : PE X a (TO_ R W (opd ca (evE E ca)))) (hb : PE X b (TO_ R W (opd cb (evE E cb)))) : PE X (.BinOp a o b pos) (TE_ R W (evE E (.bin op ca cb))) := by
  subst ho
  exact PE.imp (pe_op (op_bin op) ha hb) fun σ H Q q => imp_op2 (by rw [hK]; exact res_bin op) q
theorem pe_neg_ (ha : PE X a (TO_ R W (opd ca (evE E ca)))) : PE X (.UnaryOp .USub a pos) (TE_ R W (evE E (.neg ca))) :=
  PE.imp (pe_un un_neg ha) fun σ H Q q => imp_op1 res_neg q
theorem pe_cmp_ {op : KOp} {o : CmpOp} (ho : o = op.py) (hu : X.A.units + 65 < cLine) (hK : X.K = R.K) (ha : PE X a (TO_ R W (opd ca (evE E ca)))) (hb : PE X b (TO_ R W (opd cb (evE E cb)))) (hm : behindInMarks o b = false) : PE X (.Compare a [o] [b] pos) (TE_ R W (evE E (.cmp op ca cb))) := by
  subst ho
  exact PE.imp (pe_cmpR (op_cmp hu op) ha hb hm) fun σ H Q q => imp_op2 (by rw [hK]; exact res_cmp op) q
theorem op2_bl {op : KOp} {ea eb : G → M (Sl × G)} (g : G) (s : Sl) (g' : G) (e : op2 ca cb ea eb (cmpS op) g = some (.ok (s, g'))) : ∃ k, s = atm (.bl k) := by
  unfold op2 at e
  cases e1 : opd ca ea g with
  | none => rw [e1] at e; cases e
  | some o =>
    cases o with
    | ex c => rw [e1] at e; cases e
    | ok p =>
      obtain ⟨oa, g1⟩ := p
      rw [e1] at e
      simp only [bnd_ok] at e
      cases e2 : opd cb eb g1 with
      | none => rw [e2] at e; cases e
      | some o =>
        cases o with
        | ex c => rw [e2] at e; cases e
        | ok p =>
          obtain ⟨ob, g2⟩ := p
          rw [e2] at e
          simp only [bnd_ok] at e
          split at e
          · split at e
            · rename_i h
              cases e
              unfold cmpS at h
              rename_i x y _ _ _
              cases q : D.cmp op x.d y.d with
              | none => rw [q] at h; cases h
              | some k => rw [q] at h; cases h; exact ⟨k, rfl⟩
            · cases e
          · cases e
theorem pt_cmp_ {op : KOp} {o : CmpOp} (ho : o = op.py) (hu : X.A.units + 65 < cLine) (hK : X.K = R.K) (ha : PE X a (TO_ R W (opd ca (evE E ca)))) (hb : PE X b (TO_ R W (opd cb (evE E cb)))) (hm : behindInMarks o b = false) : PT X (.Compare a [o] [b] pos) (TT_ R W (tst (.cmp op ca cb) (evE E (.cmp op ca cb)))) := by
  subst ho
  refine PT.imp (pt_cmpR (op_cmp hu op) ha hb hm) fun σ H Q q => ?_
  exact imp_op2 (by rw [hK]; exact res_cmp op) (tt_te (fun i z => by cases z) (fun g s g' e => op2_bl g s g' e) q)
theorem pe_idx_ (hu : X.A.units + 65 < cLine) (hK : X.K = R.K) (ha : PE X a (TO_ R W (opd ca (evE E ca)))) (hb : PE X b (TO_ R W (opd cb (evE E cb)))) (hp : PlainIx b) : PE X (.Subscript a b pos) (TE_ R W (evE E (.idx ca cb))) :=
  PE.imp (pe_ix (ix_seq.or (ix_dict (by omega))) ha hb hp) fun σ H Q q => imp_op2 (f := idxS) (by rw [hK]; exact res_idx) q
theorem pe_att_ {f : Str} (hE : AttOk R.K E) (hK : X.K = R.K) (ha : PE X a (TO_ R W (opd ca (evE E ca)))) (hb : attributeBase a f X.env (eval a X.env) = eval a X.env) : PE X (.Attribute a f pos) (TE_ R W (evE E (.att ca f))) :=
  PE.imp (pe_fld ha hb) fun σ H Q q => imp_op1 (r := rAtt X.K f) (by rw [hK]; exact res_att hE f) q
theorem pe_rev_ {k : Nat} {p1 p2 p3 : Pos} (ha : PE X a (TO_ R W (opd ca (evE E ca)))) : PE X (.Subscript a (.Slice none none (some (.UnaryOp .USub (.Constant (.int 1) k p1) p2)) p3) pos) (TE_ R W (evE E (.rev ca))) := by
  refine PE.imp (pe_revL ha) fun σ H Q q => ?_
  have := imp_op1 (r := rRev) res_rev q
  refine ⟨this.choose, this.choose_spec.choose, this.choose_spec.choose_spec.1, wp_mono this.choose_spec.choose_spec.2 (fun (o, g1) k v F' H' r st h => ?_) fun _ z => z⟩
  obtain ⟨p, xs, h1, h2, h3⟩ := k v F' H' r st h
  exact ⟨p, xs, h1, SqL.of h2, h3⟩
end
end Y
set_option Elab.async false
set_option linter.all false
set_option maxRecDepth 100000
set_option maxHeartbeats 2000000
namespace Y
open PySem PySem.Spec L2
theorem ResAt.before {R : Fr} {g g1 g2 : G} {σ : L2.St} {F H F1 H1 F2 H2 : Hp} {v : V} {s : Sl} (h : ResAt R g2 σ H1 F2 H2 v s) (st : Step g σ F H g1 F1 H1) : ResAt R g2 σ H F2 H2 v s := by
  obtain ⟨d, m, n⟩ := s
  cases m with
  | fr => exact h
  | ow =>
    obtain ⟨p, rfl, h1, h2⟩ := h
    exact ⟨p, rfl, st.gone h1, h2⟩
  | io => exact h
section
variable {X : Cx} {R : Fr} {W : XK} {E : Ev} {e a b d : Expr} {es : List Expr} {c ca cb cc ct : C} {cs : List C} {pos : Pos} {F H : Hp} {g : G} {σ : L2.St}
/-- going on with an expression behind a step -/
theorem te_on {ev : G → M (Sl × G)} {Q : VK} {F1 H1 : Hp} {g1 : G} (r1 : Rel R F1 g1 σ H1) (st1 : Step g σ F H g1 F1 H1)
    (q : wp (ev g1) (fun (s, g') => ∀ v F' H', Rel R F' g' σ H' → Step g σ F H g' F' H' → ResAt R g' σ H F' H' v s → Q v H') (ExW R W)) : TE_ R W ev σ H1 Q :=
  ⟨F1, g1, r1, wp_mono q (fun (t, g2) k w F2 H2 r2 st2 h2 => k w F2 H2 r2 (st1.trans st2) (h2.before st1)) fun _ z => z⟩
theorem to_on {ev : G → M (Op × G)} {Q : VK} {F1 H1 : Hp} {g1 : G} (r1 : Rel R F1 g1 σ H1) (st1 : Step g σ F H g1 F1 H1)
    (q : wp (ev g1) (fun (s, g') => ∀ v F' H', Rel R F' g' σ H' → Step g σ F H g' F' H' → OpAt R F' σ v s → Q v H') (ExW R W)) : TO_ R W ev σ H1 Q :=
  ⟨F1, g1, r1, wp_mono q (fun (t, g2) k w F2 H2 r2 st2 h2 => k w F2 H2 r2 (st1.trans st2) h2) fun _ z => z⟩
theorem tt_on {ev : G → M (Bool × G)} {Q : Bool → Hp → Prop} {F1 H1 : Hp} {g1 : G} (r1 : Rel R F1 g1 σ H1) (st1 : Step g σ F H g1 F1 H1)
    (q : wp (ev g1) (fun (s, g') => ∀ F' H', Rel R F' g' σ H' → Step g σ F H g' F' H' → Q s H') (ExW R W)) : TT_ R W ev σ H1 Q :=
  ⟨F1, g1, r1, wp_mono q (fun (t, g2) k F2 H2 r2 st2 => k F2 H2 r2 (st1.trans st2)) fun _ z => z⟩
/-! ### and, or, not, if -/
def TB_ (R : Fr) (W : XK) (ev : G → M (Sl × G)) : TE := fun σ H Q => ∃ Q' : Bool → Hp → Prop, (∀ v H', (∃ k, v = V.bl k ∧ Q' k H') → Q v H') ∧ ∃ F g, Rel R F g σ H ∧
  wp (boolE ev g) (fun (k, g') => ∀ F' H', Rel R F' g' σ H' → Step g σ F H g' F' H' → Q' k H') (ExW R W)
theorem pe_bool {ev : G → M (Sl × G)} (h : PE X e (TE_ R W ev)) : PE X e (TB_ R W ev) := by
  refine PE.imp (pe_frz h) fun σ H Q ⟨Q', hq, F, g, r, q⟩ => ⟨F, g, r, wp_mono (wp_bnd q) (fun (s, g1) q1 v F1 H1 r1 st1 h1 => ?_) fun _ z => z⟩
  dsimp only at q1 h1
  split at q1
  · rename_i k hs
    rw [hs] at h1
    cases h1
    exact hq _ _ ⟨k, rfl, q1 F1 H1 r1 st1⟩
  · exact q1.elim
theorem bl_kont {k : Bool} {Q : VK} {g1 : G} {F1 H1 : Hp} (q : Kont R g σ F H (atm (.bl k)) g1 Q) (r1 : Rel R F1 g1 σ H1) (st1 : Step g σ F H g1 F1 H1) : Q (.bl k) H1 := kont_fr q r1 st1 (At.bl _)
theorem pe_and_ {rest : List Expr} (ha : PE X a (TE_ R W (evE E ca))) (hb : PE X (.BoolOp .And (b :: rest) pos) (TE_ R W (evE E cb))) : PE X (.BoolOp .And (a :: b :: rest) pos) (TE_ R W (evE E (.and_ ca cb))) := by
  refine PE.imp (pe_and (pe_bool ha) (pe_bool hb)) fun σ H Q ⟨F, g, r, q⟩ => ?_
  refine ⟨fun k H1 => if k = true then TB_ R W (evE E cb) σ H1 Q else Q (.bl false) H1, fun v H' ⟨k, h1, h2⟩ => ⟨k, h1, h2⟩, F, g, r, wp_mono (wp_bnd q) (fun (k, g1) q1 F1 H1 r1 st1 => ?_) fun _ z => z⟩
  cases k with
  | true => exact ⟨fun k H' => Q (.bl k) H', fun v H' ⟨k, h1, h2⟩ => by rw [h1]; exact h2, F1, g1, r1, wp_mono (wp_bnd q1) (fun (k, g2) q2 F2 H2 r2 st2 => bl_kont q2 r2 (st1.trans st2)) fun _ z => z⟩
  | false => exact bl_kont q1 r1 st1
theorem pe_or_ {rest : List Expr} (ha : PE X a (TE_ R W (evE E ca))) (hb : PE X (.BoolOp .Or (b :: rest) pos) (TE_ R W (evE E cb))) : PE X (.BoolOp .Or (a :: b :: rest) pos) (TE_ R W (evE E (.or_ ca cb))) := by
  refine PE.imp (pe_or (pe_bool ha) (pe_bool hb)) fun σ H Q ⟨F, g, r, q⟩ => ?_
  refine ⟨fun k H1 => if k = true then Q (.bl true) H1 else TB_ R W (evE E cb) σ H1 Q, fun v H' ⟨k, h1, h2⟩ => ⟨k, h1, h2⟩, F, g, r, wp_mono (wp_bnd q) (fun (k, g1) q1 F1 H1 r1 st1 => ?_) fun _ z => z⟩
  cases k with
  | true => exact bl_kont q1 r1 st1
  | false => exact ⟨fun k H' => Q (.bl k) H', fun v H' ⟨k, h1, h2⟩ => by rw [h1]; exact h2, F1, g1, r1, wp_mono (wp_bnd q1) (fun (k, g2) q2 F2 H2 r2 st2 => bl_kont q2 r2 (st1.trans st2)) fun _ z => z⟩
theorem pe_not_ (ha : PE X a (TE_ R W (evE E ca))) : PE X (.UnaryOp .Not a pos) (TE_ R W (evE E (.not_ ca))) := by
  refine PE.imp (pe_not (pe_bool ha)) fun σ H Q ⟨F, g, r, q⟩ => ?_
  exact ⟨fun k H1 => Q (.bl (!k)) H1, fun v H' ⟨k, h1, h2⟩ => ⟨k, h1, h2⟩, F, g, r, wp_mono (wp_bnd q) (fun (k, g1) q1 F1 H1 r1 st1 => bl_kont q1 r1 st1) fun _ z => z⟩
/-- a truth's test -/
theorem wp_tst {F H : Hp} (r : Rel R F g σ H) {D : Bool × G → Prop} {Wx : Str → Prop} (q : wp (boolE (evE E c) g) D Wx) : wp (tst c (evE E c) g) D Wx := by
  have q1 := wp_bnd q
  cases e : evE E c g with
  | none => rw [e] at q1; exact q1.elim
  | some o =>
    rw [e] at q1
    cases o with
    | ok p =>
      obtain ⟨s, g1⟩ := p
      have q2 : wp (match s.d with | .bl k => some (.ok (k, g1)) | _ => none) D Wx := q1
      split at q2
      · rename_i k hs
        rw [tst_bl r e hs]
        exact q2
      · exact q2.elim
    | ex c' =>
      have hc : ¬ ∃ i, c = .var i := fun ⟨i, z⟩ => by
        subst z
        have e' : takeV g i = some (.ex c') := e
        unfold takeV at e'
        split at e' <;> cases e'
      have h1 : opd c (evE E c) = fun g => M.bnd (evE E c g) fun (s, g1) => some (.ok (.val s.frz, g1)) := by
        funext g
        cases c <;> first | rfl | exact absurd ⟨_, rfl⟩ hc
      unfold tst
      rw [h1]
      simp only [e, bnd_ex]
      exact q1
theorem wp_into {α β : Type} {m : M α} {f : α → M β} {C : β → Prop} {Wx : Str → Prop} (h : wp m (fun a => wp (f a) C Wx) Wx) : wp (M.bnd m f) C Wx := by
  cases m with
  | none => exact h
  | some o => cases o <;> exact h
theorem tt_bool {c' : C} {ev : G → M (Sl × G)} (hc : ∀ i, c' ≠ .var i) {k : G → M (Bool × G)} (he : ev = fun g => M.bnd (k g) fun (b, g1) => some (.ok (atm (.bl b), g1))) {Q : Bool → Hp → Prop} (q : TT_ R W (tst c' ev) σ H Q) :
    ∃ F g, Rel R F g σ H ∧ wp (k g) (fun (b, g') => ∀ F' H', Rel R F' g' σ H' → Step g σ F H g' F' H' → Q b H') (ExW R W) := by
  obtain ⟨F, g, r, q⟩ := q
  have h1 : opd c' ev = fun g => M.bnd (ev g) fun (s, g1) => some (.ok (.val s.frz, g1)) := by
    funext g
    cases c' <;> first | rfl | exact absurd rfl (hc _)
  refine ⟨F, g, r, ?_⟩
  have q1 := wp_bnd q
  rw [h1] at q1
  have q2 := wp_bnd q1
  rw [he] at q2
  exact wp_mono (wp_bnd q2) (fun (b, g1) z => z) fun _ z => z
theorem and_form : evE E (.and_ ca cb) = fun g => M.bnd (M.bnd (boolE (evE E ca) g) fun (k, g1) => if k then boolE (evE E cb) g1 else some (.ok (false, g1))) fun (b, g1) => some (.ok (atm (.bl b), g1)) := by
  funext g
  show M.bnd (boolE (evE E ca) g) _ = _
  cases boolE (evE E ca) g with
  | none => rfl
  | some o =>
    cases o with
    | ex c => rfl
    | ok p =>
      obtain ⟨k, g1⟩ := p
      cases k <;> rfl
theorem or_form : evE E (.or_ ca cb) = fun g => M.bnd (M.bnd (boolE (evE E ca) g) fun (k, g1) => if k then some (.ok (true, g1)) else boolE (evE E cb) g1) fun (b, g1) => some (.ok (atm (.bl b), g1)) := by
  funext g
  show M.bnd (boolE (evE E ca) g) _ = _
  cases boolE (evE E ca) g with
  | none => rfl
  | some o =>
    cases o with
    | ex c => rfl
    | ok p =>
      obtain ⟨k, g1⟩ := p
      cases k <;> rfl
theorem not_form : evE E (.not_ ca) = fun g => M.bnd (M.bnd (boolE (evE E ca) g) fun (k, g1) => some (.ok (!k, g1))) fun (b, g1) => some (.ok (atm (.bl b), g1)) := by
  funext g
  show M.bnd (boolE (evE E ca) g) _ = _
  cases boolE (evE E ca) g with
  | none => rfl
  | some o =>
    cases o with
    | ex c => rfl
    | ok p => rfl
theorem pw_and_ {rest : List Expr} (ha : PT X a (TT_ R W (tst ca (evE E ca)))) (hb : PW X (.BoolOp .And (b :: rest) pos) (TT_ R W (tst cb (evE E cb)))) : PW X (.BoolOp .And (a :: b :: rest) pos) (TT_ R W (tst (.and_ ca cb) (evE E (.and_ ca cb)))) := by
  refine PW.imp (pw_and ha hb) fun σ H Q q => ?_
  obtain ⟨F, g, r, q⟩ := tt_bool (fun i z => by cases z) and_form q
  refine ⟨F, g, r, wp_tst r (wp_mono (wp_bnd q) (fun (k, g1) q1 F1 H1 r1 st1 => ?_) fun _ z => z)⟩
  cases k with
  | true => exact tt_on r1 st1 (wp_tst r1 q1)
  | false => exact q1 F1 H1 r1 st1
theorem pw_or_ {rest : List Expr} (ha : PT X a (TT_ R W (tst ca (evE E ca)))) (hb : PW X (.BoolOp .Or (b :: rest) pos) (TT_ R W (tst cb (evE E cb)))) : PW X (.BoolOp .Or (a :: b :: rest) pos) (TT_ R W (tst (.or_ ca cb) (evE E (.or_ ca cb)))) := by
  refine PW.imp (pw_or ha hb) fun σ H Q q => ?_
  obtain ⟨F, g, r, q⟩ := tt_bool (fun i z => by cases z) or_form q
  refine ⟨F, g, r, wp_tst r (wp_mono (wp_bnd q) (fun (k, g1) q1 F1 H1 r1 st1 => ?_) fun _ z => z)⟩
  cases k with
  | true => exact q1 F1 H1 r1 st1
  | false => exact tt_on r1 st1 (wp_tst r1 q1)
theorem pt_not_ (ha : PT X a (TT_ R W (tst ca (evE E ca)))) : PT X (.UnaryOp .Not a pos) (TT_ R W (tst (.not_ ca) (evE E (.not_ ca)))) := by
  refine PT.imp (pt_not ha) fun σ H Q q => ?_
  obtain ⟨F, g, r, q⟩ := tt_bool (fun i z => by cases z) not_form q
  exact ⟨F, g, r, wp_tst r (wp_mono (wp_bnd q) (fun (k, g1) q1 F1 H1 r1 st1 => q1 F1 H1 r1 st1) fun _ z => z)⟩
theorem pe_ife_ {t : Expr} (ht : PT X t (TT_ R W (tst ct (evE E ct)))) (ha : PE X a (TE_ R W (evE E ca))) (hb : PE X b (TE_ R W (evE E cb))) : PE X (.IfExp t a b pos) (TE_ R W (evE E (.ife ct ca cb))) := by
  refine PE.imp (pe_ifExp ht ha hb) fun σ H Q ⟨F, g, r, q⟩ => ⟨F, g, r, wp_mono (wp_bnd q) (fun (k, g1) q1 F1 H1 r1 st1 => ?_) fun _ z => z⟩
  cases k with
  | true => exact te_on r1 st1 q1
  | false => exact te_on r1 st1 q1
/-! ### a < b < c -/
theorem cmp_cond {op : KOp} {x y : V} {sx sy : Sl} {k : Bool} {F1 H1 : Hp} {g1 : G} {Q : V → Hp → Prop} (r1 : Rel R F1 g1 σ H1) (vx : View R.K (FN R.H0 F1 sx.n) H1 x sx.d) (vy : View R.K (FN R.H0 F1 sy.n) H1 y sy.d) (e : sx.d.cmp op sy.d = some k)
    (q : ∀ F' H', Rel R F' g1 σ H' → Step g1 σ F1 H1 g1 F' H' → Q (.bl k) H') : rCmp op R.K x y H1 Q := by
  refine res_cmp op x y sx sy (atm (.bl k)) F1 H1 g1 σ g1 F1 H1 Q r1 (Step.refl _ _ _ _) vx vy (by unfold cmpS; rw [e]; rfl) fun v F' H' r' st' h => ?_
  have h' : At R.K (FN R.H0 F' true) v (.bl k) := h
  cases h'
  exact q F' H' r' st'
theorem imp_chain {op op' : KOp} {Q : VK} (q : TE_ R W (evE E (.chain op op' ca cb cc)) σ H Q) : tChain (rCmp op R.K) (rCmp op' R.K) (TO_ R W (opd ca (evE E ca))) (TO_ R W (opd cb (evE E cb))) (TO_ R W (opd cc (evE E cc))) σ H Q := by
  obtain ⟨F, g, r, q⟩ := q
  refine ⟨F, g, r, wp_mono (wp_bnd q) (fun (oa, g1) q1 v F1 H1 r1 st1 o1 => ⟨F1, g1, r1, wp_mono (wp_bnd q1) (fun (ob, g2) q2 w F2 H2 r2 st2 o2 => ?_) fun _ z => z⟩) fun _ z => z⟩
  cases e : oa.get g2 with
  | none => simp only [e] at q2; exact q2.elim
  | some x =>
    cases e1 : ob.get g2 with
    | none => simp only [e, e1] at q2; exact q2.elim
    | some y =>
      simp only [e, e1] at q2
      cases e2 : x.d.cmp op y.d with
      | none => simp only [e2] at q2; exact q2.elim
      | some k =>
        simp only [e2] at q2
        refine cmp_cond r2 ((o1.mono st2.exF).view r2 e) (o2.view r2 e1) e2 fun F3 H3 r3 st3 => ⟨k, rfl, ?_⟩
        have st03 := (st1.trans st2).trans st3
        cases k with
        | true =>
          refine ⟨F3, g2, r3, wp_mono (wp_bnd q2) (fun (oc, g4) q4 u F4 H4 r4 st4 o4 => ?_) fun _ z => z⟩
          cases e3 : ob.get g4 with
          | none => simp only [e3] at q4; exact q4.elim
          | some y2 =>
            cases e4 : oc.get g4 with
            | none => simp only [e3, e4] at q4; exact q4.elim
            | some z2 =>
              simp only [e3, e4] at q4
              cases e5 : y2.d.cmp op' z2.d with
              | none => simp only [e5] at q4; exact q4.elim
              | some k2 =>
                simp only [e5] at q4
                exact cmp_cond r4 (((o2.mono st3.exF).mono st4.exF).view r4 e3) (o4.view r4 e4) e5 fun F5 H5 r5 st5 => bl_kont q4 r5 ((st03.trans st4).trans st5)
        | false => exact bl_kont q2 r3 st03
theorem chain_bl {op op' : KOp} (g : G) (s : Sl) (g' : G) (e : evE E (.chain op op' ca cb cc) g = some (.ok (s, g'))) : ∃ k, s = atm (.bl k) := by
  have e' : M.bnd (opd ca (evE E ca) g) (fun (oa, g1) => M.bnd (opd cb (evE E cb) g1) fun (ob, g2) => match oa.get g2, ob.get g2 with
    | some x, some y => match x.d.cmp op y.d with
      | some true => M.bnd (opd cc (evE E cc) g2) fun (oc, g3) => match ob.get g3, oc.get g3 with
        | some y, some z => match y.d.cmp op' z.d with
          | some k => some (.ok (atm (.bl k), g3))
          | none => none
        | _, _ => none
      | some false => some (.ok (atm (.bl false), g2))
      | none => none
    | _, _ => none) = some (.ok (s, g')) := e
  cases e1 : opd ca (evE E ca) g with
  | none => rw [e1] at e'; cases e'
  | some o =>
    cases o with
    | ex c => rw [e1] at e'; cases e'
    | ok p =>
      obtain ⟨oa, g1⟩ := p
      rw [e1] at e'
      simp only [bnd_ok] at e'
      cases e2 : opd cb (evE E cb) g1 with
      | none => rw [e2] at e'; cases e'
      | some o =>
        cases o with
        | ex c => rw [e2] at e'; cases e'
        | ok p =>
          obtain ⟨ob, g2⟩ := p
          rw [e2] at e'
          simp only [bnd_ok] at e'
          split at e'
          · split at e'
            · cases e3 : opd cc (evE E cc) g2 with
              | none => rw [e3] at e'; cases e'
              | some o =>
                cases o with
                | ex c => rw [e3] at e'; cases e'
                | ok p =>
                  obtain ⟨oc, g3⟩ := p
                  rw [e3] at e'
                  simp only [bnd_ok] at e'
                  split at e'
                  · split at e'
                    · cases e'; exact ⟨_, rfl⟩
                    · cases e'
                  · cases e'
            · cases e'; exact ⟨_, rfl⟩
            · cases e'
          · cases e'
theorem pe_chain_ {op op' : KOp} {o o' : CmpOp} (ho : o = op.py) (ho' : o' = op'.py) (hu : X.A.units + 65 < cLine) (hK : X.K = R.K) (ha : PE X a (TO_ R W (opd ca (evE E ca)))) (hb : PE X b (TO_ R W (opd cb (evE E cb)))) (hc : PE X d (TO_ R W (opd cc (evE E cc))))
    (hm : lastMarks [o, o'] [b, d] = false) : PE X (.Compare a [o, o'] [b, d] pos) (TE_ R W (evE E (.chain op op' ca cb cc))) := by
  subst ho ho'
  exact PE.imp (pe_chain (op_cmp hu op) (op_cmp hu op') ha hb hc hm) fun σ H Q q => by rw [hK]; exact imp_chain q
theorem pt_chain_ {op op' : KOp} {o o' : CmpOp} (ho : o = op.py) (ho' : o' = op'.py) (hu : X.A.units + 65 < cLine) (hK : X.K = R.K) (ha : PE X a (TO_ R W (opd ca (evE E ca)))) (hb : PE X b (TO_ R W (opd cb (evE E cb)))) (hc : PE X d (TO_ R W (opd cc (evE E cc))))
    (hm : lastMarks [o, o'] [b, d] = false) : PT X (.Compare a [o, o'] [b, d] pos) (TT_ R W (tst (.chain op op' ca cb cc) (evE E (.chain op op' ca cb cc)))) := by
  subst ho ho'
  exact PT.imp (pt_chain (op_cmp hu op) (op_cmp hu op') ha hb hc hm) fun σ H Q q => by
    rw [hK]
    exact imp_chain (tt_te (fun i z => by cases z) (fun g s g' e => chain_bl g s g' e) q)
end
end Y
set_option Elab.async false
set_option linter.all false
set_option maxRecDepth 100000
set_option maxHeartbeats 2000000
namespace Y
open PySem PySem.Spec L2
section
variable {X : Cx} {R : Fr} {W : XK} {E : Ev} {e a b d : Expr} {es : List Expr} {c ca cb cc ct : C} {cs : List C} {pos : Pos} {F H : Hp} {g : G} {σ : L2.St}
theorem pe_isi_ {t : Ty} {p : Pos} (hE : IsiOk R.K E) (hK : X.K = R.K) (hg : Gl X "isinstance") (hm : X.mg "isinstance" = none) (ha : PE X a (TO_ R W (opd ca (evE E ca)))) (hb : PE X b (tC (t.v R.K)))
    (hs : starEach (a :: [b]) X.env = (false, eval a X.env) :: starEach [b] X.env) (hs2 : starEach (b :: []) X.env = (false, eval b X.env) :: starEach [] X.env)
    (hpl : (backTo pos (starEach [b] X.env)).any (·.1) = false) : PE X (.Call (.Name "isinstance" p) [a, b] [] pos) (TE_ R W (evE E (.isi ca t))) := by
  refine PE.imp (pe_callB call_isi hg hm PyProof.Rows.boot_isinstance (pa_cons ha (pa_cons hb pa_nil hs2) hs) (by decide) (by decide) hs hpl) fun σ H Q q => ?_
  have := imp_op1 (res_isi hE t) q
  rw [hK]
  exact this
/-! ### with the first operand's kind known ahead -/
theorem imp_op2p {pre : D → Bool} {f : Sl → Sl → Option Sl} {eva evb : G → M (Sl × G)} {Q : VK} {P : V → Hp → Prop} {r2 : R2}
    (hP : ∀ (x : V) (sx : Sl) (F H : Hp) (g : G) (σ : L2.St), Rel R F g σ H → View R.K (FN R.H0 F sx.n) H x sx.d → pre sx.d = true → P x H) (h2 : Res2 R r2 f) (q : TE_ R W (op2p pre ca cb eva evb f) σ H Q) :
    TO_ R W (opd ca eva) σ H fun x H1 => P x H1 ∧ TO_ R W (opd cb evb) σ H1 fun y H2 => r2 x y H2 Q := by
  obtain ⟨F, g, rl, q⟩ := q
  refine ⟨F, g, rl, wp_mono (wp_bnd q) (fun (oa, g1) q1 v F1 H1 r1 st1 o1 => ?_) fun _ z => z⟩
  cases e0 : oa.get g1 with
  | none => simp only [e0] at q1; exact q1.elim
  | some x0 =>
    simp only [e0] at q1
    split at q1
    · rename_i hp
      refine ⟨hP v x0 F1 H1 g1 σ r1 (o1.view r1 e0) hp, F1, g1, r1, wp_mono (wp_bnd q1) (fun (ob, g2) q2 w F2 H2 r2' st2 o2 => ?_) fun _ z => z⟩
      cases e : oa.get g2 with
      | none => simp only [e] at q2; exact q2.elim
      | some x =>
        cases e1 : ob.get g2 with
        | none => simp only [e, e1] at q2; exact q2.elim
        | some y =>
          simp only [e, e1] at q2
          cases e2 : f x y with
          | none => simp only [e2] at q2; exact q2.elim
          | some s =>
            simp only [e2] at q2
            exact h2 v w x y s F2 H2 g2 σ g F H Q r2' (st1.trans st2) ((o1.mono st2.exF).view r2' e) (o2.view r2' e1) e2 q2
    · exact q1.elim
theorem pe_index_ {p : Pos} (hu : X.A.units + 65 < cLine) (hK : X.K = R.K) (ha : PE X a (TO_ R W (opd ca (evE E ca)))) (hb : PE X b (TO_ R W (opd cb (evE E cb))))
    (hbase : attributeBase a "index" X.env (eval a X.env) = eval a X.env)
    (hfew : ((backTo pos (starEach (b :: []) X.env)).all (fun x => !x.1) && (backToKw pos (keywordEach [] X.env)).all (fun x => x.1.isSome)
      && decide ((b :: []).length + ([] : List Keyword).length + (if ([] : List Keyword).isEmpty then 0 else 1) < 30)) = true)
    (hline : (p.endLine == pos.line) = true) (hs : starEach (b :: []) X.env = (false, eval b X.env) :: starEach [] X.env) (hplain : (backTo pos (starEach [] X.env)).any (·.1) = false) :
    PE X (.Call (.Attribute a "index" p) [b] [] pos) (TE_ R W (evE E (.index ca cb))) := by
  refine PE.imp (pe_bm PySem.F.plainAttrs_list PySem.F.slot_list_index PySem.F.type_list_index (mt_indexD hu) ha (pa_cons hb pa_nil hs) hbase hfew hline hs hplain) fun σ H Q q => ?_
  have := imp_op2p (P := fun x H1 => tyV X.K "list" x H1) (pre := isLst) (f := indexS) (fun x sx F H g σ r v hp => ?_) res_index q
  · rw [hK]
    rw [hK] at this
    exact this
  · obtain ⟨dx, m, n⟩ := sx
    cases dx with
    | lst xs =>
      obtain ⟨p, vs, rfl, h1, h2⟩ := v.as_lst
      exact .inl ⟨rfl, _, SqL.of h1⟩
    | _ => cases hp
theorem res_dget : Res2 R (fun x y H Q => ∃ a o, x = .ref a ∧ DGet H a y o ∧ Q (o.getD .non) H) dgetS := by
  intro x y ⟨dx, mx, nx⟩ ⟨dy, my, ny⟩ s F H g σ g0 F0 H0 Q r st vx vy e k
  cases dx with
  | dct ks xs =>
    have e' : (dy.key).map (fun k => match look ks xs k with
      | some d => (⟨d, .fr, nx || d.atom⟩ : Sl)
      | none => atm .non) = some s := e
    cases h1 : dy.key with
    | none => rw [h1] at e'; cases e'
    | some j =>
      rw [h1] at e'
      obtain ⟨a, o, rfl, hg, q1, q2⟩ := dget_of vx vy h1
      refine ⟨a, o, rfl, hg, ?_⟩
      cases h2 : look ks xs j with
      | none =>
        simp only [Option.map_some, h2] at e'
        cases e'
        rw [q2 h2]
        exact kont_fr k r st At.non
      | some d =>
        simp only [Option.map_some, h2] at e'
        cases e'
        obtain ⟨u, rfl, h4⟩ := q1 d h2
        exact kont_fr k r st h4.sub
  | _ => cases e
theorem pe_dget_ {p : Pos} (hu : X.A.units + 65 < cLine) (ha : PE X a (TO_ R W (opd ca (evE E ca)))) (hb : PE X b (TO_ R W (opd cb (evE E cb)))) (m : M1 X a "get" p b pos) : PE X (.Call (.Attribute a "get" p) [b] [] pos) (TE_ R W (evE E (.dget ca cb))) := by
  refine PE.imp (pe_dget1 (by omega) ha hb m) fun σ H Q q => ?_
  have := imp_op2p (P := fun x H1 => ∃ a, x = .ref a ∧ IsD H1 a) (pre := isDct) (f := dgetS) (fun x sx F H g σ r v hp => ?_) res_dget q
  · refine ⟨this.choose, this.choose_spec.choose, this.choose_spec.choose_spec.1, wp_mono this.choose_spec.choose_spec.2 (fun (o, g1) k v F' H' r st h => ?_) fun _ z => z⟩
    obtain ⟨⟨a1, e1, hd⟩, h2⟩ := k v F' H' r st h
    refine ⟨a1, e1, hd, h2.choose, h2.choose_spec.choose, h2.choose_spec.choose_spec.1, wp_mono h2.choose_spec.choose_spec.2 (fun (o, g1) k v F' H' r st h => ?_) fun _ z => z⟩
    obtain ⟨a2, o2, e2, h3, h4⟩ := k v F' H' r st h
    rw [e1] at e2
    cases e2
    exact ⟨o2, h3, h4⟩
  · obtain ⟨dx, m, n⟩ := sx
    cases dx with
    | dct ks xs =>
      obtain ⟨p, kvs, rfl, h1, h2⟩ := v.as_dct
      exact ⟨p, rfl, .inl ⟨kvs, h1⟩⟩
    | _ => cases hp
/-! ### built-ins -/
theorem ops_views (r : Rel R F g σ H) : ∀ {xs : List V} {os : List Op} {ss : List Sl}, Paired (fun v o => OpAt R F σ v o) xs os → os.mapM (·.get g) = some ss → Paired (fun x (s : Sl) => View R.K (FN R.H0 F s.n) H x s.d) xs ss
  | _, [], ss, .nil, e => by
    have : some [] = some ss := e
    cases this
    exact .nil
  | _, o :: os, ss, .cons h t, e => by
    rw [List.mapM_cons] at e
    cases q : o.get g with
    | none => rw [q] at e; cases e
    | some s =>
      cases q2 : os.mapM (·.get g) with
      | none => rw [q, q2] at e; cases e
      | some rs =>
        rw [q, q2] at e
        cases e
        exact .cons (OpAt.view h r q) (ops_views r t q2)
theorem imp_bi {bi : BI} {Q : VK} (q : TE_ R W (evE E (.bi bi cs)) σ H Q) : tCB (rBI bi R.K) (TOs_ R W (evOs E cs)) σ H Q := by
  obtain ⟨F, g, rl, q⟩ := q
  refine ⟨F, g, rl, wp_mono (wp_bnd q) (fun (os, g1) q1 vs F1 H1 r1 st1 o1 => ?_) fun _ z => z⟩
  cases e : os.mapM (·.get g1) with
  | none => simp only [e] at q1; exact q1.elim
  | some ss =>
    simp only [e] at q1
    cases e2 : biD bi ss with
    | none => simp only [e2] at q1; exact q1.elim
    | some s =>
      simp only [e2] at q1
      exact res_bi bi vs ss s F1 H1 g1 σ g F H Q r1 st1 (ops_views r1 o1 e) e2 q1
theorem boot_bi (b : BI) : bootBuiltins b.nm = some b.val := by cases b <;> decide +kernel
theorem nm_bi (b : BI) : b.nm ≠ "__name__" ∧ (b.nm == ("__debug__" : Str)) = false := by cases b <;> decide +kernel
theorem pe_bi_ {bi : BI} {x : Str} {p : Pos} (hx : x = bi.nm) (hc : X.calm = true) (hK : X.K = R.K) (hg : Gl X x) (hm : X.mg x = none) (h : PA X (e :: es) (TOs_ R W (evOs E cs)))
    (he : starEach (e :: es) X.env = (false, eval e X.env) :: starEach es X.env) (hpl : (backTo pos (starEach es X.env)).any (·.1) = false) : PE X (.Call (.Name x p) (e :: es) [] pos) (TE_ R W (evE E (.bi bi cs))) := by
  subst hx
  have hr := call_bi hc bi
  have hb := boot_bi bi
  cases hv : bi.val with
  | builtin id =>
    rw [hv] at hr hb
    exact PE.imp (pe_callB hr hg hm hb h (nm_bi bi).1 (nm_bi bi).2 he hpl) fun σ H Q q => by rw [hK]; exact imp_bi q
  | type T =>
    rw [hv] at hr hb
    exact PE.imp (pe_callTy hr hg hm hb h (nm_bi bi).1 (nm_bi bi).2 he hpl) fun σ H Q q => by rw [hK]; exact imp_bi q
  | _ => cases bi <;> cases hv
/-! ### slices -/
def TP_ (R : Fr) (W : XK) (ev : G → M (Option Int × G)) : TO := fun σ H Q => ∃ F g, Rel R F g σ H ∧
  wp (ev g) (fun (k, g') => ∀ F' H', Rel R F' g' σ H' → Step g σ F H g' F' H' → Q k H') (ExW R W)
theorem PO.imp {o : Option Expr} {t t' : TO} (h : PO X o t) (i : ∀ σ H Q, t' σ H Q → t σ H Q) : PO X o t' := ⟨fun pins s σ H Q I q => h.run pins s σ H Q I (i σ H Q q)⟩
theorem po_none_ : PO X none (TP_ R W (evP E none)) := PO.imp po_none fun σ H Q ⟨F, g, r, q⟩ => q F H r (Step.refl g σ F H)
theorem po_some_ (h : PE X e (TE_ R W (evE E c))) : PO X (some e) (TP_ R W (evP E (some c))) := PO.imp (po_some (pe_frz h)) fun σ H Q ⟨F, g, r, q⟩ => by
  refine ⟨F, g, r, wp_mono (wp_bnd q) (fun (s, g1) q1 v F1 H1 r1 st1 h1 => ?_) fun _ z => z⟩
  dsimp only at q1 h1
  split at q1
  · rename_i i hs
    rw [hs] at h1
    cases h1
    exact ⟨i, rfl, q1 F1 H1 r1 st1⟩
  · exact q1.elim
theorem cutD_map {α β : Type} (f : α → β) (xs : List α) (lo hi : Option Int) : cutD (xs.map f) lo hi = (cutD xs lo hi).map f := by
  unfold cutD
  rw [List.length_map, List.map_take, List.map_drop]
theorem cutV_eq (xs : List V) (lo hi : Option Int) : cutV xs lo hi = cutD xs lo hi := rfl
theorem cutD_whole {α : Type} (xs : List α) (lo hi : Option Int) (h : HT.sIx xs.length 0 lo = 0 ∧ HT.sIx xs.length xs.length hi = xs.length) : cutD xs lo hi = xs := by
  unfold cutD
  rw [h.1, h.2]
  simp
abbrev rSlD (K : PySem.W.Frag) : V → Option Int → Option Int → Hp → VK → Prop := fun x lo hi H Q => rSlL K x lo hi H Q ∨ rSlA K x lo hi H Q
theorem pe_slc_ {lo hi : Option Expr} {cl ch : Option C} {p2 : Pos} (hK : X.K = R.K) (ha : PE X a (TO_ R W (opd ca (evE E ca)))) (hl : PO X lo (TP_ R W (evP E cl))) (hh : PO X hi (TP_ R W (evP E ch))) :
    PE X (.Subscript a (.Slice lo hi none p2) pos) (TE_ R W (evE E (.slc ca cl ch))) := by
  refine PE.imp (pe_slice (SlR.or sl_list sl_tupA) ha hl hh) fun σ H Q ⟨F, g, r, q⟩ => ?_
  refine ⟨F, g, r, wp_mono (wp_bnd q) (fun (oa, g1) q1 x F1 H1 r1 st1 o1 => ⟨F1, g1, r1, wp_mono (wp_bnd q1) (fun (l, g2) q2 F2 H2 r2 st2 => ⟨F2, g2, r2, wp_mono (wp_bnd q2) (fun (h, g3) q3 F3 H3 r3 st3 => ?_) fun _ z => z⟩) fun _ z => z⟩) fun _ z => z⟩
  have st := (st1.trans st2).trans st3
  cases e : oa.get g3 with
  | none => simp only [e] at q3; exact q3.elim
  | some s =>
    simp only [e] at q3
    cases e2 : slcS l h s with
    | none => simp only [e2] at q3; exact q3.elim
    | some t =>
      simp only [e2] at q3
      have vx := ((o1.mono st2.exF).mono st3.exF).view r3 e
      obtain ⟨dx, m, n⟩ := s
      have e3 : (D.slc dx l h).map (fun d => match d with
        | .lst xs => (⟨.lst xs, .ow, n || (D.lst xs).kidsAtom⟩ : Sl)
        | d => ⟨d, .fr, n⟩) = some t := e2
      rw [hK]
      cases dx with
      | lst xs =>
        cases e3
        obtain ⟨p, vs, rfl, h1, h2⟩ := vx.as_lst
        refine .inl ⟨p, vs, rfl, SqL.of h1, fun z hz => kont_ow q3 r3 st hz ?_⟩
        rw [cutV_eq]
        cases hk : (D.lst (cutD xs l h)).kidsAtom with
        | true => exact .lst upd_same (atL_atom (h2.ycut l h) hk)
        | false => rw [Bool.or_false]; exact .lst upd_same (h2.ycut l h)
      | tup xs =>
        cases e3
        obtain ⟨p, vs, rfl, h1, h2, h3⟩ := vx.as_tup
        refine .inr ⟨p, vs, rfl, SqT.of h1, fun hw => ?_, fun _ z hz => kont_tup q3 r3 st hz (h2.ycut l h)⟩
        rw [h2.length] at hw
        rw [cutD_whole xs l h hw] at q3
        exact kont_fr q3 r3 st h3
      | scr ns =>
        cases e3
        obtain ⟨p, rfl, h1⟩ := vx.as_scr
        refine .inl ⟨p, _, rfl, h1, fun z hz => kont_ow q3 r3 st hz ?_⟩
        rw [cutV_eq, cutD_map]
        exact .lst upd_same (at_ints _)
      | _ => cases e3
end
/-! ### the module's own tables -/
def KdOk (K : PySem.W.Frag) (w : World) (mg : Str → Option Value) (E : Ev) : Prop := ∀ x kvs, E.kd x = some kvs → mg x = some (.ref (He.ga K x)) ∧ (∃ es n, KDict K w (He.ga K x) es n) ∧
  ∀ z, match kvs.lookup z with
    | some ss => ∃ b, PySem.W.nsIn K (He.ga K x) z = some (some (.ref b)) ∧ SqT K (fun _ => none) b (ss.map V.str)
    | none => PySem.W.nsIn K (He.ga K x) z = some none
section
variable {X : Cx} {R : Fr} {W : XK} {E : Ev} {a : Expr} {ca : C} {x : Str} {pos p : Pos}
theorem pe_kget_ (hk : KdOk R.K X.w X.mg E) (hK : X.K = R.K) (hg : Gl X x) (hd : (x == ("__debug__" : Str)) = false) (hx : (E.kd x).isSome = true) (ha : PE X a (TO_ R W (opd ca (evE E ca)))) (hp : PlainIx a) : PE X (.Subscript (.Name x p) a pos) (TE_ R W (evE E (.kget x ca))) := by
  obtain ⟨kvs, hkv⟩ := Option.isSome_iff_exists.mp hx
  obtain ⟨hm, ⟨es, n, D⟩, hz⟩ := hk x kvs hkv
  refine PE.imp (pe_ix (ix_kdict) (pe_glob hg hm (v := .ref (He.ga R.K x)) rfl hd) ha hp) fun σ H Q q => ?_
  show tOp (L2.rIxD X.K X.w) (tC _) _ σ H Q
  have key : Res1 R (fun y H Q => L2.rIxD X.K X.w (.ref (He.ga R.K x)) y H Q) (kgetS E x) := fun y ⟨dy, m, nn⟩ s F H g σ g0 F0 H0 Q r st vy e k => by
    cases dy with
    | str z =>
      unfold kgetS at e
      dsimp only at e
      rw [hkv] at e
      dsimp only at e
      have hzz := hz z
      cases hl : kvs.lookup z with
      | none => rw [hl] at e; cases e
      | some ss =>
        rw [hl] at e hzz
        cases e
        obtain ⟨b, h1, h2⟩ := hzz
        exact ⟨_, z, .ref b, rfl, vy.as_str, ⟨es, n, _, by rw [hK]; exact D.at_, D.lit, by rw [hK]; exact h1, rfl⟩, kont_fr k r st (.ktup h2)⟩
    | _ => cases e
  exact imp_op1 key q
theorem pe_kin_ {neg : Bool} {o : CmpOp} (ho : o = if neg then .NotIn else .In) (hk : KdOk R.K X.w X.mg E) (hK : X.K = R.K) (hg : Gl X x) (hd : (x == ("__debug__" : Str)) = false) (hx : (E.kd x).isSome = true) (ha : PE X a (TO_ R W (opd ca (evE E ca)))) :
    PE X (.Compare a [o] [.Name x p] pos) (TE_ R W (evE E (.kin neg x ca))) ∧ PT X (.Compare a [o] [.Name x p] pos) (TT_ R W (tst (.kin neg x ca) (evE E (.kin neg x ca)))) := by
  subst ho
  obtain ⟨kvs, hkv⟩ := Option.isSome_iff_exists.mp hx
  obtain ⟨hm, ⟨es, n, D⟩, hz⟩ := hk x kvs hkv
  have DX : KDict X.K X.w (He.ga R.K x) es n := by rw [hK]; exact D
  have hn : PE X (.Name x p) (tC (.ref (He.ga R.K x))) := pe_glob hg hm (v := .ref (He.ga R.K x)) rfl hd
  have op : OpR X (compareOp (if neg then .NotIn else .In)) (fun y z H Q => ∃ (t : Str) (r : Option Value), y = .str t ∧ z = .ref (He.ga R.K x) ∧ PySem.W.nsIn X.K (He.ga R.K x) t = some r ∧ Q (.bl (if neg then !r.isSome else r.isSome)) H) := by
    cases neg
    · exact op_in_kd DX
    · exact op_notIn_kd DX
  have key : Res1 R (fun y H Q => ∃ (t : Str) (r : Option Value), y = .str t ∧ V.ref (He.ga R.K x) = .ref (He.ga R.K x) ∧ PySem.W.nsIn X.K (He.ga R.K x) t = some r ∧ Q (.bl (if neg then !r.isSome else r.isSome)) H) (kinS E neg x) := fun y ⟨dy, m, nn⟩ s F H g σ g0 F0 H0 Q r st vy e k => by
    cases dy with
    | str z =>
      unfold kinS at e
      dsimp only at e
      rw [hkv] at e
      cases e
      have hzz := hz z
      cases hl : kvs.lookup z with
      | none =>
        rw [hl] at hzz k
        exact ⟨z, none, vy.as_str, rfl, by rw [hK]; exact hzz, kont_fr k r st (.bl _)⟩
      | some ss =>
        rw [hl] at hzz k
        obtain ⟨b, h1, h2⟩ := hzz
        exact ⟨z, some _, vy.as_str, rfl, by rw [hK]; exact h1, kont_fr k r st (.bl _)⟩
    | _ => cases e
  have hbl : ∀ g s g', evE E (.kin neg x ca) g = some (.ok (s, g')) → ∃ k, s = atm (.bl k) := fun g s g' e => by
    have e' : op1 ca (evE E ca) (kinS E neg x) g = some (.ok (s, g')) := e
    unfold op1 at e'
    cases e1 : opd ca (evE E ca) g with
    | none => rw [e1] at e'; cases e'
    | some o =>
      cases o with
      | ex c => rw [e1] at e'; cases e'
      | ok q =>
        obtain ⟨oa, g1⟩ := q
        rw [e1] at e'
        simp only [bnd_ok] at e'
        split at e'
        · split at e'
          · rename_i hs
            cases e'
            unfold kinS at hs
            split at hs
            · split at hs
              · cases hs; exact ⟨_, rfl⟩
              · cases hs
            · cases hs
          · cases e'
        · cases e'
  refine ⟨PE.imp (pe_cmpR op ha hn rfl) fun σ H Q q => imp_op1 key q, PT.imp (pt_cmpR op ha hn rfl) fun σ H Q q => ?_⟩
  exact imp_op1 key (tt_te (fun i z => by cases z) hbl q)
end
end Y
set_option Elab.async false
set_option linter.all false
set_option maxRecDepth 100000
set_option maxHeartbeats 2000000
namespace Y
open PySem PySem.Spec L2
abbrev Fn := List D → M (Sl × Option (D × Bool))
inductive ArgAt (K : PySem.W.Frag) (F H : Hp) (io : Option Nat) : Nat → List V → List D → Prop
  | nil {j : Nat} : ArgAt K F H io j [] []
  | val {j : Nat} {v : V} {d : D} {vs : List V} {ds : List D} : io ≠ some j → At K F v d → ArgAt K F H io (j + 1) vs ds → ArgAt K F H io j (v :: vs) (d :: ds)
  | io {j : Nat} {p : Addr} {d : D} {vs : List V} {ds : List D} : io = some j → F p = none → Top K F H p d → ArgAt K F H io (j + 1) vs ds → ArgAt K F H io j (.ref p :: vs) (d :: ds)
/-- the object that the callee may change -/
def ioA (io : Option Nat) (vs : List V) : Option Addr := match io with
  | none => none
  | some j => match vs[j]? with
    | some (.ref p) => some p
    | _ => none
structure CallPost (K : PySem.W.Frag) (F H F' H' : Hp) (io : Option Addr) (v : V) (r : Sl) (o : Option (D × Bool)) : Prop where
  exF : Same F F'
  ex : Same F' H'
  fr : ∀ b u, H b = some u → io ≠ some b → H' b = some u
  nF : ∀ b, F b = none → (H b).isSome = true → F' b = none
  there : ∀ b, (H b).isSome = true → (H' b).isSome = true
  res : match r.m with
    | .fr => At K (FN H F' r.n) v r.d
    | .ow => ∃ p, v = .ref p ∧ H p = none ∧ F' p = none ∧ Top K (FN H F' r.n) H' p r.d
    | .io => False
  io : ∀ p, io = some p → ∃ dn, o = some dn ∧ F' p = none ∧ Top K (FN H F' dn.2) H' p dn.1
/-- what a def promises by the evaluator -/
def spD (K : PySem.W.Frag) (io : Option Nat) (np : Nat) (sem : Fn) : Sp := fun vs H Q E => ∃ F ds, Same F H ∧ vs.length = np ∧ ArgAt K F H io 0 vs ds ∧
  wp (sem ds) (fun (r, o) => ∀ v F' H', CallPost K F H F' H' (ioA io vs) v r o → Q v H') (fun c => ∀ H', (∀ b u, H b = some u → ioA io vs ≠ some b → H' b = some u) → E (.ref (He.ga K c)) none H')
section
variable {R : Fr} {F H F' H' F0 H0 : Hp} {g g0 : G} {σ : L2.St} {v : V} {r : Sl} {o : Option (D × Bool)}
/-- behind a call that changed nothing of the slots -/
theorem Rel.calledA {io : Option Addr} (rl : Rel R F g σ H) (p : CallPost R.K F H F' H' io v r o) (st : Step g0 σ F0 H0 g F H) (r0 : Rel R F0 g0 σ H0) (hio : ∀ a, io = some a → ¬ Own g σ a ∧ H0 a = none) : Rel R F' g σ H' ∧ Step g0 σ F0 H0 g F' H' := by
  refine ⟨⟨rl.len, fun i s hi => ?_, rl.dis, p.ex, fun b u h n => p.fr b u (rl.keep b u h n) fun e => ?_, fun b h => p.there b (rl.there b h), rl.ios, rl.iog⟩, ⟨st.exF.trans p.exF, fun b u h n => p.fr b u (st.fr b u h n) fun e => ?_, fun b h1 h2 n => p.nF b (st.nF b h1 h2 n) (st.there b h2), st.own, fun b h => p.there b (st.there b h)⟩⟩
  · obtain ⟨w, h1, h2⟩ := rl.at_ i s hi
    refine ⟨w, h1, slAt_mono h2 p.exF (fun hm q e z => ?_) fun hm q e => ?_⟩
    · subst e
      obtain ⟨_, u, hu⟩ := rl.own_some (b := q) ⟨i, s, hi, hm, h1⟩
      exact p.nF q z (by rw [hu]; rfl)
    · subst e
      have ow : Own g σ q := ⟨i, s, hi, hm, h1⟩
      obtain ⟨_, u, hu⟩ := rl.own_some ow
      rw [hu]
      exact p.fr q u hu fun e => (hio q e).1 ow
  · rw [(r0.fresh (hio b e).2).2.1] at h; cases h
  · rw [(hio b e).2] at h; cases h
/-- .. that changed the object of the slot i -/
theorem Rel.calledB {i : Nat} {a : Addr} {t : Sl} {dn : D × Bool} (rl : Rel R F g σ H) (p : CallPost R.K F H F' H' (some a) v r (some dn)) (hi : g.get i = some t) (hm : t.m ≠ .fr) (hv : σ[i]? = some (some (.ref a))) :
    Rel R F' (g.put i ⟨dn.1, t.m, dn.1.kidsAtom⟩) σ H' ∧ Step g σ F H (g.put i ⟨dn.1, t.m, dn.1.kidsAtom⟩) F' H' := by
  obtain ⟨dn', e, hF, hT⟩ := p.io a rfl
  cases e
  have ow : Own g σ a := ⟨i, t, hi, hm, hv⟩
  have hT' : Top R.K (FN R.H0 F' dn.1.kidsAtom) H' a dn.1 := by
    cases hk : dn.1.kidsAtom with
    | true => exact hT.atoms hk
    | false => rw [FN_false]; exact hT.mono FN_le rfl
  have hsl : SlAt R F' H' i (.ref a) ⟨dn.1, t.m, dn.1.kidsAtom⟩ := by
    obtain ⟨w, h1, h2⟩ := rl.at_ i t hi
    rw [hv] at h1
    cases h1
    obtain ⟨d, m, n⟩ := t
    cases m with
    | fr => exact absurd rfl hm
    | ow =>
      obtain ⟨q, e, _, h4, _⟩ := h2
      cases e
      exact ⟨a, rfl, hF, h4, hT'⟩
    | io =>
      obtain ⟨q, e, _, h4, _⟩ := h2
      cases e
      exact ⟨a, rfl, hF, h4, hT'⟩
  have own0 : ∀ j s, (g.put i ⟨dn.1, t.m, dn.1.kidsAtom⟩).get j = some s → s.m ≠ .fr → ∃ s', g.get j = some s' ∧ s'.m ≠ .fr := fun j s hj hs => by
    by_cases e : j = i
    · subst e; exact ⟨t, hi, hm⟩
    · rw [G.get_put_ne e] at hj; exact ⟨s, hj, hs⟩
  refine ⟨⟨rl.len.trans G.put_len.symm, fun j s hj => ?_, fun x y s u q hx hy hs hu px py => ?_, p.ex, fun b u h n => p.fr b u (rl.keep b u h n) fun e => ?_, fun b h => p.there b (rl.there b h), rl.ios, fun q hq => ?_⟩, ⟨p.exF, fun b u h n => p.fr b u h fun e => n (by cases e; exact ow), fun b h1 h2 n => p.nF b h1 h2, fun b z => z.put_le hi fun _ => hm, p.there⟩⟩
  · by_cases e : j = i
    · subst e
      rw [G.get_put_self hi] at hj
      cases hj
      exact ⟨_, hv, hsl⟩
    · rw [G.get_put_ne e] at hj
      obtain ⟨w, h1, h2⟩ := rl.at_ j s hj
      refine ⟨w, h1, slAt_mono h2 p.exF (fun hms q eq z => ?_) fun hms q eq => ?_⟩
      · subst eq
        obtain ⟨_, u, hu⟩ := rl.own_some (b := q) ⟨j, s, hj, hms, h1⟩
        exact p.nF q z (by rw [hu]; rfl)
      · subst eq
        obtain ⟨_, u, hu⟩ := rl.own_some (b := q) ⟨j, s, hj, hms, h1⟩
        rw [hu]
        refine p.fr q u hu fun eq => ?_
        cases eq
        exact e (rl.dis j i s t a hj hi hms hm h1 hv)
  · obtain ⟨s', a1, a2⟩ := own0 x s hx hs
    obtain ⟨t', b1, b2⟩ := own0 y u hy hu
    exact rl.dis x y s' t' q a1 b1 a2 b2 px py
  · cases e
    obtain ⟨w, h1, h2⟩ := rl.at_ i t hi
    rw [hv] at h1
    cases h1
    obtain ⟨d, m, nn⟩ := t
    cases m with
    | fr => exact absurd rfl hm
    | ow =>
      obtain ⟨q, e, _, h4, _⟩ := h2
      cases e
      rw [h4] at h
      cases h
    | io =>
      obtain ⟨q, e, _, h4, _⟩ := h2
      cases e
      exact n _ h4 rfl
  · obtain ⟨s, h1, h2, h3⟩ := rl.iog q hq
    by_cases e : q.1 = i
    · rw [e] at h1
      rw [hi] at h1
      cases h1
      rw [e]
      exact ⟨_, G.get_put_self hi, h2, by rw [← e]; exact h3⟩
    · exact ⟨s, by rw [G.get_put_ne e]; exact h1, h2, h3⟩
/-- the result of a call -/
theorem CallPost.resAt {io : Option Addr} {g' : G} (p : CallPost R.K F H F' H' io v r o) (rl : Rel R F g σ H) (st : Step g0 σ F0 H0 g F H) (ho : ∀ b, Own g' σ b → Own g σ b) : ResAt R g' σ H0 F' H' v ⟨r.d, r.m, r.n || r.d.atom⟩ := by
  have hres := p.res
  have le : ∀ n, Same (FN H F' n) (FN R.H0 F' n) := fun n b u z => by
    unfold FN at z ⊢
    split at z
    · cases z
    · rename_i h1
      split
      · rename_i h2
        exact absurd ⟨h2.1, rl.there b h2.2⟩ h1
      · exact z
  obtain ⟨d, m, n⟩ := r
  cases m with
  | fr =>
    have h1 : At R.K (FN H F' n) v d := hres
    exact At.sub (At.mono (le n) _ _ h1)
  | ow =>
    obtain ⟨q, rfl, h1, h2, h3⟩ := hres
    refine ⟨q, rfl, st.gone h1, h2, fun z => ?_, ?_⟩
    · obtain ⟨_, u, hu⟩ := rl.own_some (ho q z)
      rw [h1] at hu
      cases hu
    · have h4 : Top R.K (FN R.H0 F' n) H' q d := h3.mono (le n) rfl
      show Top R.K (FN R.H0 F' (n || d.atom)) H' q d
      have : d.atom = false := by cases h3 <;> rfl
      rw [this, Bool.or_false]
      exact h4
  | io => exact hres.elim
end
/-! ### arguments -/
/-- an argument, behind the evaluation: H0 the heap ahead of it -/
def ArAt (R : Fr) (F H H0 : Hp) (g : G) (σ : L2.St) (v : V) : Ar → Prop
  | .val s => At R.K (FN R.H0 F s.n) v s.d
  | .slot i => σ[i]? = some (some v)
  | .tmp s => ∃ p, v = .ref p ∧ H0 p = none ∧ F p = none ∧ ¬ Own g σ p ∧ Top R.K (FN R.H0 F s.n) H p s.d
/-- which arguments the callee may change -/
inductive ArsAt (P : V → Ar → Prop) (io : Option Nat) : Nat → List V → List Ar → Prop
  | nil {j : Nat} : ArsAt P io j [] []
  | cons {j : Nat} {v : V} {a : Ar} {vs : List V} {as : List Ar} : P v a → ((io = some j) ↔ (∀ s, a ≠ .val s)) → ArsAt P io (j + 1) vs as → ArsAt P io j (v :: vs) (a :: as)
theorem ArsAt.imp {P P' : V → Ar → Prop} {io : Option Nat} (h : ∀ v a, P v a → P' v a) : ∀ {j : Nat} {vs : List V} {as : List Ar}, ArsAt P io j vs as → ArsAt P' io j vs as
  | _, _, _, .nil => .nil
  | _, _, _, .cons r k t => .cons (h _ _ r) k (ArsAt.imp h t)
def TA_ (R : Fr) (W : XK) (io : Option Nat) (j : Nat) (ev : G → M (List Ar × G)) : TA := fun σ H Q => ∃ F g, Rel R F g σ H ∧
  wp (ev g) (fun (as, g') => ∀ vs F' H', Rel R F' g' σ H' → Step g σ F H g' F' H' → ArsAt (ArAt R F' H' H g' σ) io j vs as → Q vs H') (ExW R W)
def TA1_ (R : Fr) (W : XK) (io : Option Nat) (j : Nat) (ev : G → M (Ar × G)) : TE := fun σ H Q => ∃ F g, Rel R F g σ H ∧
  wp (ev g) (fun (a, g') => ∀ v F' H', Rel R F' g' σ H' → Step g σ F H g' F' H' → ArAt R F' H' H g' σ v a → ((io = some j) ↔ (∀ s, a ≠ .val s)) → Q v H') (ExW R W)
section
variable {X : Cx} {R : Fr} {W : XK} {E : Ev} {e : Expr} {es : List Expr} {c : C} {cs : List C} {io : Option Nat} {j : Nat} {F H F' H' H0 : Hp} {g g' : G} {σ : L2.St}
theorem ArAt.mono {v : V} {a : Ar} (h : ArAt R F H H0 g σ v a) (r : Rel R F g σ H) (st : Step g σ F H g' F' H') : ArAt R F' H' H0 g' σ v a := by
  cases a with
  | val s => exact At.mono (FN_mono st.exF) _ _ h
  | slot i => exact h
  | tmp s =>
    obtain ⟨p, rfl, h1, h2, h3, h4⟩ := h
    obtain ⟨u, hu⟩ := h4.is
    exact ⟨p, rfl, h1, st.nF p h2 (by rw [hu]; rfl) h3, fun z => h3 (st.own p z), h4.mono (FN_mono st.exF) (by rw [hu]; exact st.fr p u hu h3)⟩
theorem ArAt.before {v : V} {a : Ar} {g1 : G} {F1 H1 : Hp} (h : ArAt R F' H' H1 g' σ v a) (st : Step g σ F H g1 F1 H1) : ArAt R F' H' H g' σ v a := by
  cases a with
  | val s => exact h
  | slot i => exact h
  | tmp s =>
    obtain ⟨p, rfl, h1, h2⟩ := h
    exact ⟨p, rfl, st.gone h1, h2⟩
theorem pe_arg (h : PE X e (TE_ R W (evE E c))) (ho : PE X e (TO_ R W (opd c (evE E c)))) : PE X e (TA1_ R W io j (arg1 io j c (evE E c))) := by
  by_cases hj : io = some j
  · have h1 : arg1 io j c (evE E c) = fun g => match c with
      | .var i => match g.get i with
        | some ⟨_, .fr, _⟩ => none
        | some _ => some (.ok (Ar.slot i, g))
        | none => none
      | _ => M.bnd (evE E c g) fun (s, g1) => if s.m = .ow then some (.ok (Ar.tmp s, g1)) else none := by
      funext g
      unfold arg1
      rw [if_pos hj]
      cases c <;> rfl
    rw [h1]
    by_cases hc : ∃ i, c = .var i
    · obtain ⟨i, rfl⟩ := hc
      refine PE.imp ho fun σ H Q ⟨F, g, r, q⟩ => ⟨F, g, r, ?_⟩
      dsimp only at q
      unfold opd
      cases e1 : g.get i with
      | none => rw [e1] at q; exact q.elim
      | some s =>
        rw [e1] at q
        dsimp only
        rw [e1]
        intro v F' H' r' st hv
        obtain ⟨d, m, n⟩ := s
        cases m with
        | fr => exact q.elim
        | ow => exact q v F' H' r' st hv ⟨fun _ s z => (by cases z), fun _ => hj⟩
        | io => exact q v F' H' r' st hv ⟨fun _ s z => (by cases z), fun _ => hj⟩
    · refine PE.imp h fun σ H Q ⟨F, g, r, q⟩ => ⟨F, g, r, ?_⟩
      have q' : wp (M.bnd (evE E c g) fun (s, g1) => if s.m = .ow then some (.ok (Ar.tmp s, g1)) else none) (fun (a, g') => ∀ v F' H', Rel R F' g' σ H' → Step g σ F H g' F' H' → ArAt R F' H' H g' σ v a → ((io = some j) ↔ (∀ s, a ≠ .val s)) → Q v H') (ExW R W) := by
        cases c <;> first | exact q | exact absurd ⟨_, rfl⟩ hc
      refine wp_mono (wp_bnd q') (fun (s, g1) q1 v F1 H1 r1 st1 h1 => ?_) fun _ z => z
      dsimp only at q1
      split at q1
      · rename_i hm
        obtain ⟨d, m, n⟩ := s
        cases (show m = .ow from hm)
        obtain ⟨p, rfl, h2, h3, h4, h5⟩ := h1
        exact q1 _ F1 H1 r1 st1 ⟨p, rfl, h2, h3, h4, h5⟩ ⟨fun _ s z => (by cases z), fun _ => hj⟩
      · exact q1.elim
  · have h1 : arg1 io j c (evE E c) = fun g => M.bnd (evE E c g) fun (s, g1) => some (.ok (Ar.val s.frz, g1)) := by
      funext g
      unfold arg1
      rw [if_neg hj]
    rw [h1]
    refine PE.imp (pe_frz h) fun σ H Q ⟨F, g, r, q⟩ => ⟨F, g, r, wp_mono (wp_bnd q) (fun (s, g1) q1 v F1 H1 r1 st1 h1 => ?_) fun _ z => z⟩
    exact q1 v F1 H1 r1 st1 h1 ⟨fun z => absurd z hj, fun z => absurd rfl (z s.frz)⟩
theorem pa_a_nil : PA X [] (TA_ R W io j (evA E io j [])) := PA.imp pa_nil fun σ H Q ⟨F, g, r, q⟩ => q [] F H r (Step.refl g σ F H) .nil
theorem pa_a_cons (h : PE X e (TA1_ R W io j (arg1 io j c (evE E c)))) (hs : PA X es (TA_ R W io (j + 1) (evA E io (j + 1) cs))) (st : starEach (e :: es) X.env = (false, eval e X.env) :: starEach es X.env) : PA X (e :: es) (TA_ R W io j (evA E io j (c :: cs))) := by
  refine PA.imp (pa_cons h hs st) fun σ H Q ⟨F, g, r, q⟩ => ?_
  refine ⟨F, g, r, wp_mono (wp_bnd q) (fun (a, g1) q1 v F1 H1 r1 st1 h1 hk => ⟨F1, g1, r1, wp_mono (wp_bnd q1) (fun (as, g2) q2 vs F2 H2 r2 st2 h2 => ?_) fun _ z => z⟩) fun _ z => z⟩
  exact q2 (v :: vs) F2 H2 r2 (st1.trans st2) (.cons (h1.mono r1 st2) hk (h2.imp fun _ _ z => z.before st1))
end
end Y
set_option Elab.async false
set_option linter.all false
set_option maxRecDepth 100000
set_option maxHeartbeats 2000000
namespace Y
open PySem PySem.Spec L2
section
variable {R : Fr} {W : XK} {E : Ev} {io : Option Nat} {F H F1 H1 : Hp} {g g1 : G} {σ : L2.St}
theorem ioOf_spec {P : V → Ar → Prop} : ∀ {j : Nat} {vs : List V} {as : List Ar}, ArsAt P io j vs as → match ioOf as with
    | none => ∀ k, io = some (j + k) → vs.length ≤ k
    | some (some i) => ∃ k v, io = some (j + k) ∧ vs[k]? = some v ∧ P v (.slot i)
    | some none => ∃ k v s, io = some (j + k) ∧ vs[k]? = some v ∧ P v (.tmp s)
  | j, _, _, .nil => fun k _ => Nat.zero_le _
  | j, _, _, .cons (v := v) (a := a) (vs := vs) (as := as) h hk t => by
    cases a with
    | slot i => exact ⟨0, v, hk.mpr fun s z => (by cases z), rfl, h⟩
    | tmp s => exact ⟨0, v, s, hk.mpr fun s z => (by cases z), rfl, h⟩
    | val s =>
      have hne : io ≠ some j := fun z => (hk.mp z) s rfl
      have ih := ioOf_spec t
      show match ioOf as with
        | none => ∀ k, io = some (j + k) → (v :: vs).length ≤ k
        | some (some i) => ∃ k w, io = some (j + k) ∧ (v :: vs)[k]? = some w ∧ P w (.slot i)
        | some none => ∃ k w s, io = some (j + k) ∧ (v :: vs)[k]? = some w ∧ P w (.tmp s)
      cases q : ioOf as with
      | none =>
        rw [q] at ih
        intro k hk
        cases k with
        | zero => exact absurd hk hne
        | succ k =>
          have := ih k (by rw [hk]; congr 1; omega)
          simpa using this
      | some o =>
        rw [q] at ih
        cases o with
        | none =>
          obtain ⟨k, w, s, h1, h2, h3⟩ := ih
          exact ⟨k + 1, w, s, by rw [h1]; congr 1; omega, by simpa using h2, h3⟩
        | some i =>
          obtain ⟨k, w, h1, h2, h3⟩ := ih
          exact ⟨k + 1, w, by rw [h1]; congr 1; omega, by simpa using h2, h3⟩
theorem args_of (rl : Rel R F g σ H) {H0 : Hp} {dvs : List V} {more : List D} (hd : Paired (At R.K (fun _ => none)) dvs more) : ∀ {j : Nat} {vs : List V} {as : List Ar} {ds : List D}, ArsAt (ArAt R F H H0 g σ) io j vs as → (∀ k, io = some k → k < j + vs.length) → arsD g as = some ds →
    ArgAt R.K F H io j (vs ++ dvs) (ds ++ more)
  | j, _, _, ds, .nil, hio, e => by
    cases e
    have go : ∀ (dvs : List V) (more : List D), Paired (At R.K (fun _ => none)) dvs more → ∀ j, (∀ k, io = some k → k < j) → ArgAt R.K F H io j dvs more := by
      intro dvs more hp
      induction hp with
      | nil => intro j _; exact .nil
      | cons r t ih =>
        intro j hj
        exact .val (fun z => absurd (hj j z) (Nat.lt_irrefl _)) (At.mono (fun b o z => by cases z) _ _ r) (ih (j + 1) fun k z => Nat.lt_succ_of_lt (hj k z))
    exact go dvs more hd j (by simpa using hio)
  | j, _, _, ds, .cons (v := v) (a := a) (vs := vs) (as := as) h hk t, hio, e => by
    have e' : (match a.d g, arsD g as with
      | some d, some ds => some (d :: ds)
      | _, _ => none) = some ds := e
    cases q1 : a.d g with
    | none => rw [q1] at e'; cases e'
    | some d =>
      cases q2 : arsD g as with
      | none => rw [q1, q2] at e'; cases e'
      | some rs =>
        rw [q1, q2] at e'
        cases e'
        have ih := args_of rl hd t (fun k z => by have := hio k z; rw [List.length_cons] at this; omega) q2
        cases a with
        | val s =>
          cases q1
          exact .val (fun z => (hk.mp z) s rfl) (At.mono FN_le _ _ h) ih
        | slot i =>
          have q1' : (match g.get i with | some s => if s.m = .fr then none else some s.d | none => none) = some d := q1
          cases q3 : g.get i with
          | none => rw [q3] at q1'; cases q1'
          | some s =>
            rw [q3] at q1'
            dsimp only at q1'
            split at q1'
            · cases q1'
            · rename_i hm
              cases q1'
              obtain ⟨w, h1, h2⟩ := rl.at_ i s q3
              have h' : σ[i]? = some (some v) := h
              rw [h'] at h1
              cases h1
              obtain ⟨p, rfl, h3, h4⟩ := slAt_own h2 hm
              exact .io (hk.mpr fun s z => (by cases z)) h3 (h4.mono FN_le rfl) ih
        | tmp s =>
          cases q1
          obtain ⟨p, rfl, h1, h2, h3, h4⟩ := h
          exact .io (hk.mpr fun s z => (by cases z)) h2 (h4.mono FN_le rfl) ih
theorem ars_len {P : V → Ar → Prop} : ∀ {j : Nat} {vs : List V} {as : List Ar}, ArsAt P io j vs as → vs.length = as.length
  | _, _, _, .nil => rfl
  | _, _, _, .cons _ _ t => by rw [List.length_cons, List.length_cons, ars_len t]
/-- a call by its arguments -/
theorem call_sp {fn : Fn} {np : Nat} {vs dvs : List V} {as : List Ar} {more : List D} {Q : VK} (rl : Rel R F1 g1 σ H1) (st : Step g σ F H g1 F1 H1) (r0 : Rel R F g σ H) (hA : ArsAt (ArAt R F1 H1 H g1 σ) io 0 vs as) 
    (hd : Paired (At R.K (fun _ => none)) dvs more)
    (q : wp (doCall fn io np more as g1) (fun (s, g') => ∀ v F' H', Rel R F' g' σ H' → Step g σ F H g' F' H' → ResAt R g' σ H F' H' v s → Q v H') (ExW R W)) : spD R.K io np fn (vs ++ dvs) H1 Q W := by
  unfold doCall at q
  by_cases hcond : as.length + more.length = np ∧ ioLt io as.length = true
  rotate_left
  · rw [if_neg hcond] at q; exact q.elim
  rw [if_pos hcond] at q
  have hn : (vs ++ dvs).length = np := by rw [List.length_append, ars_len hA, hd.length]; exact hcond.1
  have hio : ∀ k, io = some k → k < vs.length := fun k z => by
    rw [ars_len hA]
    have := hcond.2
    rw [z] at this
    exact of_decide_eq_true this
  cases e : arsD g1 as with
  | none => rw [e] at q; exact q.elim
  | some ds =>
    rw [e] at q
    have hArg := args_of rl hd hA (by simpa using hio) e
    have hsp := ioOf_spec hA
    -- the object that is given away
    have hioA : ∀ k v, io = some k → vs[k]? = some v → ioA io (vs ++ dvs) = (match v with | .ref p => some p | _ => none) := fun k v h1 h2 => by
      unfold ioA
      rw [h1]
      have hk : k < vs.length := (List.getElem?_eq_some_iff.mp h2).1
      simp only [List.getElem?_append_left hk, h2]
      cases v <;> rfl
    refine ⟨F1, ds ++ more, rl.ex, hn, hArg, wp_mono (wp_bnd q) (fun (r, o) q1 v F' H' post => ?_) fun c hw H' fr => hw H' fun b u h1 h2 => fr b u (rl.keep b u h1 h2) fun eq => ?_⟩
    · dsimp only at q1
      cases q2 : ioOf as with
      | none =>
        rw [q2] at q1 hsp
        have hnone : ioA io (vs ++ dvs) = none := by
          unfold ioA
          cases h : io with
          | none => rfl
          | some k => exact absurd (hio k h) (Nat.not_lt.mpr (hsp k (by rw [h]; simp)))
        rw [hnone] at post
        cases o with
        | none =>
          obtain ⟨r', st'⟩ := rl.calledA post st r0 fun a z => by cases z
          exact q1 v F' H' r' st' (post.resAt rl st fun b z => z)
        | some _ => exact q1.elim
      | some oi =>
        rw [q2] at q1 hsp
        cases oi with
        | none =>
          obtain ⟨k, w, s, h1, h2, p, rfl, h3, h4, h5, h6⟩ := hsp
          rw [hioA k _ (by simpa using h1) h2] at post
          cases o with
          | none => exact q1.elim
          | some dn =>
            obtain ⟨r', st'⟩ := rl.calledA post st r0 fun a z => by cases z; exact ⟨h5, h3⟩
            exact q1 v F' H' r' st' (post.resAt rl st fun b z => z)
        | some i =>
          obtain ⟨k, w, h1, h2, h3⟩ := hsp
          have h3' : σ[i]? = some (some w) := h3
          cases o with
          | none => exact q1.elim
          | some dn =>
            dsimp only at q1
            cases q3 : g1.get i with
            | none => rw [q3] at q1; exact q1.elim
            | some t =>
              rw [q3] at q1
              dsimp only at q1
              split at q1
              · exact q1.elim
              · rename_i hm
                obtain ⟨w', h4, h5⟩ := rl.at_ i t q3
                rw [h3'] at h4
                cases h4
                obtain ⟨p, rfl, h6, h7⟩ := slAt_own h5 hm
                rw [hioA k _ (by simpa using h1) h2] at post
                obtain ⟨r', st'⟩ := rl.calledB post q3 hm h3'
                exact q1 v F' H' r' (st.trans st') (post.resAt rl st fun b z => z.put_le q3 fun _ => hm)
    · -- an exception: what stood at the entry stands
      cases q2 : ioOf as with
      | none =>
        rw [q2] at hsp
        have hnone : ioA io (vs ++ dvs) = none := by
          unfold ioA
          cases h : io with
          | none => rfl
          | some k => exact absurd (hio k h) (Nat.not_lt.mpr (hsp k (by rw [h]; simp)))
        rw [hnone] at eq
        cases eq
      | some oi =>
        rw [q2] at hsp
        cases oi with
        | none =>
          obtain ⟨k, w, s, h3, h4, p, rfl, h5, h6, h7, h8⟩ := hsp
          rw [hioA k _ (by simpa using h3) h4] at eq
          cases eq
          rw [(r0.fresh h5).2.1] at h1
          cases h1
        | some i =>
          obtain ⟨k, w, h3, h4, h5⟩ := hsp
          have h5' : σ[i]? = some (some w) := h5
          rw [hioA k _ (by simpa using h3) h4] at eq
          cases w with
          | ref p =>
            cases eq
            have : ∃ t, g1.get i = some t ∧ t.m ≠ .fr := by
              have : ∀ (as : List Ar) (ds : List D), arsD g1 as = some ds → ioOf as = some (some i) → ∃ t, g1.get i = some t ∧ t.m ≠ .fr := by
                intro as
                induction as with
                | nil => intro ds _ h; cases h
                | cons a as ih =>
                  intro ds h6 h7
                  have h6' : (match a.d g1, arsD g1 as with
                    | some d, some ds => some (d :: ds)
                    | _, _ => none) = some ds := h6
                  cases a with
                  | val s =>
                    cases q4 : arsD g1 as with
                    | none => rw [q4] at h6'; simp [Ar.d] at h6'
                    | some rs => exact ih rs q4 h7
                  | slot i' =>
                    cases h7
                    cases q4 : g1.get i with
                    | none => simp [Ar.d, q4] at h6'
                    | some t =>
                      refine ⟨t, rfl, fun hm => ?_⟩
                      simp [Ar.d, q4, hm] at h6'
                  | tmp s => cases h7
              exact this as ds e q2
            obtain ⟨t, h6, h7⟩ := this
            obtain ⟨w', h8, h9⟩ := rl.at_ i t h6
            rw [h5'] at h8
            cases h8
            obtain ⟨d, m, n⟩ := t
            cases m with
            | fr => exact absurd rfl h7
            | ow =>
              obtain ⟨q', e', _, h10, _⟩ := h9
              cases e'
              rw [h10] at h1
              cases h1
            | io =>
              obtain ⟨q', e', _, h10, _⟩ := h9
              cases e'
              exact h2 _ h10 rfl
          | _ => cases eq
end
end Y
set_option Elab.async false
set_option linter.all false
set_option maxRecDepth 100000
set_option maxHeartbeats 2000000
namespace Y
open PySem PySem.Spec L2
/-- a def at f that keeps the evaluator's promise, at a level -/
def CalleeAt (X : Cx) (K : PySem.W.Frag) (E : Ev) (fn : Nat → Fn) (k fid : Nat) (f : Addr) : Prop := ∃ (fd : FuncData) (ps : List Str), ps.length = E.np fid ∧ FnOk X.prog X.w X.K X.mg X.base (L2.CX X.prog X.w) k f fd ps (spD K (E.io fid) (E.np fid) (fn fid)) ∧
  ∀ n, n + (moreOf E fid n).length = E.np fid → ∃ (ds : List Value) (dvs : List V), Binds X.K fd ps ds ∧ Vals dvs ds ∧ Paired (At K (fun _ => none)) dvs (moreOf E fid n)
/-- all that the callees promise -/
structure Lv (X : Cx) (K : PySem.W.Frag) (E : Ev) (k : Nat) : Prop where
  gl : ∀ x fid, E.gl x = some fid → ∃ f, X.mg x = some (.ref f) ∧ PySem.W.keepIn X.K (.ref f) = true ∧ CalleeAt X K E E.fn k fid f
  mt : ∀ c m fid, E.mt c m = some fid → ∃ f, Cls X.K (He.ga K c) ∧ Meth X.K (He.ga K c) m f ∧ CalleeAt X K E E.fn k fid f
  ini : ∀ c fid, E.ini c = some fid → ∃ f j, j + 1 = k ∧ X.mg c = some (.ref (He.ga K c)) ∧ Mk X.K (He.ga K c) f ∧ CalleeAt X K E E.fm j fid f
section
variable {X : Cx} {R : Fr} {W : XK} {E : Ev} {e : Expr} {es : List Expr} {c co : C} {cs : List C} {pos p apos : Pos} {o : Expr} {k : Nat}
theorem ifNone {α : Type} {C : Prop} [Decidable C] {m : M α} {P : α → Prop} {W : Str → Prop} (h : wp (if C then m else none) P W) : C ∧ wp m P W := by
  by_cases hc : C
  · rw [if_pos hc] at h; exact ⟨hc, h⟩
  · rw [if_neg hc] at h; exact h.elim
theorem doCall_n {fn : Fn} {io : Option Nat} {np : Nat} {more : List D} {as : List Ar} {g : G} {P : Sl × G → Prop} {W : Str → Prop} (h : wp (doCall fn io np more as g) P W) : as.length + more.length = np := by
  unfold doCall at h
  exact (ifNone h).1.1
theorem evA_len {E : Ev} {io : Option Nat} : ∀ {cs : List C} {j : Nat} {g g' : G} {as : List Ar}, evA E io j cs g = some (.ok (as, g')) → as.length = cs.length
  | [], j, g, g', as, h => by cases h; rfl
  | c :: cs, j, g, g', as, h => by
    have h' : M.bnd (arg1 io j c (evE E c) g) (fun (a, g1) => M.bnd (evA E io (j + 1) cs g1) fun (as, g2) => some (.ok (a :: as, g2))) = some (.ok (as, g')) := h
    cases q : arg1 io j c (evE E c) g with
    | none => rw [q] at h'; cases h'
    | some o =>
      cases o with
      | ex c => rw [q] at h'; cases h'
      | ok p =>
        obtain ⟨a, g1⟩ := p
        rw [q] at h'
        simp only [bnd_ok] at h'
        cases q2 : evA E io (j + 1) cs g1 with
        | none => rw [q2] at h'; cases h'
        | some o =>
          cases o with
          | ex c => rw [q2] at h'; cases h'
          | ok p =>
            obtain ⟨as2, g2⟩ := p
            rw [q2] at h'
            cases h'
            rw [List.length_cons, List.length_cons, evA_len q2]
/-- .. known in the wp -/
theorem wp_evA {E : Ev} {io : Option Nat} {cs : List C} {j : Nat} {g : G} {P : List Ar × G → Prop} {W : Str → Prop} (h : wp (evA E io j cs g) P W) : wp (evA E io j cs g) (fun p => p.1.length = cs.length ∧ P p) W := by
  cases q : evA E io j cs g with
  | none => rw [q] at h; exact h
  | some o =>
    rw [q] at h
    cases o with
    | ex c => exact h
    | ok p => obtain ⟨as, g1⟩ := p; exact ⟨evA_len q, h⟩
/-- a call of a def with callees told at the moment of the call: as pe_call, the wish of the arguments first -/
theorem pe_callD {x : Str} {f : Addr} {fd : FuncData} {ps : List Str} {sp : Sp} {t : TA} {CX : CXT} {E : XK} (F : FnOk X.prog X.w X.K X.mg X.base CX k f fd ps sp) (hr : Room k X.A) (hg : Gl X x) (hm : X.mg x = some (.ref f)) (hk : PySem.W.keepIn X.K (.ref f) = true)
    (hx : Passes CX X E) (ha : PA X (e :: es) t) (hdb : (x == ("__debug__" : Str)) = false) (he : starEach (e :: es) X.env = (false, eval e X.env) :: starEach es X.env) (hpl : (backTo pos (starEach es X.env)).any (·.1) = false) :
    PE X (.Call (.Name x p) (e :: es) [] pos) (fun σ H Q => t σ H fun vs H1 => ∃ ds dvs, Binds X.K fd ps ds ∧ Vals dvs ds ∧ sp (vs ++ dvs) H1 Q E) := by
  refine ⟨fun pins s σ H Q I h => ?_⟩
  refine wpAny_Call_Name_kw (ld_glob I hg hm ?_ hdb)
  refine PySem.W.callWith_K (h₀ := X.base) I.ok.mod.kin hk (thn (ha.run pos pins s σ H _ I h) fun us s1 ⟨vs, H1, I1, r, ds, dvs, hb, hd, q⟩ => ⟨I1.kIn, ?_⟩) he hpl
  exact run_fn F hr hb hd hx I1 r q
theorem pe_methD {m : Str} {pl : Sem Bool} {ta : TE} {t : TA} {CX : CXT} {E : XK} (he : PE X o ta) (hr : Room k X.A) (hx : Passes CX X E) (ha : PA X (e :: es) t)
    (hst : starEach (e :: es) X.env = (false, eval e X.env) :: starEach es X.env) (hpl : (backTo pos (starEach es X.env)).any (·.1) = false)
    (ht : eval (.Call (.Attribute o m apos) (e :: es) [] pos) X.env = (do
      let ov ← eval o X.env
      standAt apos.atName
      let (f, first) ← holding [ov] (getMethod ov m pl)
      callWith pos f first (backTo pos (starEach (e :: es) X.env)) (backToKw pos (keywordEach [] X.env)))) :
    PE X (.Call (.Attribute o m apos) (e :: es) [] pos) (fun σ H Q => ta σ H fun x H1 => ∃ a C dx fs f, x = .ref a ∧ H1 a = some (.ins C dx fs) ∧ Cls X.K C ∧ Meth X.K C m f ∧ fs.lookup m = none ∧
      t σ H1 fun vs H2 => ∃ fd ps sp ds dvs, FnOk X.prog X.w X.K X.mg X.base CX k f fd ps sp ∧ Binds X.K fd ps ds ∧ Vals dvs ds ∧ sp (x :: (vs ++ dvs)) H2 Q E) := by
  refine ⟨fun pins s σ H Q I h => ?_⟩
  refine PySem.W.methodCall_KW (pl := pl) (thn (he.run pins s σ H _ I h) fun u s1 ⟨x, H1, I1, rx, a, C, dx, fs, f, ex, ea, c, hm, l, q⟩ => ?_) ht
  subst ex
  obtain rfl : u = Value.ref a := rx
  refine getmeth_ok I1 ea c hm l ?_
  refine PySem.W.callWith_K (first := [.ref a]) (h₀ := X.base) I.ok.mod.kin hm.kp (thn (ha.run pos pins s1 σ H1 _ I1 q) fun us s2 ⟨vs, H2, I2, r, fd, ps, sp, ds, dvs, F, hb, hd, q2⟩ => ⟨I2.kIn, ?_⟩) hst hpl
  exact run_fn (us := .ref a :: us) (vs := .ref a :: vs) F hr hb hd hx I2 (.cons rfl r) q2
theorem pe_call_ {x : Str} {fid : Nat} (hK : X.K = R.K) (tk : Takes X (fun cls d _ H => W cls d H)) (L : Lv X R.K E k) (hx : E.gl x = some fid) (hr : Room k X.A) (hg : Gl X x) (ha : PA X (e :: es) (TA_ R W (E.io fid) 0 (evA E (E.io fid) 0 (c :: cs))))
    (hdb : (x == ("__debug__" : Str)) = false) (he : starEach (e :: es) X.env = (false, eval e X.env) :: starEach es X.env) (hpl : (backTo pos (starEach es X.env)).any (·.1) = false) :
    PE X (.Call (.Name x p) (e :: es) [] pos) (TE_ R W (evE E (.call fid (c :: cs)))) := by
  obtain ⟨f, hm, hk, fd, ps, hps, F, hb⟩ := L.gl x fid hx
  refine PE.imp (pe_callD F hr hg hm hk (passes_call tk fun _ _ _ _ z => z) ha hdb he hpl) fun σ H Q ⟨F0, g, r, q⟩ => ?_
  refine ⟨F0, g, r, wp_mono (wp_evA (wp_bnd q)) (fun (as, g1) ⟨hlen, q1⟩ vs F1 H1 r1 st1 hA => ?_) fun _ z => z⟩
  have hn := doCall_n q1
  have hl : as.length = (c :: cs).length := hlen
  rw [hl] at hn
  obtain ⟨ds, dvs, b1, b2, b3⟩ := hb (c :: cs).length hn
  exact ⟨ds, dvs, b1, b2, call_sp r1 st1 r hA b3 q1⟩
theorem pe_call0_ {x : Str} {fid : Nat} (hK : X.K = R.K) (tk : Takes X (fun cls d _ H => W cls d H)) (L : Lv X R.K E k) (hx : E.gl x = some fid) (hr : Room k X.A) (hg : Gl X x) (hdb : (x == ("__debug__" : Str)) = false) (hn : 0 + (moreOf E fid 0).length = E.np fid) :
    PE X (.Call (.Name x p) [] [] pos) (TE_ R W (evE E (.call fid []))) := by
  obtain ⟨f, hm, hk, fd, ps, hps, F, hb⟩ := L.gl x fid hx
  obtain ⟨ds, dvs, b1, b2, b3⟩ := hb 0 hn
  exact PE.imp (pe_call0 F hr hg hm hk b1 b2 (passes_call tk fun _ _ _ _ z => z) hdb) fun σ H Q ⟨F0, g, r, q⟩ => call_sp (vs := []) (as := []) r (Step.refl g σ F0 H) r .nil b3 q
/-- what an argument is, seen -/
theorem self_of {F H H0 : Hp} {g : G} {σ : L2.St} {v : V} {a : Ar} {m : Str} {fid : Nat} (rl : Rel R F g σ H) (h : ArAt R F H H0 g σ v a) (e : selfFid E m g a = some fid) :
    ∃ c q dx kvs, v = .ref q ∧ H q = some (.ins (He.ga R.K c) dx kvs) ∧ E.mt c m = some fid ∧ kvs.lookup m = none := by
  have main : ∀ d : D, selfD E m d = some fid → View R.K F H v d → ∃ c q dx kvs, v = .ref q ∧ H q = some (.ins (He.ga R.K c) dx kvs) ∧ E.mt c m = some fid ∧ kvs.lookup m = none := fun d hd hv => by
    cases d with
    | obj c fs xs =>
      have hd' : (if fs.contains m then none else E.mt c m) = some fid := hd
      split at hd'
      · cases hd'
      · rename_i hc
        obtain ⟨q, dx, kvs, rfl, h1, h2, h3⟩ := hv.as_obj
        refine ⟨c, q, dx, kvs, rfl, h1, hd', lookup_none ?_⟩
        rw [h2]
        intro z
        exact hc (List.contains_iff_mem.mpr z)
    | _ => cases hd
  cases a with
  | val s => exact main s.d e (At.view rl.ex (At.mono FN_le _ _ h))
  | slot i =>
    cases q : g.get i with
    | none => simp only [selfFid, q] at e; cases e
    | some s =>
      simp only [selfFid, q] at e
      obtain ⟨w, h1, h2⟩ := rl.at_ i s q
      have h' : σ[i]? = some (some v) := h
      rw [h'] at h1
      cases h1
      refine main s.d e ?_
      obtain ⟨d, m, n⟩ := s
      cases m with
      | fr => exact At.view rl.ex (At.mono FN_le _ _ h2)
      | ow =>
        obtain ⟨p, rfl, _, _, h4⟩ := h2
        exact .top (h4.mono FN_le rfl)
      | io =>
        obtain ⟨p, rfl, _, _, h4⟩ := h2
        exact .top (h4.mono FN_le rfl)
  | tmp s =>
    obtain ⟨p, rfl, _, _, _, h4⟩ := h
    exact main s.d e (.top (h4.mono FN_le rfl))
theorem pe_meth_ {m : Str} {pl : Sem Bool} {io : Option Nat} (hK : X.K = R.K) (tk : Takes X (fun cls d _ H => W cls d H)) (L : Lv X R.K E k) (hr : Room k X.A) (ho : PE X o (TA1_ R W io 0 (arg1 io 0 co (evE E co)))) (ha : PA X (e :: es) (TA_ R W io 1 (evA E io 1 (c :: cs))))
    (hst : starEach (e :: es) X.env = (false, eval e X.env) :: starEach es X.env) (hpl : (backTo pos (starEach es X.env)).any (·.1) = false)
    (ht : eval (.Call (.Attribute o m apos) (e :: es) [] pos) X.env = (do
      let ov ← eval o X.env
      standAt apos.atName
      let (f, first) ← holding [ov] (getMethod ov m pl)
      callWith pos f first (backTo pos (starEach (e :: es) X.env)) (backToKw pos (keywordEach [] X.env)))) :
    PE X (.Call (.Attribute o m apos) (e :: es) [] pos) (TE_ R W (evE E (.meth m io co (c :: cs)))) := by
  refine PE.imp (pe_methD ho hr (passes_call tk fun _ _ _ _ z => z) ha hst hpl ht) fun σ H Q ⟨F0, g, r, q⟩ => ?_
  refine ⟨F0, g, r, wp_mono (wp_bnd q) (fun (a, g1) q1 v F1 H1 r1 st1 hA hk => ?_) fun _ z => z⟩
  dsimp only at q1
  cases e1 : selfFid E m g1 a with
  | none => rw [e1] at q1; exact q1.elim
  | some fid =>
    rw [e1] at q1
    obtain ⟨cl, q0, dx, kvs, rfl, h1, h2, h3⟩ := self_of r1 hA e1
    obtain ⟨f, hC, hM, fd, ps, hps, Fk, hb⟩ := L.mt cl m fid h2
    refine ⟨q0, _, dx, kvs, f, rfl, h1, hC, hM, h3, F1, g1, r1, wp_mono (wp_evA (wp_bnd q1)) (fun (as, g2) ⟨hlen, q2⟩ vs F2 H2 r2 st2 hAs => ?_) fun _ z => z⟩
    obtain ⟨hio, q3⟩ := ifNone q2
    have hn := doCall_n q3
    rw [List.length_cons] at hn
    have hl : as.length = (c :: cs).length := hlen
    rw [hl] at hn
    obtain ⟨ds, dvs, b1, b2, b3⟩ := hb ((c :: cs).length + 1) hn
    rw [hio] at Fk
    exact ⟨fd, ps, _, ds, dvs, Fk, b1, b2, call_sp (vs := .ref q0 :: vs) (as := a :: as) r2 (st1.trans st2) r (.cons (hA.mono r1 st2) hk (hAs.imp fun _ _ z => z.before st1)) b3 q3⟩
end
end Y
set_option Elab.async false
set_option linter.all false
set_option maxRecDepth 100000
set_option maxHeartbeats 2000000
namespace Y
open PySem PySem.Spec L2
section
variable {X : Cx} {R : Fr} {W : XK} {E : Ev} {e : Expr} {es : List Expr} {c co : C} {cs : List C} {pos p apos : Pos} {o : Expr} {k : Nat}
/-- a new instance, behind its __init__ -/
theorem new_sp {σ : L2.St} {cl : Str} {fid : Nat} {F H F1 H1 : Hp} {g g1 : G} {as : List Ar} {vs dvs : List V} {more : List D} {Q : VK} {n : Nat} (hmore : more = moreOf E fid n) (hio : E.io fid = some 0) (hnp : as.length + 1 + more.length = E.np fid)
    (rl : Rel R F1 g1 σ H1) (st : Step g σ F H g1 F1 H1) (r0 : Rel R F g σ H) (hA : ArsAt (ArAt R F1 H1 H g1 σ) (some 0) 1 vs as) (hd : Paired (At R.K (fun _ => none)) dvs more)
    (q : wp (match arsD g1 as with
      | some ds => M.bnd (E.fm fid (.obj cl [] [] :: (ds ++ more))) fun (r, o) => match r.d, o with
        | .non, some dn => some (.ok ((⟨dn.1, .ow, dn.2 || dn.1.kidsAtom⟩ : Sl), g1))
        | _, _ => none
      | none => none) (fun (s, g') => ∀ v F' H', Rel R F' g' σ H' → Step g σ F H g' F' H' → ResAt R g' σ H F' H' v s → Q v H') (ExW R W))
    (x dx : Addr) (nx : H1 x = none) (nd : H1 dx = none) (ne : dx ≠ x) :
    spD R.K (some 0) (E.np fid) (E.fm fid) (.ref x :: (vs ++ dvs)) (upd (upd H1 dx (.own x)) x (.ins (He.ga R.K cl) dx [])) (fun v H2 => v = .non ∧ Q (.ref x) H2) W := by
  have r2 : Rel R F1 g1 σ (upd H1 dx (.own x)) := rl.alloc nd
  have nx2 : upd H1 dx (.own x) x = none := by rw [upd_ne (Ne.symm ne)]; exact nx
  have r3 : Rel R F1 g1 σ (upd (upd H1 dx (.own x)) x (.ins (He.ga R.K cl) dx [])) := r2.alloc nx2
  have st3 : Step g σ F H g1 F1 (upd (upd H1 dx (.own x)) x (.ins (He.ga R.K cl) dx [])) := (st.trans (.alloc rl nd)).trans (.alloc r2 nx2)
  obtain ⟨f0, h0, no⟩ := rl.fresh nx
  cases e : arsD g1 as with
  | none => rw [e] at q; exact q.elim
  | some ds =>
    rw [e] at q
    have hArg0 : ArgAt R.K F1 H1 (some 0) 1 (vs ++ dvs) (ds ++ more) := args_of rl hd hA (fun k z => by cases z; omega) e
    have keepT : ∀ {a : Addr} {d : D}, Top R.K F1 H1 a d → Top R.K F1 (upd (upd H1 dx (.own x)) x (.ins (He.ga R.K cl) dx [])) a d := fun {a d} h => by
      obtain ⟨u, hu⟩ := h.is
      exact h.mono (Same.refl _) (by rw [upd_ne (ne_of_none hu nx), upd_ne (ne_of_none hu nd)])
    have hArg : ∀ {j : Nat} {vs : List V} {ds : List D}, ArgAt R.K F1 H1 (some 0) j vs ds → ArgAt R.K F1 (upd (upd H1 dx (.own x)) x (.ins (He.ga R.K cl) dx [])) (some 0) j vs ds := fun {j vs ds} h => by
      induction h with
      | nil => exact .nil
      | val h1 h2 _ ih => exact .val h1 h2 ih
      | io h1 h2 h3 _ ih => exact .io h1 h2 (keepT h3) ih
    refine ⟨F1, .obj cl [] [] :: (ds ++ more), r3.ex, ?_, .io rfl f0 (.obj upd_same rfl .nil) (hArg hArg0), wp_mono (wp_bnd q) (fun (r, o) q1 v F' H' post => ?_) fun c hw H' fr => hw H' fun b u h1 h2 => fr b u (r3.keep b u h1 h2) fun eq => ?_⟩
    · rw [List.length_cons, List.length_append, ars_len hA, hd.length]
      omega
    · have hioA : ioA (some 0) (V.ref x :: (vs ++ dvs)) = some x := rfl
      rw [hioA] at post
      obtain ⟨dr, mr, nr⟩ := r
      cases o with
      | none => dsimp only at q1; split at q1 <;> first | exact q1.elim | (rename_i h; cases h)
      | some dn =>
        have hnon : dr = .non := by
          dsimp only at q1
          split at q1
          · rfl
          · exact q1.elim
        subst hnon
        have hv : v = .non := by
          have hres := post.res
          cases mr with
          | fr => have h1 : At R.K (FN _ F' nr) v .non := hres; cases h1; rfl
          | ow =>
            obtain ⟨q', rfl, _, _, h3⟩ := hres
            cases h3
          | io => exact hres.elim
        obtain ⟨r', st'⟩ := r3.calledA post st3 r0 fun a z => by cases z; exact ⟨no, st.gone nx⟩
        refine ⟨hv, ?_⟩
        obtain ⟨dn', e2, hF, hT⟩ := post.io x rfl
        cases e2
        refine q1 _ F' H' r' st' ⟨x, rfl, st.gone nx, hF, no, ?_⟩
        show Top R.K (FN R.H0 F' (dn.2 || dn.1.kidsAtom)) H' x dn.1
        cases hk : dn.1.kidsAtom with
        | true => exact hT.atoms hk
        | false =>
          rw [Bool.or_false]
          refine hT.mono (fun b u z => ?_) rfl
          unfold FN at z ⊢
          split at z
          · cases z
          · rename_i h1
            split
            · rename_i h2
              exact absurd ⟨h2.1, r3.there b h2.2⟩ h1
            · exact z
    · have hioA : ioA (some 0) (V.ref x :: (vs ++ dvs)) = some x := rfl
      rw [hioA] at eq
      cases eq
      rw [h0] at h1
      cases h1
theorem new_q {A : Option Nat} {x : Str} {fid n : Nat} {g g1 : G} {as : List Ar} {P : Sl × G → Prop} {Wx : Str → Prop} (q : wp (if A = some 0 ∧ E.ini x = some fid ∧ as.length + 1 + (moreOf E fid n).length = E.np fid then match arsD g1 as with
      | some ds => M.bnd (E.fm fid (.obj x [] [] :: (ds ++ moreOf E fid n))) fun (r, o) => match r.d, o with
        | .non, some dn => some (.ok ((⟨dn.1, .ow, dn.2 || dn.1.kidsAtom⟩ : Sl), g1))
        | _, _ => none
      | none => none
    else none) P Wx) : as.length + 1 + (moreOf E fid n).length = E.np fid ∧ wp (match arsD g1 as with
      | some ds => M.bnd (E.fm fid (.obj x [] [] :: (ds ++ moreOf E fid n))) fun (r, o) => match r.d, o with
        | .non, some dn => some (.ok ((⟨dn.1, .ow, dn.2 || dn.1.kidsAtom⟩ : Sl), g1))
        | _, _ => none
      | none => none) P Wx := by
  obtain ⟨h1, h2⟩ := ifNone q
  exact ⟨h1.2.2, h2⟩
theorem pe_new_ {x : Str} {fid : Nat} (hK : X.K = R.K) (tk : Takes X (fun cls d _ H => W cls d H)) (L : Lv X R.K E k) (hx : E.ini x = some fid) (hr : Room k X.A) (hg : Gl X x) (hio : E.io fid = some 0) (hn : (c :: cs).length + 1 + (moreOf E fid ((c :: cs).length + 1)).length = E.np fid)
    (ha : PA X (e :: es) (TA_ R W (some 0) 1 (evA E (some 0) 1 (c :: cs))))
    (hdb : (x == ("__debug__" : Str)) = false) (he : starEach (e :: es) X.env = (false, eval e X.env) :: starEach es X.env) (hpl : (backTo pos (starEach es X.env)).any (·.1) = false) :
    PE X (.Call (.Name x p) (e :: es) [] pos) (TE_ R W (evE E (.new x fid (c :: cs)))) := by
  obtain ⟨f, j, hj, hm, hM, fd, ps, hps, F, hb⟩ := L.ini x fid hx
  obtain ⟨ds, dvs, b1, b2, b3⟩ := hb ((c :: cs).length + 1) hn
  refine PE.imp (pe_make hM F (hr.mono (by omega)) hg hm b1 b2 (passes_call tk fun _ _ _ _ z => z) ha hdb he hpl) fun σ H Q ⟨F0, g, r, q⟩ => ?_
  have q1 := wp_bnd q
  rw [hio] at q1
  refine ⟨F0, g, r, wp_mono q1 (fun (as, g1) q2 vs F1 H1 r1 st1 hA x dx nx nd ne => ?_) fun _ z => z⟩
  rw [hio]
  obtain ⟨h1, h2⟩ := new_q (g := g) q2
  exact new_sp (n := (c :: cs).length + 1) rfl hio h1 r1 st1 r hA b3 h2 x dx nx nd ne
theorem pe_new0_ {x : Str} {fid : Nat} (hK : X.K = R.K) (tk : Takes X (fun cls d _ H => W cls d H)) (L : Lv X R.K E k) (hx : E.ini x = some fid) (hr : Room k X.A) (hg : Gl X x) (hio : E.io fid = some 0) (hn : 0 + 1 + (moreOf E fid (0 + 1)).length = E.np fid)
    (hdb : (x == ("__debug__" : Str)) = false) :
    PE X (.Call (.Name x p) [] [] pos) (TE_ R W (evE E (.new x fid []))) := by
  obtain ⟨f, j, hj, hm, hM, fd, ps, hps, F, hb⟩ := L.ini x fid hx
  obtain ⟨ds, dvs, b1, b2, b3⟩ := hb (0 + 1) hn
  refine PE.imp (pe_make0 hM F (hr.mono (by omega)) hg hm b1 b2 (passes_call tk fun _ _ _ _ z => z) hdb) fun σ H Q ⟨F0, g, r, q⟩ => ?_
  intro x dx nx nd ne
  rw [hio]
  obtain ⟨h1, h2⟩ := new_q (g := g) (as := []) (n := 0 + 1) q
  exact new_sp (as := []) (n := 0 + 1) rfl hio h1 r (Step.refl g σ F0 H) r .nil b3 h2 x dx nx nd ne
theorem pe_meth0D {m : Str} {pl : Sem Bool} {ta : TE} {CX : CXT} {E : XK} (he : PE X o ta) (hr : Room k X.A) (hx : Passes CX X E)
    (ht : eval (.Call (.Attribute o m apos) [] [] pos) X.env = (do
      let ov ← eval o X.env
      standAt apos.atName
      let (f, first) ← holding [ov] (getMethod ov m pl)
      callWith pos f first (backTo pos (starEach [] X.env)) (backToKw pos (keywordEach [] X.env)))) :
    PE X (.Call (.Attribute o m apos) [] [] pos) (fun σ H Q => ta σ H fun x H1 => ∃ a C dx fs f, x = .ref a ∧ H1 a = some (.ins C dx fs) ∧ Cls X.K C ∧ Meth X.K C m f ∧ fs.lookup m = none ∧
      ∃ fd ps sp ds dvs, FnOk X.prog X.w X.K X.mg X.base CX k f fd ps sp ∧ Binds X.K fd ps ds ∧ Vals dvs ds ∧ sp (x :: dvs) H1 Q E) := by
  refine ⟨fun pins s σ H Q I h => ?_⟩
  refine PySem.W.methodCall_KW (pl := pl) (thn (he.run pins s σ H _ I h) fun u s1 ⟨x, H1, I1, rx, a, C, dx, fs, f, ex, ea, c, hm, l, fd, ps, sp, ds, dvs, F, hb, hd, q⟩ => ?_) ht
  subst ex
  obtain rfl : u = Value.ref a := rx
  refine getmeth_ok I1 ea c hm l ?_
  exact PySem.W.callWith_K0 (first := [.ref a]) I1.kIn hm.kp (run_fn (us := [.ref a]) (vs := [.ref a]) F hr hb hd hx I1 (.cons rfl .nil) q)
theorem pe_meth0_ {m : Str} {pl : Sem Bool} {io : Option Nat} (hK : X.K = R.K) (tk : Takes X (fun cls d _ H => W cls d H)) (L : Lv X R.K E k) (hr : Room k X.A) (ho : PE X o (TA1_ R W io 0 (arg1 io 0 co (evE E co))))
    (ht : eval (.Call (.Attribute o m apos) [] [] pos) X.env = (do
      let ov ← eval o X.env
      standAt apos.atName
      let (f, first) ← holding [ov] (getMethod ov m pl)
      callWith pos f first (backTo pos (starEach [] X.env)) (backToKw pos (keywordEach [] X.env)))) :
    PE X (.Call (.Attribute o m apos) [] [] pos) (TE_ R W (evE E (.meth m io co []))) := by
  refine PE.imp (pe_meth0D ho hr (passes_call tk fun _ _ _ _ z => z) ht) fun σ H Q ⟨F0, g, r, q⟩ => ?_
  refine ⟨F0, g, r, wp_mono (wp_bnd q) (fun (a, g1) q1 v F1 H1 r1 st1 hA hk => ?_) fun _ z => z⟩
  dsimp only at q1
  cases e1 : selfFid E m g1 a with
  | none => rw [e1] at q1; exact q1.elim
  | some fid =>
    rw [e1] at q1
    obtain ⟨cl, q0, dx, kvs, rfl, h1, h2, h3⟩ := self_of r1 hA e1
    obtain ⟨f, hC, hM, fd, ps, hps, Fk, hb⟩ := L.mt cl m fid h2
    have q2 : wp (if E.io fid = io then doCall (E.fn fid) io (E.np fid) (moreOf E fid (0 + 1)) [a] g1 else none) (fun (s, g') => ∀ v F' H', Rel R F' g' σ H' → Step g σ F0 H g' F' H' → ResAt R g' σ H F' H' v s → Q v H') (ExW R W) := q1
    obtain ⟨hio, q3⟩ := ifNone q2
    have hn := doCall_n q3
    obtain ⟨ds, dvs, b1, b2, b3⟩ := hb (0 + 1) hn
    rw [hio] at Fk
    exact ⟨q0, _, dx, kvs, f, rfl, h1, hC, hM, h3, fd, ps, _, ds, dvs, Fk, b1, b2, call_sp (vs := [.ref q0]) (as := [a]) r1 st1 r (.cons hA hk .nil) b3 q3⟩
end
end Y
set_option Elab.async false
set_option linter.all false
set_option maxRecDepth 100000
set_option maxHeartbeats 2000000
namespace Y
open PySem PySem.Spec L2
/-! ### what a for walks -/
/-- the i-th item comes: as it stands, or as a new pair -/
def YD (R : Fr) (F1 : Hp) (items : List D) (n : Bool) : Nat → Hp → V → Hp → Prop := fun i H x H' => ∃ d, items[i]? = some d ∧
  ((H' = H ∧ At R.K (FN R.H0 F1 n) x d) ∨ ∃ T a b da db, x = .ref T ∧ H T = none ∧ H' = upd H T (.tup [a, b]) ∧ d = .tup [da, db] ∧ At R.K (FN R.H0 F1 n) a da ∧ At R.K (FN R.H0 F1 n) b db)
structure IterOk (R : Fr) (J : It) (F1 : Hp) (items : List D) (n : Bool) : Prop where
  w : ∃ Gd, Walk J items.length Gd (YD R F1 items n) ∧ ∀ H, Same F1 H → Gd H
def TI_ (R : Fr) (W : XK) (E : Ev) (k : ItK) (its : List C) : TI := fun σ H Rr => ∃ F g, Rel R F g σ H ∧
  wp (evV E its g) (fun (ss, g') => match itemsK k ss with
    | some (items, n) => ∀ J F' H', Rel R F' g' σ H' → Step g σ F H g' F' H' → IterOk R J F' items n → Rr J H'
    | none => False) (ExW R W)
section
variable {R : Fr} {F H F1 : Hp} {g : G} {σ : L2.St} {n : Bool} {items : List D}
/-- an item's coming, in the frozen heap -/
theorem YD.go {i : Nat} {x : V} {H' : Hp} (y : YD R F1 items n i H x H') (r : Rel R F g σ H) (e : Same F1 F) : ∃ d F', items[i]? = some d ∧ Rel R F' g σ H' ∧ Step g σ F H g F' H' ∧ At R.K (FN R.H0 F' n) x d := by
  obtain ⟨d, hd, ⟨rfl, h⟩ | ⟨T, a, b, da, db, rfl, hT, rfl, rfl, ha, hb⟩⟩ := y
  · exact ⟨d, F, hd, r, Step.refl _ _ _ _, At.mono (FN_mono e) _ _ h⟩
  · obtain ⟨f0, h0, no⟩ := r.fresh hT
    have e1 : Same (FN R.H0 F1 n) (FN R.H0 (upd F T (.tup [a, b])) n) := FN_mono (e.trans (same_upd f0))
    refine ⟨.tup [da, db], upd F T (.tup [a, b]), hd, (r.alloc hT).freeze f0 upd_same no, (Step.alloc r hT).freeze hT f0, .tup (vs := [a, b]) ?_ (.cons (At.mono e1 _ _ ha) (.cons (At.mono e1 _ _ hb) .nil))⟩
    rw [FN_new h0, upd_same]
theorem IterOk.by {J : It} {m : Nat} {Gd : Hp → Prop} (w : Walk J m Gd (YD R F items n)) (hl : m = items.length) (hG : ∀ H, Same F H → Gd H) : IterOk R J F items n := ⟨_, hl ▸ w, hG⟩
theorem iter_lst {a : Addr} {vs : List V} {ds : List D} (h : F a = some (.lst vs)) (hp : Paired (At R.K (FN R.H0 F n)) vs ds) : IterOk R (Itl R.K a) F ds n := by
  refine .by ((walk_list (K := R.K) (a := a) (xs := vs)).mono (G' := fun H => Same F H) (fun H e => SqL.of (e _ _ h)) fun i H x H' hi _ ⟨h1, h2⟩ => ?_) (hp.length) fun H e => e
  obtain ⟨d, h3, h4⟩ := hp.yatL h2
  exact ⟨d, h3, .inl ⟨h1, h4⟩⟩
theorem iter_scr {a : Addr} {ns : List Int} (h : SqL R.K F a (ns.map V.int)) : IterOk R (Itl R.K a) F (ns.map .int) n := by
  refine .by ((walk_list (K := R.K) (a := a) (xs := ns.map V.int)).mono (G' := fun H => Same F H) (fun H e => e.seq h) fun i H x H' hi _ ⟨h1, h2⟩ => ?_) (by rw [List.length_map, List.length_map]) fun H e => e
  rw [List.getElem?_map] at h2
  cases q : ns[i]? with
  | none => rw [q] at h2; cases h2
  | some m =>
    rw [q] at h2
    cases h2
    exact ⟨.int m, by rw [List.getElem?_map, q]; rfl, .inl ⟨h1, .int m⟩⟩
theorem iter_tup {a : Addr} {vs : List V} {ds : List D} (h : F a = some (.tup vs)) (hp : Paired (At R.K (FN R.H0 F n)) vs ds) : IterOk R (Itt R.K a) F ds n := by
  refine .by ((walk_tup (K := R.K) (a := a) (xs := vs)).mono (G' := fun H => Same F H) (fun H e => SqT.of (e _ _ h)) fun i H x H' hi _ ⟨h1, h2⟩ => ?_) (hp.length) fun H e => e
  obtain ⟨d, h3, h4⟩ := hp.yatL h2
  exact ⟨d, h3, .inl ⟨h1, h4⟩⟩
theorem strItems_len (z : Str) : (strItems z).length = z.cps.size := by
  unfold strItems
  rw [List.length_map, Array.length_toList]
theorem iter_str {z : Str} : IterOk R (Its z) F (strItems z) n := by
  refine .by ((walk_str (z := z)).mono (G' := fun _ => True) (fun H e => e) fun i H x H' hi _ ⟨h1, c, h2, h3⟩ => ?_) ((strItems_len z).symm) fun H e => trivial
  subst h3
  refine ⟨.str ⟨#[c]⟩, ?_, .inl ⟨h1, .str _⟩⟩
  unfold strItems
  rw [List.getElem?_map, Array.getElem?_toList, h2]
  rfl
theorem rngL_len (lo : Int) (m : Nat) (c : Int) : (rngL lo m c).length = m := by
  unfold rngL
  rw [List.length_map, List.length_range]
theorem rngL_at {lo : Int} {m : Nat} {c : Int} {i : Nat} (h : i < m) : (rngL lo m c)[i]? = some (.int (lo + (i : Int) * c)) := by
  unfold rngL
  rw [List.getElem?_map, List.getElem?_range h]
  rfl
theorem iter_rng {lo : Int} {m : Nat} : IterOk R (Itr lo m) F (rngL lo m 1) n := by
  refine .by ((walk_range (lo := lo) (n := m)).mono (G' := fun _ => True) (fun H e => e) fun i H x H' hi _ ⟨h1, h2⟩ => ?_) ((rngL_len _ _ _).symm) fun H e => trivial
  subst h2
  refine ⟨_, rngL_at hi, .inl ⟨h1, ?_⟩⟩
  rw [Int.mul_one]
  exact .int _
theorem iter_rngC {lo c : Int} {m : Nat} : IterOk R (Itc lo c m) F (rngL lo m c) n := by
  refine .by ((walk_rangeC (lo := lo) (c := c) (n := m)).mono (G' := fun _ => True) (fun H e => e) fun i H x H' hi _ ⟨h1, h2⟩ => ?_) ((rngL_len _ _ _).symm) fun H e => trivial
  subst h2
  exact ⟨_, rngL_at hi, .inl ⟨h1, .int _⟩⟩
theorem iter_enum {a : Addr} {vs : List V} {ds : List D} (h : F a = some (.lst vs)) (hp : Paired (At R.K (FN R.H0 F n)) vs ds) : IterOk R (Ite R.K a) F (enumL ds) n := by
  refine .by ((walk_enum (K := R.K) (a := a) (xs := vs)).mono (G' := fun H => Same F H) (fun H e => SqL.of (e _ _ h)) fun i H x H' hi _ ⟨T, p, q, h1, h2, h3, h4, h5⟩ => ?_) (by unfold enumL; rw [List.length_map, List.length_zipIdx, hp.length]) fun H e => e
  obtain ⟨d, h6, h7⟩ := hp.yatL h5
  cases h4
  refine ⟨.tup [.int (i : Nat), d], ?_, .inr ⟨T, _, q, _, d, h1, h2, h3, rfl, .int _, h7⟩⟩
  unfold enumL
  rw [List.getElem?_map, List.getElem?_zipIdx, h6]
  simp
theorem zip_at {xs ys : List D} {i : Nat} {a b : D} (h1 : xs[i]? = some a) (h2 : ys[i]? = some b) : (zipL xs ys)[i]? = some (.tup [a, b]) := by
  unfold zipL
  rw [List.getElem?_map]
  have : (xs.zip ys)[i]? = some (a, b) := by
    rw [List.getElem?_zip_eq_some]
    exact ⟨h1, h2⟩
  rw [this]
  rfl
theorem zip_len {xs ys : List D} : (zipL xs ys).length = min xs.length ys.length := by
  unfold zipL
  rw [List.length_map, List.length_zip]
theorem walk_zipT {K : PySem.W.Frag} {a b : Addr} {xs ys : List V} {n : Nat} (hn : n = min xs.length ys.length) : Walk (RZ.ItzT K a b) n (fun H => SqT K H a xs ∧ SqT K H b ys) (YPair (fun i => xs[i]?) (fun i => ys[i]?)) := by
  subst hn
  refine ⟨fun i _ hi q => ?_, fun _ q => ⟨xs, ys, q.1, q.2, by omega⟩, fun i H v H' _ q y => ?_⟩
  · have h1 : i < xs.length := by omega
    have h2 : i < ys.length := by omega
    exact ⟨xs, ys, xs[i], ys[i], q.1, q.2, by simp [h1], by simp [h2]⟩
  · obtain ⟨T, x, z, h1, h2, h3, h4, h5⟩ := y
    exact ⟨T, x, z, h1, h2, h3, h4 xs q.1, h5 ys q.2⟩
theorem iter_zip {a b : Addr} {vs ws : List V} {ds es : List D} (h : F a = some (.lst vs)) (h' : F b = some (.lst ws)) (hp : Paired (At R.K (FN R.H0 F n)) vs ds) (hp' : Paired (At R.K (FN R.H0 F n)) ws es) : IterOk R (Itz R.K a b) F (zipL ds es) n := by
  refine .by ((walk_zip (K := R.K) (a := a) (b := b) (xs := vs) (ys := ws) rfl).mono (G' := fun H => Same F H) (fun H e => ⟨SqL.of (e _ _ h), SqL.of (e _ _ h')⟩) fun i H x H' hi _ ⟨T, p, q, h1, h2, h3, h4, h5⟩ => ?_) (by rw [zip_len, hp.length, hp'.length]) fun H e => e
  obtain ⟨d, h6, h7⟩ := hp.yatL h4
  obtain ⟨d', h8, h9⟩ := hp'.yatL h5
  exact ⟨.tup [d, d'], zip_at h6 h8, .inr ⟨T, p, q, d, d', h1, h2, h3, rfl, h7, h9⟩⟩
theorem iter_zipT {a b : Addr} {vs ws : List V} {ds es : List D} (h : F a = some (.tup vs)) (h' : F b = some (.tup ws)) (hp : Paired (At R.K (FN R.H0 F n)) vs ds) (hp' : Paired (At R.K (FN R.H0 F n)) ws es) : IterOk R (RZ.ItzT R.K a b) F (zipL ds es) n := by
  refine .by ((walk_zipT (K := R.K) (a := a) (b := b) (xs := vs) (ys := ws) rfl).mono (G' := fun H => Same F H) (fun H e => ⟨SqT.of (e _ _ h), SqT.of (e _ _ h')⟩) fun i H x H' hi _ ⟨T, p, q, h1, h2, h3, h4, h5⟩ => ?_) (by rw [zip_len, hp.length, hp'.length]) fun H e => e
  obtain ⟨d, h6, h7⟩ := hp.yatL h4
  obtain ⟨d', h8, h9⟩ := hp'.yatL h5
  exact ⟨.tup [d, d'], zip_at h6 h8, .inr ⟨T, p, q, d, d', h1, h2, h3, rfl, h7, h9⟩⟩
theorem at_strs {K : PySem.W.Frag} {G : Hp} : ∀ xs : List Str, Paired (At K G) (xs.map V.str) (xs.map D.str)
  | [] => .nil
  | n :: ns => .cons (.str n) (at_strs ns)
theorem iter_zipK {a b : Addr} {vs : List V} {ds : List D} {ss : List Str} (h : F a = some (.tup vs)) (h' : SqT R.K (fun _ => none) b (ss.map V.str)) (hp : Paired (At R.K (FN R.H0 F n)) vs ds) : IterOk R (RZ.ItzT R.K a b) F (zipL ds (ss.map .str)) n := by
  have hp' := at_strs (K := R.K) (G := FN R.H0 F n) ss
  refine .by ((walk_zipT (K := R.K) (a := a) (b := b) (xs := vs) (ys := ss.map V.str) rfl).mono (G' := fun H => Same F H) (fun H e => ⟨SqT.of (e _ _ h), ex_seqT (fun b o z => by cases z) h'⟩) fun i H x H' hi _ ⟨T, p, q, h1, h2, h3, h4, h5⟩ => ?_) (by rw [zip_len, hp.length, hp'.length]) fun H e => e
  obtain ⟨d, h6, h7⟩ := hp.yatL h4
  obtain ⟨d', h8, h9⟩ := hp'.yatL h5
  exact ⟨.tup [d, d'], zip_at h6 h8, .inr ⟨T, p, q, d, d', h1, h2, h3, rfl, h7, h9⟩⟩
end
/-! ### the iterables' forms -/
section
variable {X : Cx} {R : Fr} {W : XK} {E : Ev} {tg e : Expr} {es : List Expr} {c : C} {cs : List C} {p pos : Pos}
/-- the iterator of a value -/
theorem iter_any {pins : List (Addr × Obj)} {σ : L2.St} {H F : Hp} {s : Shared} {v : V} {u : Value} {d : D} {n : Bool} {items : List D} {Rr : It → Hp → Prop} (hK : X.K = R.K) (I : Inv X pins σ H s) (ru : RelV v u) (eF : Same F H) (h : At R.K (FN R.H0 F n) v d) (hi : d.items = some items)
    (q : ∀ J, IterOk R J F items n → Rr J H) : wpAny (model X.prog X.w) X.A (pyIter u) (PIE X pins σ tg Rr) X.xe s := by
  cases h with
  | lst h1 h2 =>
    cases hi
    cases ru
    have hq : SqL X.K H _ _ := SqL.of (eF _ _ (FN_le _ _ h1))
    obtain ⟨its, rv, p, hz⟩ := I.list hq
    refine wpAny_pyIter_list p.isList ?_
    exact pi_one (tk := s.toks) I _ (turn_list _ _) ⟨_, Heap.get?_push_size _ rfl, rfl, rfl⟩ (by rw [hK]; exact q _ (iter_lst (FN_le _ _ h1) h2))
  | scr h1 =>
    cases hi
    cases ru
    have hq := eF.seq (FN_le.seq h1)
    rw [← hK] at hq
    obtain ⟨its, rv, p, hz⟩ := I.list hq
    refine wpAny_pyIter_list p.isList ?_
    exact pi_one (tk := s.toks) I _ (turn_list _ _) ⟨_, Heap.get?_push_size _ rfl, rfl, rfl⟩ (by rw [hK]; exact q _ (iter_scr (FN_le.seq h1)))
  | tup h1 h2 =>
    cases hi
    cases ru
    have hq : SqT X.K H _ _ := SqT.of (eF _ _ (FN_le _ _ h1))
    obtain ⟨its, rv, p, hz⟩ := I.tuple hq
    refine wpAny_pyIter_tuple (show s.heap.IsTuple _ its.toArray from p) ?_
    exact pi_one (tk := s.toks) I _ (turn_tuple _ _) ⟨_, Heap.get?_push_size _ rfl, rfl, rfl⟩ (by rw [hK]; exact q _ (iter_tup (FN_le _ _ h1) h2))
  | str x =>
    cases hi
    obtain ⟨t, rfl⟩ := ru
    cases ha : x.cps.all (· < 128)
    · exact wpAny_pyIter_wide ha (pi_one (tk := s.toks) I _ (turn_str _ x t "str_iterator" (.inr rfl)) ⟨_, Heap.get?_push_size _ rfl, rfl, rfl⟩ (q _ iter_str))
    · exact wpAny_pyIter_ascii ha (pi_one (tk := s.toks) I _ (turn_str _ x t "str_ascii_iterator" (.inl rfl)) ⟨_, Heap.get?_push_size _ rfl, rfl, rfl⟩ (q _ iter_str))
  | _ => cases hi
theorem pi_any_ (hK : X.K = R.K) (he : PE X e (TE_ R W (evE E c))) : PI X tg e (TI_ R W E .any [c]) := by
  refine ⟨fun pins s σ H Rr I ⟨F, g, r, q⟩ => ?_⟩
  have q' : wp (M.bnd (evE E c g) fun (s, g1) => M.bnd (some (.ok ([], g1)) : M (List Sl × G)) fun (ss, g2) => some (.ok (s.frz :: ss, g2))) (fun (ss, g') => match itemsK .any ss with
    | some (items, n) => ∀ J F' H', Rel R F' g' σ H' → Step g σ F H g' F' H' → IterOk R J F' items n → Rr J H'
    | none => False) (ExW R W) := q
  have q1 : TF_ R W (evE E c) σ H (fun v H' => ∃ F' d n items, Same F' H' ∧ At R.K (FN R.H0 F' n) v d ∧ d.items = some items ∧ ∀ J, IterOk R J F' items n → Rr J H') := by
    refine ⟨F, g, r, wp_mono (wp_bnd q') (fun (s1, g1) q2 v F' H' r' st h => ?_) fun _ z => z⟩
    have q3 : match (s1.d.items.map fun l => (l, s1.n)) with
      | some (items, n) => ∀ J F' H', Rel R F' g1 σ H' → Step g σ F H g1 F' H' → IterOk R J F' items n → Rr J H'
      | none => False := q2
    cases hi : s1.d.items with
    | none => rw [hi] at q3; exact q3.elim
    | some l =>
      rw [hi] at q3
      exact ⟨F', s1.d, s1.n, l, r'.ex, h, hi, fun J ok => q3 J F' H' r' st ok⟩
  refine thn ((pe_frz he).run pins s σ H _ I q1) fun u s1 ⟨v, H1, I1, ru, F', d, n, items, eF, hv, hi, k⟩ => ?_
  exact iter_any hK I1 ru eF hv hi k
theorem rngOk_iff {i : Int} (h : rngOk i = true) : -(2 ^ 62) ≤ i ∧ i < 2 ^ 62 := by
  unfold rngOk at h
  simpa using h
theorem PI.imp' {t t' : TI} (h : PI X tg e t) (i : ∀ σ H R, t' σ H R → t σ H R) : PI X tg e t' := PI.imp h i
theorem pi_rng1_ {a : Expr} (hg : Gl X "range") (hm : X.mg "range" = none) (ha : PA X [a] (TV_ R W (evV E [c]))) (hs : starEach [a] X.env = [(false, eval a X.env)]) : PI X tg (.Call (.Name "range" p) [a] [] pos) (TI_ R W E .rng1 [c]) := by
  refine PI.imp (pi_range1 hg hm ha hs) fun σ H Rr ⟨F, g, r, q⟩ => ⟨F, g, r, wp_mono q (fun (ss, g1) q1 vs F1 H1 r1 st1 h => ?_) fun _ z => z⟩
  dsimp only at q1
  match ss, vs, h, q1 with
  | [x], [v], .cons h .nil, q1 =>
    have q2 : match (match x.d with | .int j => if rngOk j then some (rngL 0 j.toNat 1, true) else none | _ => none : Option (List D × Bool)) with
      | some (items, n) => ∀ J F' H', Rel R F' g1 σ H' → Step g σ F H g1 F' H' → IterOk R J F' items n → Rr J H'
      | none => False := q1
    split at q2
    · rename_i items n' e1
      split at e1
      · rename_i j hj
        split at e1
        · rename_i ho
          cases e1
          rw [hj] at h
          cases h
          obtain ⟨h1, h2⟩ := rngOk_iff ho
          exact ⟨j, rfl, h1, h2, q2 _ F1 H1 r1 st1 iter_rng⟩
        · cases e1
      · cases e1
    · exact q2.elim
  | [], _, _, q1 => exact q1.elim
  | _ :: _ :: _, _, _, q1 => exact q1.elim
theorem pi_rng2_ {a b : Expr} {ca cb : C} (hg : Gl X "range") (hm : X.mg "range" = none) (ha : PA X [a, b] (TV_ R W (evV E [ca, cb]))) (hs : starEach [a, b] X.env = [(false, eval a X.env), (false, eval b X.env)]) (hs2 : starEach [b] X.env = [(false, eval b X.env)]) : PI X tg (.Call (.Name "range" p) [a, b] [] pos) (TI_ R W E .rng2 [ca, cb]) := by
  refine PI.imp (pi_range2 hg hm ha hs hs2) fun σ H Rr ⟨F, g, r, q⟩ => ⟨F, g, r, wp_mono q (fun (ss, g1) q1 vs F1 H1 r1 st1 h => ?_) fun _ z => z⟩
  dsimp only at q1
  match ss, vs, h, q1 with
  | [x, y], [v, w], .cons h (.cons h' .nil), q1 =>
    have q2 : match (match x.d, y.d with | .int i, .int j => if rngOk i && rngOk j then some (rngL i (j - i).toNat 1, true) else none | _, _ => none : Option (List D × Bool)) with
      | some (items, n) => ∀ J F' H', Rel R F' g1 σ H' → Step g σ F H g1 F' H' → IterOk R J F' items n → Rr J H'
      | none => False := q1
    split at q2
    · rename_i items n' e1
      split at e1
      · rename_i i j hi hj
        split at e1
        · rename_i ho
          cases e1
          rw [hi] at h
          rw [hj] at h'
          cases h
          cases h'
          rw [Bool.and_eq_true] at ho
          obtain ⟨h1, h2⟩ := rngOk_iff ho.1
          obtain ⟨h3, h4⟩ := rngOk_iff ho.2
          exact ⟨i, j, rfl, ⟨h1, h2, h3, h4⟩, q2 _ F1 H1 r1 st1 iter_rng⟩
        · cases e1
      · cases e1
    · exact q2.elim
  | [], _, _, q1 => exact q1.elim
  | [_], _, _, q1 => exact q1.elim
  | _ :: _ :: _ :: _, _, _, q1 => exact q1.elim
theorem pi_rng3_ {a b d : Expr} {ca cb cd : C} (hg : Gl X "range") (hm : X.mg "range" = none) (ha : PA X [a, b, d] (TV_ R W (evV E [ca, cb, cd]))) (hs : starEach [a, b, d] X.env = (false, eval a X.env) :: starEach [b, d] X.env) (hpl : (backTo pos (starEach [b, d] X.env)).any (·.1) = false) : PI X tg (.Call (.Name "range" p) [a, b, d] [] pos) (TI_ R W E .rng3 [ca, cb, cd]) := by
  refine PI.imp (pi_range3 hg hm ha hs hpl) fun σ H Rr ⟨F, g, r, q⟩ => ⟨F, g, r, wp_mono q (fun (ss, g1) q1 vs F1 H1 r1 st1 h => ?_) fun _ z => z⟩
  dsimp only at q1
  match ss, vs, h, q1 with
  | [x, y, z], [v, w, u], .cons h (.cons h' (.cons h'' .nil)), q1 =>
    have q2 : match (match x.d, y.d, z.d with
      | .int i, .int j, .int c => if c ≠ 0 ∧ c.natAbs < 1073741824 ∧ Builtin.Range.small i j c = true ∧ 0 ≤ Builtin.Range.rangeSize i j c then some (rngL i (Builtin.Range.rangeSize i j c).toNat c, true) else none
      | _, _, _ => none : Option (List D × Bool)) with
      | some (items, n) => ∀ J F' H', Rel R F' g1 σ H' → Step g σ F H g1 F' H' → IterOk R J F' items n → Rr J H'
      | none => False := q1
    split at q2
    · rename_i items n' e1
      split at e1
      · rename_i i j c hi hj hc
        split at e1
        · rename_i ho
          cases e1
          rw [hi] at h
          rw [hj] at h'
          rw [hc] at h''
          cases h
          cases h'
          cases h''
          obtain ⟨o1, o2, o3, o4⟩ := ho
          exact ⟨i, j, c, (Builtin.Range.rangeSize i j c).toNat, rfl, ⟨o1, o2, o3, (Int.toNat_of_nonneg o4).symm⟩, q2 _ F1 H1 r1 st1 iter_rngC⟩
        · cases e1
      · cases e1
    · exact q2.elim
  | [], _, _, q1 => exact q1.elim
  | [_], _, _, q1 => exact q1.elim
  | [_, _], _, _, q1 => exact q1.elim
  | _ :: _ :: _ :: _ :: _, _, _, q1 => exact q1.elim
variable {tpos : Pos} {elts : List Expr} {kk : Nat}
theorem pi_enum_ (hK : X.K = R.K) (hg : Gl X "enumerate") (hm : X.mg "enumerate" = none) (ha : PA X [e] (TV_ R W (evV E [c]))) (hs : starEach [e] X.env = [(false, eval e X.env)]) : PI X (.Tuple elts kk tpos) (.Call (.Name "enumerate" p) [e] [] pos) (TI_ R W E .enum [c]) := by
  refine PI.imp (pi_enum hg hm ha hs) fun σ H Rr ⟨F, g, r, q⟩ => ⟨F, g, r, wp_mono q (fun (ss, g1) q1 vs F1 H1 r1 st1 h => ?_) fun _ z => z⟩
  dsimp only at q1
  match ss, vs, h, q1 with
  | [x], [v], .cons h .nil, q1 =>
    have q2 : match (match x.d with | .lst xs => some (enumL xs, x.n) | _ => none : Option (List D × Bool)) with
      | some (items, n) => ∀ J F' H', Rel R F' g1 σ H' → Step g σ F H g1 F' H' → IterOk R J F' items n → Rr J H'
      | none => False := q1
    split at q2
    · rename_i items n' e1
      split at e1
      · rename_i xs hx
        cases e1
        rw [hx] at h
        cases h with
        | lst h1 h2 =>
          refine ⟨_, _, rfl, SqL.of (r1.ex _ _ (FN_le _ _ h1)), ?_⟩
          rw [hK]
          exact q2 _ F1 H1 r1 st1 (iter_enum (FN_le _ _ h1) h2)
      · cases e1
    · exact q2.elim
  | [], _, _, q1 => exact q1.elim
  | _ :: _ :: _, _, _, q1 => exact q1.elim
theorem pi_zip_ {e2 : Expr} {ca cb : C} (hK : X.K = R.K) (hg : Gl X "zip") (hm : X.mg "zip" = none) (ha : PA X [e, e2] (TV_ R W (evV E [ca, cb]))) (hs : starEach [e, e2] X.env = (false, eval e X.env) :: starEach [e2] X.env) (hpl : (backTo pos (starEach [e2] X.env)).any (·.1) = false) :
    PI X (.Tuple elts kk tpos) (.Call (.Name "zip" p) [e, e2] [] pos) (TI_ R W E .zip [ca, cb]) := by
  refine PI.imp (RZ.pi_zipA hg hm ha hs hpl) fun σ H Rr ⟨F, g, r, q⟩ => ⟨F, g, r, wp_mono q (fun (ss, g1) q1 vs F1 H1 r1 st1 h => ?_) fun _ z => z⟩
  dsimp only at q1
  match ss, vs, h, q1 with
  | [x, y], [v, w], .cons h (.cons h' .nil), q1 =>
    have q2 : match (match x.d, y.d with
      | .lst xs, .lst ys => some (zipL xs ys, x.n && y.n)
      | .tup xs, .tup ys => some (zipL xs ys, x.n && y.n)
      | .tup xs, .ktup ys => some (zipL xs (ys.map .str), x.n)
      | _, _ => none : Option (List D × Bool)) with
      | some (items, n) => ∀ J F' H', Rel R F' g1 σ H' → Step g σ F H g1 F' H' → IterOk R J F' items n → Rr J H'
      | none => False := q1
    split at q2
    · rename_i items n' e1
      split at e1
      · rename_i xs ys hx hy
        cases e1
        rw [hx] at h
        rw [hy] at h'
        cases h with
        | lst h1 h2 =>
          cases h' with
          | lst h3 h4 =>
            refine ⟨_, _, _, _, rfl, .inl ⟨SqL.of (r1.ex _ _ (FN_le _ _ h1)), SqL.of (r1.ex _ _ (FN_le _ _ h3)), ?_⟩⟩
            rw [hK]
            exact q2 _ F1 H1 r1 st1 (iter_zip (FN_le _ _ h1) (FN_le _ _ h3) (atL_and h2) (atL_and' h4))
      · rename_i xs ys hx hy
        cases e1
        rw [hx] at h
        rw [hy] at h'
        cases h with
        | tup h1 h2 =>
          cases h' with
          | tup h3 h4 =>
            refine ⟨_, _, _, _, rfl, .inr ⟨SqT.of (r1.ex _ _ (FN_le _ _ h1)), SqT.of (r1.ex _ _ (FN_le _ _ h3)), ?_⟩⟩
            rw [hK]
            exact q2 _ F1 H1 r1 st1 (iter_zipT (FN_le _ _ h1) (FN_le _ _ h3) (atL_and h2) (atL_and' h4))
      · rename_i xs ys hx hy
        cases e1
        rw [hx] at h
        rw [hy] at h'
        cases h with
        | tup h1 h2 =>
          cases h' with
          | ktup h3 =>
            refine ⟨_, _, _, _, rfl, .inr ⟨SqT.of (r1.ex _ _ (FN_le _ _ h1)), by rw [hK]; exact ex_seqT (fun b o z => by cases z) h3, ?_⟩⟩
            rw [hK]
            exact q2 _ F1 H1 r1 st1 (iter_zipK (FN_le _ _ h1) h3 h2)
      · cases e1
    · exact q2.elim
  | [], _, _, q1 => exact q1.elim
  | [_], _, _, q1 => exact q1.elim
  | _ :: _ :: _ :: _, _, _, q1 => exact q1.elim
end
end Y
set_option Elab.async false
set_option linter.all false
set_option maxRecDepth 100000
set_option maxHeartbeats 2000000
namespace Y
open PySem PySem.Spec L2
/-! ### a slot is set -/
theorem G.get_put_lt {g : G} {i : Nat} {s : Sl} (h : i < g.length) : (g.put i s).get i = some s := by
  unfold G.get G.put
  rw [List.getElem?_set_self h]
  rfl
theorem G.get_lt {g : G} {i : Nat} {s : Sl} (h : g.get i = some s) : i < g.length := by
  unfold G.get at h
  cases q : g[i]? with
  | none => rw [q] at h; cases h
  | some o => exact (List.getElem?_eq_some_iff.mp q).1
section
variable {R : Fr} {F H F1 H1 : Hp} {g g1 : G} {σ : L2.St} {n : Bool} {i : Nat} {v : V} {s : Sl}
theorem Rel.set (r : Rel R F g σ H) (hi : i < g.length) (hio : ∀ t, g.get i = some t → t.m ≠ .io) (h : SlAt R F H i v s) (hs : s.m ≠ .io) (hd : s.m ≠ .fr → ∀ p, v = .ref p → ¬ Own g σ p) : Rel R F (g.put i s) (σ.set i (some v)) H := by
  have hiσ : i < σ.length := by rw [r.len]; exact hi
  have ne : ∀ {j : Nat}, j ≠ i → (σ.set i (some v))[j]? = σ[j]? := fun {j} e => List.getElem?_set_ne (Ne.symm e)
  have eq : (σ.set i (some v))[i]? = some (some v) := List.getElem?_set_self hiσ
  refine ⟨by rw [List.length_set, G.put_len]; exact r.len, fun j t hj => ?_, fun a b t u p ha hb hta hub pa pb => ?_, r.ex, r.keep, r.there, r.ios, fun q hq => ?_⟩
  · by_cases e : j = i
    · subst e
      rw [G.get_put_lt hi] at hj
      cases hj
      exact ⟨v, eq, h⟩
    · rw [G.get_put_ne e] at hj
      rw [ne e]
      exact r.at_ j t hj
  · by_cases e : a = i
    · subst e
      rw [G.get_put_lt hi] at ha
      cases ha
      rw [eq] at pa
      cases pa
      by_cases e2 : b = a
      · exact e2.symm
      · rw [G.get_put_ne e2] at hb
        rw [ne e2] at pb
        exact absurd ⟨b, u, hb, hub, pb⟩ (hd hta p rfl)
    · rw [G.get_put_ne e] at ha
      rw [ne e] at pa
      by_cases e2 : b = i
      · subst e2
        rw [G.get_put_lt hi] at hb
        cases hb
        rw [eq] at pb
        cases pb
        exact absurd ⟨a, t, ha, hta, pa⟩ (hd hub p rfl)
      · rw [G.get_put_ne e2] at hb
        rw [ne e2] at pb
        exact r.dis a b t u p ha hb hta hub pa pb
  · obtain ⟨t, h1, h2, h3⟩ := r.iog q hq
    have e : q.1 ≠ i := fun e => hio t (by rw [← e]; exact h1) h2
    exact ⟨t, by rw [G.get_put_ne e]; exact h1, h2, by rw [ne e]; exact h3⟩
theorem Own.set_le {b : Addr} (hi : i < g.length) (hl : σ.length = g.length) (o : Own (g.put i s) (σ.set i (some v)) b) (hs : s.m = .fr) : Own g σ b := by
  obtain ⟨j, t, h1, h2, h3⟩ := o
  by_cases e : j = i
  · subst e
    rw [G.get_put_lt hi] at h1
    cases h1
    exact absurd hs h2
  · rw [G.get_put_ne e] at h1
    rw [List.getElem?_set_ne (Ne.symm e)] at h3
    exact ⟨j, t, h1, h2, h3⟩
/-! ### targets -/
def gNames : List Nat → TGs
  | [] => gNil
  | i :: is => gCons (gName i) (gNames is)
def Tg.is : Tg → List Nat
  | .one i => [i]
  | .tup is => is
def gT (K : PySem.W.Frag) : Tg → TG
  | .one i => gName i
  | .tup is => gTup K is.length (gNames is)
theorem wipe_set {σ : L2.St} {i : Nat} {o : Option V} {vs : List Nat} (h : i ∈ vs) : wipe (σ.set i o) vs = wipe σ vs := by
  apply List.ext_getElem?
  intro j
  by_cases hj : j ∈ vs
  · have : ∀ (τ : L2.St) (ws : List Nat), j ∈ ws → (wipe τ ws)[j]? = if j < τ.length then some none else none := by
      intro τ ws
      induction ws with
      | nil => intro h; cases h
      | cons w ws ih =>
        intro hm
        unfold wipe
        by_cases e : w = j
        · subst e
          by_cases hl : w < τ.length
          · rw [if_pos hl, List.getElem?_set_self (by rw [wipe_length]; exact hl)]
          · rw [if_neg hl]
            exact List.getElem?_eq_none (by rw [List.length_set, wipe_length]; omega)
        · rw [List.getElem?_set_ne e]
          exact ih ((List.mem_cons.mp hm).elim (fun z => absurd z.symm e) id)
    rw [this _ _ hj, this _ _ hj, List.length_set]
  · rw [wipe_out hj, wipe_out hj, List.getElem?_set_ne (fun e => hj (by rw [← e]; exact h))]
theorem put_names {Q : L2.St → Hp → Prop} : ∀ {is : List Nat} {ds : List D} {vs : List V} {g g' : G} {σ : L2.St}, Rel R F g σ H → Paired (At R.K (FN R.H0 F n)) vs ds → putAll g is ds n = some g' →
    (∀ σ', Rel R F g' σ' H → (∀ b, Own g' σ' b → Own g σ b) → (∀ ws, (∀ i ∈ is, i ∈ ws) → wipe σ' ws = wipe σ ws) → Q σ' H) → gNames is vs σ H Q
  | [], [], _, g, g', σ, r, .nil, e, k => by
    cases e
    exact ⟨rfl, k σ r (fun _ z => z) fun _ _ => rfl⟩
  | i :: is, d :: ds, _, g, g', σ, r, .cons (l₁ := vs) (a := v) h t, e, k => by
    have e' : (match g.get i with
      | some ⟨_, .io, _⟩ => none
      | _ => if i < g.length then putAll (g.put i ⟨d, .fr, n || d.atom⟩) is ds n else none) = some g' := e
    have key : (∀ t, g.get i = some t → t.m ≠ .io) ∧ i < g.length ∧ putAll (g.put i ⟨d, .fr, n || d.atom⟩) is ds n = some g' := by
      split at e'
      · cases e'
      · rename_i hno
        split at e'
        · rename_i hl
          exact ⟨fun t ht hm => by obtain ⟨a, b, c⟩ := t; cases (show b = Mode.io from hm); exact hno _ _ ht, hl, e'⟩
        · cases e'
    obtain ⟨hio, hl, e2⟩ := key
    have r1 : Rel R F (g.put i ⟨d, .fr, n || d.atom⟩) (σ.set i (some v)) H := r.set hl hio (At.sub h) (by simp) fun z => absurd rfl z
    refine ⟨v, vs, rfl, ?_⟩
    refine put_names r1 t e2 fun σ' r' ho hw => k σ' r' (fun b z => (ho b z).set_le hl r.len rfl) fun ws hws => ?_
    rw [hw ws fun j hj => hws j (List.mem_cons_of_mem _ hj)]
    exact wipe_set (hws i List.mem_cons_self)
  | [], _ :: _, _, _, _, _, _, _, e, _ => by cases e
  | _ :: _, [], _, _, _, _, _, _, e, _ => by cases e
theorem bind_tg {tg : Tg} {d : D} {g' : G} {Q : L2.St → Hp → Prop} (r : Rel R F g σ H) (h : At R.K (FN R.H0 F n) v d) (e : bindT g tg d n = some g')
    (k : ∀ σ', Rel R F g' σ' H → (∀ b, Own g' σ' b → Own g σ b) → (∀ ws, (∀ i ∈ tg.is, i ∈ ws) → wipe σ' ws = wipe σ ws) → Q σ' H) : gT R.K tg v σ H Q := by
  cases tg with
  | one i =>
    have := put_names (vs := [v]) (Q := Q) r (.cons h .nil) e k
    obtain ⟨v', vs', e1, e2⟩ := this
    cases e1
    exact e2.2
  | tup is =>
    cases h with
    | tup h1 h2 =>
      rename_i a vs ds
      have e2 : putAll g is ds n = some g' := e
      have hlen : ∀ {is : List Nat} {ds : List D} {g g' : G}, putAll g is ds n = some g' → is.length = ds.length := by
        intro is
        induction is with
        | nil => intro ds g g' z; cases ds with
          | nil => rfl
          | cons _ _ => cases z
        | cons i is ih =>
          intro ds g g' z
          cases ds with
          | nil => cases z
          | cons d ds =>
            have z' : (match g.get i with
              | some ⟨_, .io, _⟩ => none
              | _ => if i < g.length then putAll (g.put i ⟨d, .fr, n || d.atom⟩) is ds n else none) = some g' := z
            rw [List.length_cons, List.length_cons]
            split at z'
            · cases z'
            · split at z'
              · rw [ih z']
              · cases z'
      exact ⟨_, _, rfl, SqT.of (r.ex _ _ (FN_le _ _ h1)), by rw [h2.length]; exact (hlen e2).symm, put_names r h2 e2 k⟩
    | _ => cases e
theorem pgs_names {X : Cx} (hN : X.N.Nodup) : ∀ {es : List Expr} {is : List Nat}, Paired (fun e i => ∃ x pos, e = Expr.Name x pos ∧ X.N[i]? = some x ∧ Loc X.env.scope x ∧ (X.fn x = true ∨ X.env.scope.names.lookup x = some .local)) es is →
    (∀ e es', (e :: es') <:+ es → (assignEach (e :: es') X.env).map (·.2) = assign e X.env :: (assignEach es' X.env).map (·.2)) → PGs X es (gNames is)
  | _, _, .nil, _ => pgs_nil
  | _, _, .cons (l₁ := es) ⟨x, pos, e, h1, h2, h3⟩ t, hs => by
    subst e
    exact pgs_cons (pg_name hN h1 h2 h3) (pgs_names hN t fun e es' h => hs e es' (h.trans (List.suffix_cons _ _))) (hs _ _ (List.suffix_refl _))
/-! ### own slots wiped, restored -/
theorem G.wipe_len (g : G) : ∀ vs : List Nat, (G.wipe g vs).length = g.length
  | [] => rfl
  | v :: vs => by unfold G.wipe; rw [List.length_set, G.wipe_len g vs]
theorem G.wipe_out {g : G} {i : Nat} : ∀ {vs : List Nat}, i ∉ vs → (G.wipe g vs).get i = g.get i
  | [], _ => rfl
  | v :: vs, h => by
    have h1 : v ≠ i := fun e => h (by rw [e]; exact List.mem_cons_self)
    have h2 : i ∉ vs := fun m => h (List.mem_cons_of_mem _ m)
    unfold G.wipe G.get
    rw [List.getElem?_set_ne h1]
    exact G.wipe_out h2
theorem G.wipe_in {g : G} {i : Nat} {s : Sl} : ∀ {vs : List Nat}, (G.wipe g vs).get i = some s → i ∉ vs
  | [], _ => by simp
  | v :: vs, h => by
    unfold G.wipe G.get at h
    intro hm
    by_cases e : v = i
    · subst e
      by_cases hl : v < (G.wipe g vs).length
      · rw [List.getElem?_set_self hl] at h; cases h
      · rw [List.getElem?_eq_none (by rw [List.length_set]; omega)] at h; cases h
    · rw [List.getElem?_set_ne e] at h
      exact G.wipe_in (vs := vs) h ((List.mem_cons.mp hm).elim (fun z => absurd z.symm e) id)
theorem Rel.wipe {vs : List Nat} (r : Rel R F g σ H) (hio : ∀ q ∈ R.io, q.1 ∉ vs) : Rel R F (G.wipe g vs) (L2.wipe σ vs) H ∧ ∀ b, Own (G.wipe g vs) (L2.wipe σ vs) b → Own g σ b := by
  have key : ∀ {i : Nat} {s : Sl}, (G.wipe g vs).get i = some s → i ∉ vs ∧ g.get i = some s := fun {i s} h => by
    have h1 := G.wipe_in h
    exact ⟨h1, by rw [G.wipe_out h1] at h; exact h⟩
  refine ⟨⟨by rw [wipe_length, G.wipe_len]; exact r.len, fun i s hi => ?_, fun i j s t p hi hj hs ht pi pj => ?_, r.ex, r.keep, r.there, r.ios, fun q hq => ?_⟩, fun b ⟨i, s, h1, h2, h3⟩ => ?_⟩
  · obtain ⟨h1, h2⟩ := key hi
    rw [L2.wipe_out h1]
    exact r.at_ i s h2
  · obtain ⟨h1, h2⟩ := key hi
    obtain ⟨h3, h4⟩ := key hj
    rw [L2.wipe_out h1] at pi
    rw [L2.wipe_out h3] at pj
    exact r.dis i j s t p h2 h4 hs ht pi pj
  · obtain ⟨s, h1, h2, h3⟩ := r.iog q hq
    exact ⟨s, by rw [G.wipe_out (hio q hq)]; exact h1, h2, by rw [L2.wipe_out (hio q hq)]; exact h3⟩
  · obtain ⟨h4, h5⟩ := key h1
    rw [L2.wipe_out h4] at h3
    exact ⟨i, s, h5, h2, h3⟩
theorem G.restore_len (g g0 : G) : ∀ vs : List Nat, (G.restore g g0 vs).length = g.length
  | [] => rfl
  | v :: vs => by unfold G.restore; rw [List.length_set, G.restore_len g g0 vs]
theorem G.restore_out {g g0 : G} {i : Nat} : ∀ {vs : List Nat}, i ∉ vs → (G.restore g g0 vs).get i = g.get i
  | [], _ => rfl
  | v :: vs, h => by
    have h1 : v ≠ i := fun e => h (by rw [e]; exact List.mem_cons_self)
    have h2 : i ∉ vs := fun m => h (List.mem_cons_of_mem _ m)
    unfold G.restore G.get
    rw [List.getElem?_set_ne h1]
    exact G.restore_out h2
theorem G.restore_in {g g0 : G} {i : Nat} {s : Sl} : ∀ {vs : List Nat}, i ∈ vs → (G.restore g g0 vs).get i = some s → g0.get i = some s
  | [], h, _ => by cases h
  | v :: vs, hm, h => by
    unfold G.restore G.get at h
    by_cases e : v = i
    · subst e
      by_cases hl : v < (G.restore g g0 vs).length
      · rw [List.getElem?_set_self hl] at h
        exact h
      · rw [List.getElem?_eq_none (by rw [List.length_set]; omega)] at h; cases h
    · rw [List.getElem?_set_ne e] at h
      exact G.restore_in ((List.mem_cons.mp hm).elim (fun z => absurd z.symm e) id) h
theorem ownOk_m {g : G} {vs : List Nat} (h : ownOk g vs = true) {i : Nat} (hi : i ∈ vs) {s : Sl} (e : g.get i = some s) : s.m = .fr := by
  unfold ownOk at h
  have := List.all_eq_true.mp h i hi
  rw [Bool.and_eq_true, e] at this
  obtain ⟨d, m, n⟩ := s
  cases m with
  | fr => rfl
  | ow => exact absurd this.2 (by simp)
  | io => exact absurd this.2 (by simp)
theorem Rel.restore {vs : List Nat} (r1 : Rel R F1 g1 σ H1) (ok : ownOk g1 vs = true) (r : Rel R F g (L2.wipe σ vs) H) (e : Same F1 F) : Rel R F (G.restore g g1 vs) σ H ∧ ∀ b, Own (G.restore g g1 vs) σ b → Own g (L2.wipe σ vs) b := by
  have key : ∀ {i : Nat} {s : Sl}, (G.restore g g1 vs).get i = some s → (i ∈ vs ∧ g1.get i = some s ∧ s.m = .fr) ∨ (i ∉ vs ∧ g.get i = some s ∧ (L2.wipe σ vs)[i]? = σ[i]?) := fun {i s} h => by
    by_cases hm : i ∈ vs
    · have := G.restore_in hm h
      exact .inl ⟨hm, this, ownOk_m ok hm this⟩
    · rw [G.restore_out hm] at h
      exact .inr ⟨hm, h, L2.wipe_out hm⟩
  have own : ∀ {i : Nat} {s : Sl}, (G.restore g g1 vs).get i = some s → s.m ≠ .fr → g.get i = some s ∧ (L2.wipe σ vs)[i]? = σ[i]? := fun {i s} h hs => by
    rcases key h with ⟨_, _, h3⟩ | ⟨_, h2, h3⟩
    · exact absurd h3 hs
    · exact ⟨h2, h3⟩
  refine ⟨⟨by rw [G.restore_len, ← r.len, wipe_length], fun i s hi => ?_, fun i j s t p hi hj hs ht pi pj => ?_, r.ex, r.keep, r.there, r.ios, fun q hq => ?_⟩, fun b ⟨i, s, h1, h2, h3⟩ => ?_⟩
  · rcases key hi with ⟨_, h2, h3⟩ | ⟨_, h2, h3⟩
    · obtain ⟨v, h4, h5⟩ := r1.at_ i s h2
      refine ⟨v, h4, slAt_mono h5 e (fun z => absurd h3 z) fun z => absurd h3 z⟩
    · rw [← h3]
      exact r.at_ i s h2
  · obtain ⟨h1, h2⟩ := own hi hs
    obtain ⟨h3, h4⟩ := own hj ht
    exact r.dis i j s t p h1 h3 hs ht (by rw [h2]; exact pi) (by rw [h4]; exact pj)
  · obtain ⟨s, h1, h2, h3⟩ := r.iog q hq
    have hm : q.1 ∉ vs := fun hm => by
      obtain ⟨s', h4, h5, _⟩ := r1.iog q hq
      have := ownOk_m ok hm h4
      rw [h5] at this
      cases this
    exact ⟨s, by rw [G.restore_out hm]; exact h1, h2, by rw [← L2.wipe_out hm]; exact h3⟩
  · obtain ⟨h4, h5⟩ := own h1 h2
    exact ⟨i, s, h4, h2, by rw [h5]; exact h3⟩
/-- a new thing that is no slot's, changed -/
theorem Rel.poke {p : Addr} {o : HO} (r : Rel R F g σ H) (hF : F p = none) (h0 : R.H0 p = none) (no : ¬ Own g σ p) : Rel R F g σ (upd H p o) := by
  have ne : ∀ {b : Addr} {u : HO}, F b = some u → b ≠ p := fun {b u} z e => by rw [e, hF] at z; cases z
  refine ⟨r.len, fun i s hi => ?_, r.dis, fun b u q => ?_, fun b u q n => ?_, fun b q => ?_, r.ios, r.iog⟩
  · obtain ⟨v, h1, h2⟩ := r.at_ i s hi
    refine ⟨v, h1, slAt_mono h2 (Same.refl F) (fun _ _ _ z => z) fun hm q e => ?_⟩
    subst e
    exact upd_ne fun e => no (by rw [← e]; exact ⟨i, s, hi, hm, h1⟩)
  · rw [upd_ne (ne q)]
    exact r.ex b u q
  · rw [upd_ne (fun e => by rw [e, h0] at q; cases q)]
    exact r.keep b u q n
  · rw [upd_ne (fun e => by rw [e, h0] at q; cases q)]
    exact r.there b q
end
end Y
set_option Elab.async false
set_option linter.all false
set_option maxRecDepth 100000
set_option maxHeartbeats 2000000
namespace Y
open PySem PySem.Spec L2
structure StX (P P' : Addr → Prop) (F H F' H' : Hp) : Prop where
  exF : Same F F'
  fr : ∀ b o, H b = some o → ¬ P b → H' b = some o
  nF : ∀ b, F b = none → (H b).isSome = true → ¬ P b → F' b = none
  own : ∀ b, P' b → P b
  there : ∀ b, (H b).isSome = true → (H' b).isSome = true
section
variable {P P' P'' : Addr → Prop} {F H F1 H1 F2 H2 : Hp}
theorem StX.trans (a : StX P P' F H F1 H1) (b : StX P' P'' F1 H1 F2 H2) : StX P P'' F H F2 H2 where
  exF := a.exF.trans b.exF
  fr := fun x o h n => b.fr x o (a.fr x o h n) fun z => n (a.own x z)
  nF := fun x h1 h2 n => b.nF x (a.nF x h1 h2 n) (a.there x h2) fun z => n (a.own x z)
  own := fun x z => a.own x (b.own x z)
  there := fun x z => b.there x (a.there x z)
theorem Step.x {g g' : G} {σ : L2.St} (s : Step g σ F H g' F1 H1) : StX (Own g σ) (Own g' σ) F H F1 H1 := ⟨s.exF, s.fr, s.nF, s.own, s.there⟩
theorem StX.sub (a : StX P P' F H F1 H1) (h : ∀ b, P'' b → P' b) : StX P P'' F H F1 H1 := ⟨a.exF, a.fr, a.nF, fun b z => a.own b (h b z), a.there⟩
theorem StX.poke {D : Addr} {o : HO} (a : StX P P' F H F1 H1) (h : H D = none) : StX P P' F H F1 (upd H1 D o) := by
  have ne : ∀ {b : Addr}, (H b).isSome = true → b ≠ D := fun {b} z e => by rw [e, h] at z; cases z
  refine ⟨a.exF, fun b u q n => ?_, a.nF, a.own, fun b q => ?_⟩
  · rw [upd_ne (ne (by rw [q]; rfl))]
    exact a.fr b u q n
  · rw [upd_ne (ne q)]
    exact a.there b q
end
theorem wipe_wipe {σ : L2.St} {vs : List Nat} : wipe (wipe σ vs) vs = wipe σ vs := by
  apply List.ext_getElem?
  intro j
  by_cases hj : j ∈ vs
  · have : ∀ (τ : L2.St) (ws : List Nat), j ∈ ws → (wipe τ ws)[j]? = if j < τ.length then some none else none := by
      intro τ ws
      induction ws with
      | nil => intro h; cases h
      | cons w ws ih =>
        intro hm
        unfold wipe
        by_cases e : w = j
        · subst e
          by_cases hl : w < τ.length
          · rw [if_pos hl, List.getElem?_set_self (by rw [wipe_length]; exact hl)]
          · rw [if_neg hl]
            exact List.getElem?_eq_none (by rw [List.length_set, wipe_length]; omega)
        · rw [List.getElem?_set_ne e]
          exact ih ((List.mem_cons.mp hm).elim (fun z => absurd z.symm e) id)
    rw [this _ _ hj, this _ _ hj, wipe_length]
  · rw [wipe_out hj]
def WF : XK := fun _ _ _ => False
theorem wp_noxW {α : Type} {m : M α} {C : α → Prop} {W W' : Str → Prop} (h : wp m.nox C W) : wp m C W' := wp_mono (wp_nox h) (fun _ z => z) fun _ z => z.elim
theorem nox_ne {α : Type} {m : M α} {c : Str} : m.nox ≠ some (.ex c) := by
  cases m with
  | none => intro h; cases h
  | some o => cases o <;> intro h <;> cases h
theorem bnd_ne {α β : Type} {m : M α} {f : α → M β} {c : Str} (h1 : m ≠ some (.ex c)) (h2 : ∀ a, f a ≠ some (.ex c)) : M.bnd m f ≠ some (.ex c) := by
  cases m with
  | none => intro h; cases h
  | some o =>
    cases o with
    | ok a => exact h2 a
    | ex c' => intro h; cases h; exact h1 rfl
theorem compL_ne {f : D → G → M (Option Sl × G)} (h : ∀ d g c, f d g ≠ some (.ex c)) : ∀ ds g c, compL f ds g ≠ some (.ex c)
  | [], g, c => by intro z; cases z
  | d :: ds, g, c => by
    unfold compL
    exact bnd_ne (h d g c) fun a => bnd_ne (compL_ne h ds a.2 c) fun b => by intro z; cases z
theorem wp_noex {α : Type} {m : M α} {C : α → Prop} {W W' : Str → Prop} (h : wp m C W) (hm : ∀ c, m ≠ some (.ex c)) : wp m C W' := by
  cases m with
  | none => exact h
  | some o =>
    cases o with
    | ok a => exact h
    | ex c => exact absurd rfl (hm c)
def compF (E : Ev) (tg : Tg) (n : Bool) (cond : Option C) (elt : C) (own : List Nat) (d : D) (g2 : G) : M (Option Sl × G) := match bindT g2 tg d n with
  | some g3 => M.bnd (evTO E cond g3).nox fun (k, g4) => if k then M.bnd (evE E elt g4).nox fun (s, g5) => some (.ok (some s.frz, G.wipe g5 own)) else some (.ok (none, G.wipe g4 own))
  | none => none
theorem compF_ne {E : Ev} {tg : Tg} {n : Bool} {cond : Option C} {elt : C} {own : List Nat} (d : D) (g : G) (c : Str) : compF E tg n cond elt own d g ≠ some (.ex c) := by
  unfold compF
  split
  · refine bnd_ne nox_ne fun a => ?_
    obtain ⟨k, g4⟩ := a
    cases k with
    | true => exact bnd_ne nox_ne fun b => by intro z; cases z
    | false => intro z; cases z
  · intro z; cases z
section
variable {X : Cx} {R : Fr} {W : XK} {E : Ev} {k : ItK} {its : List C} {tgc : Tg} {cond : Option C} {ce : C} {vs : List Nat}
theorem imp_lc {σ : L2.St} {H : Hp} {Q : VK} (htg : ∀ i ∈ tgc.is, i ∈ vs) (q : TE_ R W (evE E (.comp vs tgc k its cond ce)) σ H Q) :
    tLc (TI_ R W E k its) (gT R.K tgc) (TT_ R WF (evTO E cond)) (TF_ R WF (evE E ce)) vs σ H Q := by
  obtain ⟨F, g, r, q⟩ := q
  refine ⟨F, g, r, wp_mono (wp_bnd q) (fun (ss, g1) q1 => ?_) fun _ z => z⟩
  dsimp only at q1
  cases hit : itemsK k ss with
  | none => rw [hit] at q1; exact q1.elim
  | some p =>
    obtain ⟨items, n⟩ := p
    rw [hit] at q1
    obtain ⟨ok, q2⟩ := ifNone q1
    dsimp only
    rw [hit]
    intro J F1 H1 r1 st1 iok D hD
    obtain ⟨Gd, w, hGd⟩ := iok.w
    have q3 := wp_noex (W' := fun _ => False) (wp_bnd (m := compL (compF E tgc n cond ce vs) items (G.wipe g1 vs)) q2) (compL_ne compF_ne items _)
    have hio : ∀ p ∈ R.io, p.1 ∉ vs := fun p hp hm => by
      obtain ⟨s, h1, h2, _⟩ := r1.iog p hp
      have := ownOk_m ok hm h1
      rw [h2] at this
      cases this
    obtain ⟨rw1, ow1⟩ := r1.wipe (vs := vs) hio
    obtain ⟨fD, h0D, noD⟩ := r1.fresh hD
    refine lc_it w (fun i Hx => ∃ Fx gi acc ss, Rel R Fx gi (wipe σ vs) Hx ∧ Hx D = some (.lst acc) ∧ Fx D = none ∧ ¬ Own gi (wipe σ vs) D ∧ StX (Own g1 σ) (Own gi (wipe σ vs)) F1 H1 Fx Hx ∧ Paired (fun v (s : Sl) => At R.K (FN R.H0 Fx s.n) v s.d) acc ss ∧
      wp (compL (compF E tgc n cond ce vs) (items.drop i) gi) (fun (rs, g6) => wp (if (ss ++ rs).length < lim then some (.ok ((⟨.lst (dsL (ss ++ rs)), .ow, (ss ++ rs).all (·.n)⟩ : Sl), G.restore g6 g1 vs)) else none)
        (fun (s, g') => ∀ v F' H', Rel R F' g' σ H' → Step g σ F H g' F' H' → ResAt R g' σ H F' H' v s → Q v H') (ExW R W)) (fun _ => False)) ?_ ?_ ?_ ?_
    · exact ⟨F1, G.wipe g1 vs, [], [], rw1.alloc hD, upd_same, fD, fun z => noD (ow1 D z), (Step.alloc r1 hD).x.sub ow1, .nil, q3⟩
    · rintro i H2 _ ⟨F2, gi, acc, ss, r2, _, _, _, st, _⟩
      exact hGd H2 (st.exF.trans r2.ex)
    · rintro i x H2 H' hi ⟨F2, gi, acc, ss, r2, hDl, hFD, nD, st2, hp, q4⟩ y
      obtain ⟨d, F3, hd, r3, st3, hx⟩ := y.go r2 st2.exF
      have hdrop : items.drop i = d :: items.drop (i + 1) := by
        obtain ⟨hl, e⟩ := List.getElem?_eq_some_iff.mp hd
        rw [List.drop_eq_getElem_cons hl, e]
      rw [hdrop] at q4
      have q5 := wp_bnd q4
      unfold compF at q5
      cases hb : bindT gi tgc d n with
      | none => rw [hb] at q5; exact q5.elim
      | some g3 =>
        rw [hb] at q5
        refine bind_tg r3 hx hb fun σ2 r4 ho hw => ⟨by rw [hw vs htg, wipe_wipe], F3, g3, r4, wp_mono (wp_noxW (wp_bnd q5)) (fun (b, g4) q6 F5 H5 r5 st5 => ?_) fun _ z => z⟩
        have hw2 : wipe σ2 vs = wipe σ vs := by rw [hw vs htg, wipe_wipe]
        have nD3 : ¬ Own g3 σ2 D := fun z => nD (ho D z)
        have e3 : H' D = some (.lst acc) := st3.fr D _ hDl nD
        have f3 : F3 D = none := st3.nF D hFD (by rw [hDl]; rfl) nD
        have e5 : H5 D = some (.lst acc) := st5.fr D _ e3 nD3
        have f5 : F5 D = none := st5.nF D f3 (by rw [e3]; rfl) nD3
        have nD5 : ¬ Own g4 σ2 D := fun z => nD3 (st5.own D z)
        have x5 : StX (Own g1 σ) (Own g4 σ2) F1 H1 F5 H5 := ((st2.trans st3.x).sub ho).trans st5.x
        cases b with
        | false =>
          simp only [Bool.false_eq_true, if_false] at q6 ⊢
          obtain ⟨r6, ow6⟩ := r5.wipe (vs := vs) hio
          rw [hw2] at r6 ow6
          refine ⟨F5, G.wipe g4 vs, acc, ss, r6, e5, f5, fun z => nD5 (ow6 D z), x5.sub ow6, ?_, wp_mono (wp_bnd q6) (fun (rs, g6) z => z) fun _ z => z⟩
          exact hp.yimp fun v s z => At.mono (FN_mono (st3.exF.trans st5.exF)) _ _ z
        | true =>
          simp only [if_true] at q6 ⊢
          refine ⟨F5, g4, r5, wp_mono (wp_noxW (wp_bnd q6)) (fun (s, g5) q7 v F6 H6 r6 st6 hv => ?_) fun _ z => z⟩
          have e6 : H6 D = some (.lst acc) := st6.fr D _ e5 nD5
          have f6 : F6 D = none := st6.nF D f5 (by rw [e5]; rfl) nD5
          have nD6 : ¬ Own g5 σ2 D := fun z => nD5 (st6.own D z)
          obtain ⟨r7, ow7⟩ := r6.wipe (vs := vs) hio
          rw [hw2] at r7 ow7
          have q8 := wp_bnd (m := compL (compF E tgc n cond ce vs) (items.drop (i + 1)) (G.wipe g5 vs)) q7
          have hlen : acc.length < sizeLine := by
            cases hcl : compL (compF E tgc n cond ce vs) (items.drop (i + 1)) (G.wipe g5 vs) with
            | none => rw [hcl] at q8; exact q8.elim
            | some o =>
              rw [hcl] at q8
              cases o with
              | ex c => exact q8.elim
              | ok p =>
                obtain ⟨rs, g6⟩ := p
                obtain ⟨hl, _⟩ := ifNone q8
                rw [List.length_append] at hl
                rw [hp.length]
                exact lim_lt (by omega)
          have nD7 : ¬ Own (G.wipe g5 vs) (wipe σ vs) D := fun z => nD6 (ow7 D z)
          have h0D' : R.H0 D = none := h0D
          refine ⟨acc, e6, hlen, F6, G.wipe g5 vs, acc ++ [v], ss ++ [s.frz], r7.poke f6 h0D' nD7, upd_same, f6, nD7, ((x5.trans st6.x).sub ow7).poke hD, ?_, wp_mono q8 (fun (rs, g6) z => ?_) fun _ z => z⟩
          · exact (hp.yimp fun v s z => At.mono (FN_mono ((st3.exF.trans st5.exF).trans st6.exF)) _ _ z).yapp (.cons hv .nil)
          · rw [List.append_assoc]
            exact z
    · rintro H2 ⟨F2, gi, acc, ss, r2, hDl, hFD, nD, st2, hp, q4⟩
      rw [List.drop_length] at q4
      have q5 : wp (if (ss ++ []).length < lim then some (.ok ((⟨.lst (dsL (ss ++ [])), .ow, (ss ++ []).all (·.n)⟩ : Sl), G.restore gi g1 vs)) else none)
        (fun (s, g') => ∀ v F' H', Rel R F' g' σ H' → Step g σ F H g' F' H' → ResAt R g' σ H F' H' v s → Q v H') (ExW R W) := q4
      rw [List.append_nil] at q5
      obtain ⟨_, q6⟩ := ifNone q5
      obtain ⟨r3, ow3⟩ := r1.restore ok r2 st2.exF
      have stE := st1.x.trans (st2.sub ow3)
      exact q6 (.ref D) F2 H2 r3 ⟨stE.exF, stE.fr, stE.nF, stE.own, stE.there⟩ ⟨D, rfl, st1.gone hD, hFD, fun z => nD (ow3 D z), .lst hDl (ats_ds hp)⟩
theorem pe_comp_ {elt tg iter : Expr} {ifs : List Expr} {scope : Scope} {own : List (Str × Nat)} {pos : Pos} (hK : X.K = R.K) (hc : X.calm = true) (hN : X.N.Nodup) (hi : PI X tg iter (TI_ R W E k its)) (ok : BlkOk X.N X.env.scope scope own)
    (hg : ∀ (s : Shared) (H : Hp) (C : Addr) (cl : List (Str × Addr)) (fp : List Addr), PG (X.blk s H scope (compEnvC scope cl C X.env) fp) tg (gT X.K tgc)) (ht : ∀ (s : Shared) (H : Hp) (C : Addr) (cl : List (Str × Addr)) (fp : List Addr), PTs (X.blk s H scope (compEnvC scope cl C X.env) fp) ifs (TT_ R WF (evTO E cond)))
    (he : ∀ (s : Shared) (H : Hp) (C : Addr) (cl : List (Str × Addr)) (fp : List Addr), PE (X.blk s H scope (compEnvC scope cl C X.env) fp) elt (TE_ R WF (evE E ce))) (hs : ∀ x, foldedSetIterable iter X.env x = pure x) (hv : vs = own.map (·.2)) (htg : ∀ i ∈ tgc.is, i ∈ vs) :
    PE X (.ListComp elt [⟨tg, iter, ifs, 0⟩] scope pos) (TE_ R W (evE E (.comp vs tgc k its cond ce))) := by
  subst hv
  exact PE.imp (pe_lc hc hN hi ok hg ht (fun s H C cl fp => pe_frz (he s H C cl fp)) hs) fun σ H Q q => by rw [hK]; exact imp_lc htg q
theorem pts_none_ : PTs X [] (TT_ R W (evTO E none)) := ⟨fun pins s σ H Q I ⟨F, g, r, q⟩ => pts_nil.run pins s σ H Q I (q F H r (Step.refl _ _ _ _))⟩
theorem pts_some_ {e : Expr} {c : C} (h : PT X e (TT_ R W (tst c (evE E c)))) : PTs X [e] (TT_ R W (evTO E (some c))) := pts_one h
end
end Y
set_option Elab.async false
set_option linter.all false
set_option maxRecDepth 100000
set_option maxHeartbeats 2000000
namespace Y
open PySem PySem.Spec L2
/-! ### between statements -/
structure RelS (R : Fr) (F : Hp) (g : G) (σ : L2.St) (H : Hp) : Prop where
  rel : Rel R F g σ H
  exF : Same R.F0 F
  nF : ∀ b, R.F0 b = none → (R.H0 b).isSome = true → F b = none
def FlC (R : Fr) (F : Hp) (D : Ends) : Fl × G → Prop := fun (fl, g') => match fl with
  | .nx => ∀ σ' F' H', Same F F' → RelS R F' g' σ' H' → D.nx σ' H'
  | .bk => ∀ σ' F' H', Same F F' → RelS R F' g' σ' H' → D.bk σ' H'
  | .ct => ∀ σ' F' H', Same F F' → RelS R F' g' σ' H' → D.ct σ' H'
  | .rt s => ∀ v σ' F' H', Same F F' → RelS R F' g' σ' H' → ResAt R g' σ' R.H0 F' H' v s → D.rt v H'
def TS_ (R : Fr) (W : XK) (ev : G → M (Fl × G)) : TS := fun D σ H => ∃ F g, RelS R F g σ H ∧ wp (ev g) (FlC R F D) (ExW R W)
section
variable {R : Fr} {F H F1 H1 F' H' : Hp} {g g1 g' : G} {σ : L2.St} {v : V} {s : Sl} {i : Nat} {p : Addr} {d d' : D} {n n' n0 : Bool} {m : Mode} {o : HO}
theorem RelS.step (r : RelS R F g σ H) (r' : Rel R F' g' σ H') (st : Step g σ F H g' F' H') : RelS R F' g' σ H' := by
  refine ⟨r', r.exF.trans st.exF, fun b h1 h2 => ?_⟩
  have hF := r.nF b h1 h2
  have hH := r.rel.there b h2
  by_cases ow : Own g σ b
  · obtain ⟨j, t, h3, h4, h5⟩ := ow
    obtain ⟨w, h6, h7⟩ := r.rel.at_ j t h3
    rw [h5] at h6
    cases h6
    obtain ⟨td, tm, tn⟩ := t
    cases tm with
    | fr => exact absurd rfl h4
    | ow =>
      obtain ⟨q, e, _, h8, _⟩ := h7
      cases e
      rw [h8] at h2
      cases h2
    | io =>
      obtain ⟨q, e, _, h8, _⟩ := h7
      cases e
      obtain ⟨s', h9, h10, h11⟩ := r'.iog _ h8
      obtain ⟨w', h12, h13⟩ := r'.at_ _ _ h9
      rw [h11] at h12
      cases h12
      obtain ⟨q', e', h14, _⟩ := slAt_own h13 (by rw [h10]; simp)
      cases e'
      exact h14
  · exact st.nF b hF hH ow
theorem ResAt.base (r : Rel R F g σ H) (h : ResAt R g1 σ H F1 H1 v s) : ResAt R g1 σ R.H0 F1 H1 v s := by
  obtain ⟨d, m, n⟩ := s
  cases m with
  | fr => exact h
  | ow =>
    obtain ⟨p, rfl, h1, h2⟩ := h
    exact ⟨p, rfl, (r.fresh h1).2.1, h2⟩
  | io => exact h
theorem ResAt.slAt (h : ResAt R g σ R.H0 F H v s) : SlAt R F H i v s := by
  obtain ⟨d, m, n⟩ := s
  cases m with
  | fr => exact h
  | ow =>
    obtain ⟨p, rfl, h1, h2, h3, h4⟩ := h
    exact ⟨p, rfl, h2, h1, h4⟩
  | io => exact h.elim
theorem ResAt.keep (h : ResAt R g σ F1 F H v s) (st : Step g σ F H g' F' H') : ResAt R g' σ F1 F' H' v s := by
  obtain ⟨d, m, n⟩ := s
  cases m with
  | fr => exact At.mono (FN_mono st.exF) _ _ h
  | ow =>
    obtain ⟨p, rfl, h1, h2, h3, h4⟩ := h
    obtain ⟨u, hu⟩ := h4.is
    exact ⟨p, rfl, h1, st.nF p h2 (by rw [hu]; rfl) h3, fun z => h3 (st.own p z), h4.mono (FN_mono st.exF) (by rw [hu]; exact st.fr p u hu h3)⟩
  | io => exact h.elim
theorem setSlot_ok {g' : G} (e : setSlot g i s = some g') : (∀ t, g.get i = some t → t.m ≠ .io) ∧ i < g.length ∧ g' = g.put i s := by
  unfold setSlot at e
  split at e
  · cases e
  · rename_i hno
    split at e
    · rename_i hl
      cases e
      exact ⟨fun t ht hm => by obtain ⟨a, b, c⟩ := t; cases (show b = Mode.io from hm); exact hno _ _ ht, hl, rfl⟩
    · cases e
theorem RelS.set {g' : G} (r : RelS R F g σ H) (e : setSlot g i s = some g') (h : ResAt R g σ R.H0 F H v s) : RelS R F g' (σ.set i (some v)) H ∧ ∀ b, Own g' (σ.set i (some v)) b → Own g σ b ∨ (s.m ≠ .fr ∧ v = .ref b) := by
  obtain ⟨h1, h2, rfl⟩ := setSlot_ok e
  refine ⟨⟨r.rel.set h2 h1 h.slAt (fun z => ?_) (fun hm p e => ?_), r.exF, r.nF⟩, fun b ⟨j, t, h3, h4, h5⟩ => ?_⟩
  · obtain ⟨d, m, n⟩ := s
    cases (show m = .io from z)
    exact h.elim
  · obtain ⟨d, m, n⟩ := s
    cases m with
    | fr => exact absurd rfl hm
    | ow =>
      obtain ⟨q, e', _, _, h6, _⟩ := h
      subst e'
      cases e
      exact h6
    | io => exact h.elim
  · by_cases e : j = i
    · subst e
      rw [G.get_put_lt h2] at h3
      cases h3
      rw [List.getElem?_set_self (by rw [r.rel.len]; exact h2)] at h5
      cases h5
      exact .inr ⟨h4, rfl⟩
    · rw [G.get_put_ne e] at h3
      rw [List.getElem?_set_ne (Ne.symm e)] at h5
      exact .inl ⟨j, t, h3, h4, h5⟩
/-- an own thing is changed -/
theorem RelS.mut (r : RelS R F g σ H) (hi : g.get i = some ⟨d, m, n0⟩) (hm : m ≠ .fr) (hv : σ[i]? = some (some (.ref p))) (h : Top R.K (FN R.H0 F n') (upd H p o) p d') : RelS R F (g.put i ⟨d', m, n'⟩) σ (upd H p o) := by
  have rl := r.rel
  obtain ⟨w, h1, h2⟩ := rl.at_ i _ hi
  rw [hv] at h1
  cases h1
  have hF : F p = none := by
    obtain ⟨q, e, h3, _⟩ := slAt_own h2 hm
    cases e
    exact h3
  have key : R.H0 p = none ∨ (i, p) ∈ R.io := by
    cases m with
    | fr => exact absurd rfl hm
    | ow => obtain ⟨q, e, _, h3, _⟩ := h2; cases e; exact .inl h3
    | io => obtain ⟨q, e, _, h3, _⟩ := h2; cases e; exact .inr h3
  have own0 : ∀ j s, (g.put i ⟨d', m, n'⟩).get j = some s → s.m ≠ .fr → ∃ s', g.get j = some s' ∧ s'.m ≠ .fr := fun j s hj hs => by
    by_cases e : j = i
    · subst e; exact ⟨_, hi, hm⟩
    · rw [G.get_put_ne e] at hj; exact ⟨s, hj, hs⟩
  refine ⟨⟨rl.len.trans G.put_len.symm, fun j s hj => ?_, fun x y s u q hx hy hs hu px py => ?_, fun b u q => ?_, fun b u q n => ?_, fun b q => ?_, rl.ios, fun q hq => ?_⟩, r.exF, r.nF⟩
  · by_cases e : j = i
    · subst e
      rw [G.get_put_self hi] at hj
      cases hj
      refine ⟨_, hv, ?_⟩
      cases m with
      | fr => exact absurd rfl hm
      | ow => obtain ⟨q, e, h3, h4, _⟩ := h2; cases e; exact ⟨p, rfl, h3, h4, h⟩
      | io => obtain ⟨q, e, h3, h4, _⟩ := h2; cases e; exact ⟨p, rfl, h3, h4, h⟩
    · rw [G.get_put_ne e] at hj
      obtain ⟨w, h3, h4⟩ := rl.at_ j s hj
      refine ⟨w, h3, slAt_mono h4 (Same.refl F) (fun _ _ _ z => z) fun hms q eq => ?_⟩
      subst eq
      exact upd_ne fun eq => e (rl.dis j i s _ p hj hi hms hm (by rw [h3, eq]) hv)
  · obtain ⟨s', a1, a2⟩ := own0 x s hx hs
    obtain ⟨t', b1, b2⟩ := own0 y u hy hu
    exact rl.dis x y s' t' q a1 b1 a2 b2 px py
  · rw [upd_ne (fun e => by rw [e, hF] at q; cases q)]
    exact rl.ex b u q
  · rw [upd_ne (fun e => by
      subst e
      rcases key with z | z
      · rw [z] at q; cases q
      · exact n _ z rfl)]
    exact rl.keep b u q n
  · by_cases e : b = p
    · subst e; rw [upd_same]; rfl
    · rw [upd_ne e]; exact rl.there b q
  · obtain ⟨s, h3, h4, h5⟩ := rl.iog q hq
    by_cases e : q.1 = i
    · rw [e] at h3
      rw [hi] at h3
      cases h3
      rw [e]
      exact ⟨_, G.get_put_self hi, h4, by rw [← e]; exact h5⟩
    · exact ⟨s, by rw [G.get_put_ne e]; exact h3, h4, h5⟩
end
/-! ### statements -/
theorem PS.nox {X : Cx} {st : Stmt} {t : TS} (h : PS X.nox st t) : PS X st t := ⟨fun pins s σ H D I hw =>
  wpAny_mono (h.run pins s σ H D (I.wish _) hw) (fun _ _ q => q.unwish) fun _ _ z => False.elim z⟩
section
variable {X : Cx} {R : Fr} {W : XK} {E : Ev} {e : Expr} {es : List Expr} {c ca cb cc : C} {st : Stmt} {sts : List Stmt} {S : S} {Ss : List Y.S} {pos : Pos} {i j l : Nat} {x y z : Str}
theorem fl_nx {F F1 : Hp} {g : G} {D : Ends} (q : FlC R F D (.nx, g)) (e : Same F F1) : FlC R F1 D (.nx, g) := fun σ' F' H' h r => q σ' F' H' (e.trans h) r
theorem FlC.on {F F1 : Hp} {D : Ends} {a : Fl × G} (q : FlC R F D a) (e : Same F F1) : FlC R F1 D a := by
  obtain ⟨fl, g⟩ := a
  cases fl with
  | nx => exact fun σ' F' H' h r => q σ' F' H' (e.trans h) r
  | bk => exact fun σ' F' H' h r => q σ' F' H' (e.trans h) r
  | ct => exact fun σ' F' H' h r => q σ' F' H' (e.trans h) r
  | rt s => exact fun v σ' F' H' h r z => q v σ' F' H' (e.trans h) r z
theorem pss_nil_ : PSs X [] (TS_ R W (evSs E [])) := PSs.imp pss_nil fun D σ H ⟨F, g, r, q⟩ => q σ F H (Same.refl F) r
theorem pss_cons_ (h1 : PS X st (TS_ R W (evS E S))) (h2 : PSs X sts (TS_ R W (evSs E Ss))) : PSs X (st :: sts) (TS_ R W (evSs E (S :: Ss))) := by
  refine PSs.imp (pss_cons h1 h2) fun D σ H ⟨F, g, r, q⟩ => ?_
  refine ⟨F, g, r, wp_mono (wp_bnd q) (fun (fl, g1) q1 => ?_) fun _ z => z⟩
  cases fl with
  | nx => exact fun σ' F' H' e r' => ⟨F', g1, r', wp_mono q1 (fun a z => z.on e) fun _ z => z⟩
  | bk => exact q1
  | ct => exact q1
  | rt s => exact q1
theorem ps_pass_ : PS X (.Pass pos) (TS_ R W (evS E .pass)) := PS.imp ps_pass fun D σ H ⟨F, g, r, q⟩ => q σ F H (Same.refl F) r
theorem ps_brk_ : PS X (.Break pos) (TS_ R W (evS E .brk)) := PS.imp ps_break fun D σ H ⟨F, g, r, q⟩ => q σ F H (Same.refl F) r
theorem ps_cont_ : PS X (.Continue pos) (TS_ R W (evS E .cont)) := PS.imp ps_continue fun D σ H ⟨F, g, r, q⟩ => q σ F H (Same.refl F) r
theorem ps_expr_ (he : PE X e (TE_ R W (evE E c))) (hs : swapsWith e none pos.line X.env = pure false) : PS X (.Expr e pos) (TS_ R W (evS E (.expr c))) := by
  refine PS.imp (ps_expr he hs) fun D σ H ⟨F, g, r, q⟩ => ?_
  exact ⟨F, g, r.rel, wp_mono (wp_bnd q) (fun (s, g1) q1 v F1 H1 r1 st1 h1 => q1 σ F1 H1 st1.exF (r.step r1 st1)) fun _ z => z⟩
theorem imp_asg {D : Ends} {σ : L2.St} {H : Hp} (q : TS_ R W (evS E (.asg i c)) D σ H) : tAsg (TE_ R W (evE E c)) (gName i) D σ H := by
  obtain ⟨F, g, r, q⟩ := q
  refine ⟨F, g, r.rel, wp_mono (wp_bnd q) (fun (s, g1) q1 v F1 H1 r1 st1 h1 => ?_) fun _ z => z⟩
  dsimp only at q1
  cases e : setSlot g1 i s with
  | none => rw [e] at q1; exact q1.elim
  | some g2 =>
    rw [e] at q1
    exact q1 _ F1 H1 st1.exF ((r.step r1 st1).set e (h1.base r.rel)).1
theorem ps_asg_ {pos' : Pos} (hN : X.N.Nodup) (hi : X.N[i]? = some x) (hx : Loc X.env.scope x) (he : PE X e (TE_ R W (evE E c))) (hs : swapsWith e (some (.Name x pos')) pos.line X.env = pure false) (hf : X.fn x = true ∨ X.env.scope.names.lookup x = some .local) :
    PS X (.Assign [.Name x pos'] e pos) (TS_ R W (evS E (.asg i c))) := PS.imp (ps_set hN hi hx he hs hf) fun D σ H q => imp_asg q
theorem ps_asgL_ {elt tg iter : Expr} {ifs : List Expr} {scope : Scope} {own : List (Str × Nat)} {py spos : Pos} {k : ItK} {its : List C} {tgc : Tg} {cond : Option C} {ce : C} {vs : List Nat} (hK : X.K = R.K) (hc : X.calm = true) (hN : X.N.Nodup) (hy : X.N[i]? = some y) (hyl : X.env.scope.names.lookup y = some .local)
    (hsw : swapsWith (.ListComp elt [⟨tg, iter, ifs, 0⟩] scope pos) (some (.Name y py)) spos.line X.env = pure true) (hi : PI X tg iter (TI_ R W E k its)) (ok : BlkOk X.N X.env.scope scope own)
    (hg : ∀ (s : Shared) (H : Hp) (C : Addr) (cl : List (Str × Addr)) (fp : List Addr), PG (X.blk s H scope (compEnvC scope cl C X.env) fp) tg (gT X.K tgc)) (ht : ∀ (s : Shared) (H : Hp) (C : Addr) (cl : List (Str × Addr)) (fp : List Addr), PTs (X.blk s H scope (compEnvC scope cl C X.env) fp) ifs (TT_ R WF (evTO E cond)))
    (he : ∀ (s : Shared) (H : Hp) (C : Addr) (cl : List (Str × Addr)) (fp : List Addr), PE (X.blk s H scope (compEnvC scope cl C X.env) fp) elt (TE_ R WF (evE E ce))) (hs : ∀ x, foldedSetIterable iter X.env x = pure x) (hv : vs = own.map (·.2)) (htg : ∀ i ∈ tgc.is, i ∈ vs) :
    PS X (.Assign [.Name y py] (.ListComp elt [⟨tg, iter, ifs, 0⟩] scope pos) spos) (TS_ R W (evS E (.asg i (.comp vs tgc k its cond ce)))) := by
  subst hv
  refine PS.imp (ps_setLc hc hN hy hyl hsw hi ok hg ht (fun s H C cl fp => pe_frz (he s H C cl fp)) hs) fun D σ H q => ?_
  rw [hK]
  exact imp_lc htg (imp_asg q)
theorem ps_asgT_ {is : List Nat} {k : Nat} {tpos : Pos} (hK : X.K = R.K) (hc : X.calm = true) (he : PE X e (TE_ R W (evE E c))) (hg : PGs X es (gNames is)) (hn : (assignEach es X.env).length = is.length) (hst : (assignEach es X.env).findIdx? (·.1) = none)
    (hs : swapsWithSole [.Tuple es k tpos] e pos.line X.env = pure false) (hw : swappedStores [.Tuple es k tpos] e X.env = pure none) (h1 : (assignEach [.Tuple es k tpos] X.env).map (·.2) = [assign (.Tuple es k tpos) X.env]) :
    PS X (.Assign [.Tuple es k tpos] e pos) (TS_ R W (evS E (.asgT is c))) := by
  refine PS.imp (ps_asg (pe_frz he) (pg_tup hc hg hn hst) hs hw h1) fun D σ H ⟨F, g, r, q⟩ => ?_
  refine ⟨F, g, r.rel, wp_mono (wp_bnd q) (fun (s, g1) q1 v F1 H1 r1 st1 h1 => ?_) fun _ z => z⟩
  dsimp only at q1
  rw [hK]
  obtain ⟨d, m, n⟩ := s
  cases d with
  | tup ds =>
    dsimp only at q1
    cases e : putAll g1 is ds n with
    | none => rw [e] at q1; exact q1.elim
    | some g2 =>
      rw [e] at q1
      have r2 := r.step r1 st1
      exact bind_tg (tg := .tup is) r1 h1 e fun σ' r' _ _ => q1 σ' F1 H1 st1.exF ⟨r', r2.exF, r2.nF⟩
  | _ => exact q1.elim
theorem ps_par2_ {a b : Expr} {px py pt : Pos} {kt k2 pt2} (hc : X.calm = true) (hN : X.N.Nodup) (hi : X.N[i]? = some x) (hj : X.N[j]? = some y) (hij : i ≠ j)
    (hx : X.env.scope.names.lookup x = some .local) (hy : X.env.scope.names.lookup y = some .local) (ha : PE X a (TE_ R W (evE E ca))) (hb : PE X b (TE_ R W (evE E cb)))
    (hst : starEach [a, b] X.env = (false, eval a X.env) :: starEach [b] X.env) (hst2 : starEach [b] X.env = (false, eval b X.env) :: starEach [] X.env)
    (hw : swappedStores [.Tuple [.Name x px, .Name y py] kt pt] (.Tuple [a, b] k2 pt2) X.env = pure (some [x, y]))
    (hs : swapsWithSole [.Tuple [.Name x px, .Name y py] kt pt] (.Tuple [a, b] k2 pt2) pos.line X.env = pure false) :
    PS X (.Assign [.Tuple [.Name x px, .Name y py] kt pt] (.Tuple [a, b] k2 pt2) pos) (TS_ R W (evS E (.par2 i j ca cb))) := by
  refine PS.imp (ps_par hc hN hi hj hij hx hy (pa_cons ha (pa_cons hb pa_nil hst2) hst) hw hs) fun D σ H ⟨F, g, r, q⟩ => ?_
  refine ⟨F, g, r.rel, wp_mono (wp_bnd q) (fun (s, g1) q1 v F1 H1 r1 st1 h1 => ⟨F1, g1, r1, wp_mono (wp_bnd q1) (fun (t, g2) q2 w F2 H2 r2 st2 h2 => ?_) fun _ z => z⟩) fun _ z => z⟩
  dsimp only at q2
  rw [if_neg hij] at q2
  cases e : setSlot g2 i s with
  | none => rw [e] at q2; exact q2.elim
  | some g3 =>
    rw [e] at q2
    dsimp only at q2
    cases e2 : setSlot g3 j t with
    | none => rw [e2] at q2; exact q2.elim
    | some g4 =>
      rw [e2] at q2
      have R1 := r.step r1 st1
      have R2 := R1.step r2 st2
      have hs1 : ResAt R g2 σ R.H0 F2 H2 v s := (h1.keep st2).base r.rel
      have ht1 : ResAt R g2 σ R.H0 F2 H2 w t := h2.base r1
      obtain ⟨R3, o3⟩ := R2.set e hs1
      have ht3 : ResAt R g3 (σ.set i (some v)) R.H0 F2 H2 w t := by
        obtain ⟨td, tm, tn⟩ := t
        cases tm with
        | fr => exact ht1
        | ow =>
          obtain ⟨p, rfl, h3, h4, h5, h6⟩ := ht1
          refine ⟨p, rfl, h3, h4, fun ow => ?_, h6⟩
          rcases o3 p ow with z | ⟨zm, z⟩
          · exact h5 z
          · subst z
            obtain ⟨q', e', h7, _⟩ := h2
            cases e'
            obtain ⟨sd, sm, sn⟩ := s
            cases sm with
            | fr => exact absurd rfl zm
            | ow =>
              obtain ⟨q', e', _, _, _, h8⟩ := h1
              cases e'
              obtain ⟨u, hu⟩ := h8.is
              rw [h7] at hu
              cases hu
            | io => exact h1.elim
        | io => exact ht1.elim
      obtain ⟨R4, _⟩ := R3.set e2 ht3
      exact ⟨v, w, rfl, q2 _ F2 H2 (st1.exF.trans st2.exF) R4⟩
theorem ps_aug_ {op : BOp} {o : Operator} {pos' : Pos} (ho : (op = .add ∧ o = .Add) ∨ (op = .sub ∧ o = .Sub)) (hN : X.N.Nodup) (hi : X.N[i]? = some x) (hx : Loc X.env.scope x) (he : PE X e (TE_ R W (evE E c))) (hf : X.fn x = true ∨ X.env.scope.names.lookup x = some .local) :
    PS X (.AugAssign (.Name x pos') o e pos) (TS_ R W (evS E (.aug i op c))) := by
  have main : ∀ (f : Int → Int → Int) (hp : PIp X o (ipI f)) (hd : ∀ a b, D.bin op (.int a) (.int b) = some (.int (f a b))), PS X (.AugAssign (.Name x pos') o e pos) (TS_ R W (evS E (.aug i op c))) := fun f hp hd => by
    refine PS.imp (ps_aug hN hi hx (pe_frz he) hp hf) fun D σ H ⟨F, g, r, q⟩ => ?_
    have q0 : wp (match g.get i with
      | some ⟨.int x, .fr, _⟩ => M.bnd (evE E c g) fun (s, g1) => match g1.get i, s.d with
        | some ⟨.int _, .fr, _⟩, .int y => match Y.D.bin op (.int x) (.int y) with
          | some d => if op = .add ∨ op = .sub then some (.ok (.nx, g1.put i (atm d))) else none
          | none => none
        | _, _ => none
      | _ => none) (FlC R F D) (ExW R W) := q
    split at q0
    · rename_i a n0 hg0
      obtain ⟨v, h1, h2⟩ := r.rel.at_ i _ hg0
      have h2' : At R.K (FN R.H0 F n0) v (.int a) := h2
      cases h2'
      refine ⟨_, h1, F, g, r.rel, wp_mono (wp_bnd q0) (fun (s, g1) q1 w F1 H1 r1 st1 h3 => ?_) fun _ z => z⟩
      dsimp only at q1
      split at q1
      · rename_i b n1 y hg1 hs
        rw [hd] at q1
        dsimp only at q1
        obtain ⟨_, q2⟩ := ifNone q1
        rw [hs] at h3
        cases h3
        refine ⟨a, y, rfl, rfl, ?_⟩
        have r2 := r.step r1 st1
        have r3 : Rel R F1 (g1.put i (atm (.int (f a y)))) (σ.set i (some (.int (f a y)))) H1 := r1.set (G.get_lt hg1) (fun t ht hm => by rw [hg1] at ht; cases ht; cases hm) (At.int _) (by intro z; cases z) fun z => absurd rfl z
        exact q2 _ F1 H1 st1.exF ⟨r3, r2.exF, r2.nF⟩
      · exact q1.elim
    · exact q0.elim
  rcases ho with ⟨rfl, rfl⟩ | ⟨rfl, rfl⟩
  · exact main _ ip_add fun a b => rfl
  · exact main _ ip_sub fun a b => rfl
end
end Y
set_option Elab.async false
set_option linter.all false
set_option maxRecDepth 100000
set_option maxHeartbeats 2000000
namespace Y
open PySem PySem.Spec L2
section
variable {X : Cx} {R : Fr} {W : XK} {E : Ev} {e : Expr} {es : List Expr} {c ca cb cc : C} {st : Stmt} {sts : List Stmt} {S : S} {Ss ba bb : List Y.S} {pos : Pos} {i j l : Nat} {x y z : Str} {k : Nat}
theorem RelS.put2 {F H1 : Hp} {g : G} {σ : L2.St} {w : V} {s t : Sl} {v : V} {g2 : G} (R1 : RelS R F g σ H1) (e : setSlot g i s = some g2) (hs : ResAt R g σ R.H0 F H1 v s) (ht : ResAt R g σ R.H0 F H1 w t) (hne : s.m ≠ .fr → t.m ≠ .fr → v ≠ w) :
    RelS R F g2 (σ.set i (some v)) H1 ∧ ResAt R g2 (σ.set i (some v)) R.H0 F H1 w t := by
  obtain ⟨R3, o3⟩ := R1.set e hs
  refine ⟨R3, ?_⟩
  obtain ⟨td, tm, tn⟩ := t
  cases tm with
  | fr => exact ht
  | ow =>
    obtain ⟨p, rfl, h3, h4, h5, h6⟩ := ht
    refine ⟨p, rfl, h3, h4, fun ow => ?_, h6⟩
    rcases o3 p ow with z | ⟨zm, z⟩
    · exact h5 z
    · exact hne zm (by simp) z
  | io => exact ht.elim
theorem resAt_ne {F1 F2 H H1 H2 : Hp} {g1 g2 : G} {σ : L2.St} {v w : V} {s t : Sl} (hs : ResAt R g1 σ H F1 H1 v s) (ht : ResAt R g2 σ H1 F2 H2 w t) : s.m ≠ .fr → t.m ≠ .fr → v ≠ w := fun h1 h2 e => by
  subst e
  obtain ⟨sd, sm, sn⟩ := s
  obtain ⟨td, tm, tn⟩ := t
  cases sm with
  | fr => exact absurd rfl h1
  | io => exact hs.elim
  | ow =>
    obtain ⟨p, rfl, _, _, _, h3⟩ := hs
    obtain ⟨u, hu⟩ := h3.is
    cases tm with
    | fr => exact absurd rfl h2
    | io => exact ht.elim
    | ow =>
      obtain ⟨p', e', h4, _⟩ := ht
      cases e'
      rw [hu] at h4
      cases h4
theorem ps_par3_ {a b d : Expr} {px py pz pt : Pos} {kt k2 pt2} (hc : X.calm = true) (hN : X.N.Nodup) (hi : X.N[i]? = some x) (hj : X.N[j]? = some y) (hl : X.N[l]? = some z) (hij : i ≠ j) (hil : i ≠ l) (hjl : j ≠ l)
    (hx : X.env.scope.names.lookup x = some .local) (hy : X.env.scope.names.lookup y = some .local) (hz : X.env.scope.names.lookup z = some .local) (ha : PE X a (TE_ R W (evE E ca))) (hb : PE X b (TE_ R W (evE E cb))) (hd : PE X d (TE_ R W (evE E cc)))
    (hst : starEach [a, b, d] X.env = (false, eval a X.env) :: starEach [b, d] X.env) (hst2 : starEach [b, d] X.env = (false, eval b X.env) :: starEach [d] X.env) (hst3 : starEach [d] X.env = (false, eval d X.env) :: starEach [] X.env)
    (hw : swappedStores [.Tuple [.Name x px, .Name y py, .Name z pz] kt pt] (.Tuple [a, b, d] k2 pt2) X.env = pure (some [x, y, z]))
    (hs : swapsWithSole [.Tuple [.Name x px, .Name y py, .Name z pz] kt pt] (.Tuple [a, b, d] k2 pt2) pos.line X.env = pure false) :
    PS X (.Assign [.Tuple [.Name x px, .Name y py, .Name z pz] kt pt] (.Tuple [a, b, d] k2 pt2) pos) (TS_ R W (evS E (.par3 i j l ca cb cc))) := by
  refine PS.imp (ps_par3 hc hN hi hj hl hij hil hjl hx hy hz (pa_cons ha (pa_cons hb (pa_cons hd pa_nil hst3) hst2) hst) hw hs) fun D σ H ⟨F, g, r, q⟩ => ?_
  refine ⟨F, g, r.rel, wp_mono (wp_bnd q) (fun (s, g1) q1 v F1 H1 r1 st1 h1 => ⟨F1, g1, r1, wp_mono (wp_bnd q1) (fun (t, g2) q2 w F2 H2 r2 st2 h2 => ⟨F2, g2, r2, wp_mono (wp_bnd q2) (fun (u, g3) q3 o F3 H3 r3 st3 h3 => ?_) fun _ z => z⟩) fun _ z => z⟩) fun _ z => z⟩
  dsimp only at q3
  rw [if_neg (fun z => z.elim hij fun z => z.elim hil hjl)] at q3
  cases e : setSlot g3 i s with
  | none => rw [e] at q3; exact q3.elim
  | some g4 =>
    rw [e] at q3
    dsimp only at q3
    cases e2 : setSlot g4 j t with
    | none => rw [e2] at q3; exact q3.elim
    | some g5 =>
      rw [e2] at q3
      dsimp only at q3
      cases e3 : setSlot g5 l u with
      | none => rw [e3] at q3; exact q3.elim
      | some g6 =>
        rw [e3] at q3
        have R1 := r.step r1 st1
        have R2 := R1.step r2 st2
        have R3 := R2.step r3 st3
        have hs3 := ((h1.keep st2).keep st3).base r.rel
        have ht3 := (h2.keep st3).base r1
        have hu3 := h3.base r2
        obtain ⟨R4, ht4⟩ := R3.put2 e hs3 ht3 (resAt_ne h1 h2)
        obtain ⟨_, hu4⟩ := R3.put2 e hs3 hu3 (resAt_ne (h1.keep st2) h3)
        obtain ⟨R5, hu5⟩ := R4.put2 e2 ht4 hu4 (resAt_ne h2 h3)
        obtain ⟨R6, _⟩ := R5.set e3 hu5
        exact ⟨v, w, o, rfl, q3 _ F3 H3 ((st1.exF.trans st2.exF).trans st3.exF) R6⟩
/-! ### things changed -/
theorem wp_mutSlot {g : G} {f : Y.D → Option Y.D} {n : Bool} {P : Fl × G → Prop} {Wx : Str → Prop} (q : wp (mutSlot g i f n) P Wx) : ∃ d m n0 d', g.get i = some ⟨d, m, n0⟩ ∧ m ≠ .fr ∧ f d = some d' ∧ P (.nx, g.put i ⟨d', m, n0 && n⟩) := by
  unfold mutSlot at q
  cases e : g.get i with
  | none => rw [e] at q; exact q.elim
  | some s =>
    rw [e] at q
    obtain ⟨d, m, n0⟩ := s
    cases m with
    | fr => exact q.elim
    | ow =>
      dsimp only at q
      cases e2 : f d with
      | none => rw [e2] at q; exact q.elim
      | some d' => rw [e2] at q; exact ⟨d, _, n0, d', rfl, by simp, e2, q⟩
    | io =>
      dsimp only at q
      cases e2 : f d with
      | none => rw [e2] at q; exact q.elim
      | some d' => rw [e2] at q; exact ⟨d, _, n0, d', rfl, by simp, e2, q⟩
/-- a slot that may be changed, seen -/
theorem Rel.slot {F H : Hp} {g : G} {σ : L2.St} {d : Y.D} {m : Mode} {n : Bool} (r : Rel R F g σ H) (h : g.get i = some ⟨d, m, n⟩) (hm : m ≠ .fr) : ∃ p, σ[i]? = some (some (.ref p)) ∧ Top R.K (FN R.H0 F n) H p d := by
  obtain ⟨v, h1, h2⟩ := r.at_ i _ h
  obtain ⟨p, rfl, _, h3⟩ := slAt_own h2 hm
  exact ⟨p, h1, h3⟩
theorem ownL_some {g : G} (h : ownL g i = true) : ∃ xs m n, g.get i = some ⟨.lst xs, m, n⟩ ∧ m ≠ .fr := by
  unfold ownL at h
  split at h
  · rename_i xs n e
    exact ⟨xs, _, n, e, by simp⟩
  · rename_i xs n e
    exact ⟨xs, _, n, e, by simp⟩
  · cases h
theorem slot_lst {F H : Hp} {g : G} {σ : L2.St} (r : Rel R F g σ H) (h : ownL g i = true) : ∃ p vs, σ[i]? = some (some (.ref p)) ∧ H p = some (.lst vs) := by
  obtain ⟨xs, m, n, e, hm⟩ := ownL_some h
  obtain ⟨p, h1, h2⟩ := r.slot e hm
  cases h2 with
  | lst h3 _ => exact ⟨p, _, h1, h3⟩
theorem kidsL {F : Hp} {n m : Bool} {vs : List V} {ds : List Y.D} {v : V} {d : Y.D} (h : Paired (At R.K (FN R.H0 F n)) vs ds) (hv : At R.K (FN R.H0 F m) v d) : Paired (At R.K (FN R.H0 F (n && m))) (vs ++ [v]) (ds ++ [d]) :=
  (atL_and h).ysnoc (At.mono (FN_imp fun z => (Bool.and_eq_true_iff.mp z).2) _ _ hv)
theorem ps_app_ {p2 cpos : Pos} {e' : Expr} (hi : PE X e' (tVar i)) (he : PE X e (TE_ R W (evE E c)))
    (hst : starEach [e] X.env = (false, eval e X.env) :: starEach [] X.env) (hbase : attributeBase e' "append" X.env (eval e' X.env) = eval e' X.env) (hline : (p2.endLine == cpos.line) = true)
    (hfew : ((backTo cpos (starEach [e] X.env)).all (fun x => !x.1) && (backToKw cpos (keywordEach [] X.env)).all (fun x => x.1.isSome) && decide ([e].length + ([] : List Keyword).length + (if ([] : List Keyword).isEmpty then 0 else 1) < 30)) = true)
    (hpl : (backTo cpos (starEach [] X.env)).any (·.1) = false) (hs : swapsWith (.Call (.Attribute e' "append" p2) [e] [] cpos) none pos.line X.env = pure false) :
    PS X (.Expr (.Call (.Attribute e' "append" p2) [e] [] cpos) pos) (TS_ R W (evS E (.app i c))) := by
  refine PS.imp (ps_expr (pe_bm PySem.F.plainAttrs_list PySem.F.slot_list_append PySem.F.type_list_append mt_append hi (pa_cons (pe_frz he) pa_nil hst) hbase hfew hline hst hpl) hs) fun D σ H ⟨F, g, r, q⟩ => ?_
  obtain ⟨ho, q0⟩ := ifNone q
  obtain ⟨p0, vs0, h1, h2⟩ := slot_lst r.rel ho
  refine ⟨_, h1, .inl ⟨rfl, _, SqL.of h2⟩, F, g, r.rel, wp_mono (wp_bnd q0) (fun (s, g1) q1 v F1 H1 r1 st1 h3 => ?_) fun _ z => z⟩
  obtain ⟨d, m, n0, d', e1, hm, e2, q2⟩ := wp_mutSlot q1
  obtain ⟨p, h4, h5⟩ := r1.slot e1 hm
  rw [h1] at h4
  cases h4
  cases d with
  | lst xs =>
    cases h5 with
    | lst h6 h7 =>
      rename_i vs
      have e3 : (if xs.length < lim then some (Y.D.lst (xs ++ [s.d])) else none) = some d' := e2
      split at e3
      · rename_i hl
        cases e3
        refine ⟨_, vs, v, rfl, rfl, h6, by rw [h7.length]; exact lim_lt hl, q2 σ F1 _ st1.exF ((r.step r1 st1).mut e1 hm h1 (.lst upd_same (kidsL h7 h3)))⟩
      · cases e3
  | _ => cases e2
theorem ps_ext_ {p2 cpos : Pos} {e' : Expr} (hi : PE X e' (tVar i)) (he : PE X e (TE_ R W (evE E c)))
    (hst : starEach [e] X.env = (false, eval e X.env) :: starEach [] X.env) (hbase : attributeBase e' "extend" X.env (eval e' X.env) = eval e' X.env) (hline : (p2.endLine == cpos.line) = true)
    (hfew : ((backTo cpos (starEach [e] X.env)).all (fun x => !x.1) && (backToKw cpos (keywordEach [] X.env)).all (fun x => x.1.isSome) && decide ([e].length + ([] : List Keyword).length + (if ([] : List Keyword).isEmpty then 0 else 1) < 30)) = true)
    (hpl : (backTo cpos (starEach [] X.env)).any (·.1) = false) (hs : swapsWith (.Call (.Attribute e' "extend" p2) [e] [] cpos) none pos.line X.env = pure false) :
    PS X (.Expr (.Call (.Attribute e' "extend" p2) [e] [] cpos) pos) (TS_ R W (evS E (.ext i c))) := by
  refine PS.imp (ps_expr (pe_bm PySem.F.plainAttrs_list PySem.F.slot_list_extend PySem.F.type_list_extend mt_extend hi (pa_cons (pe_frz he) pa_nil hst) hbase hfew hline hst hpl) hs) fun D σ H ⟨F, g, r, q⟩ => ?_
  obtain ⟨ho, q0⟩ := ifNone q
  obtain ⟨p0, vs0, h1, h2⟩ := slot_lst r.rel ho
  refine ⟨_, h1, .inl ⟨rfl, _, SqL.of h2⟩, F, g, r.rel, wp_mono (wp_bnd q0) (fun (s, g1) q1 v F1 H1 r1 st1 h3 => ?_) fun _ z => z⟩
  obtain ⟨d, m, n0, d', e1, hm, e2, q2⟩ := wp_mutSlot q1
  obtain ⟨p, h4, h5⟩ := r1.slot e1 hm
  rw [h1] at h4
  cases h4
  obtain ⟨sd, sm, sn⟩ := s
  cases d with
  | lst xs =>
    cases sd with
    | lst ys =>
      cases h3 with
      | lst h8 h9 =>
        rename_i b ws
        cases h5 with
        | lst h6 h7 =>
          rename_i vs
          have e3 : (if xs.length + ys.length ≤ lim then some (Y.D.lst (xs ++ ys)) else none) = some d' := e2
          split at e3
          · rename_i hl
            cases e3
            refine ⟨_, _, vs, ws, rfl, rfl, h6, r1.ex _ _ (FN_le _ _ h8), by rw [h7.length, h9.length]; exact lim_size hl, q2 σ F1 _ st1.exF ((r.step r1 st1).mut e1 hm h1 (.lst upd_same ((atL_and h7).yapp (atL_and' h9))))⟩
          · cases e3
    | _ => cases e2
  | _ => cases sd <;> cases e2
/-! #### x[k] = v -/
theorem mapSet_of {κ : Type} [DecidableEq κ] {P : V → Y.D → Prop} {k : κ} {v : V} {d : Y.D} (hv : P v d) : ∀ {kvs : List (κ × V)} {ds : List Y.D}, Paired P (kvs.map (·.2)) ds → Paired P ((kvs.map fun kv => if kv.1 = k then (kv.1, v) else kv).map (·.2)) (mapSet (kvs.map (·.1)) ds k d)
  | [], _, .nil => .nil
  | kv :: kvs, _, .cons h t => by
    rw [List.map_cons, List.map_cons, List.map_cons]
    unfold mapSet
    refine .cons ?_ (mapSet_of hv t)
    by_cases e : kv.1 = k
    · rw [if_pos e, if_pos e]; exact hv
    · rw [if_neg e, if_neg e]; exact h
theorem putK_of {κ : Type} [DecidableEq κ] {P : V → Y.D → Prop} {k : κ} {v : V} {d : Y.D} (hv : P v d) {kvs : List (κ × V)} {ks : List κ} {ds : List Y.D} (hk : kvs.map (·.1) = ks) (h : Paired P (kvs.map (·.2)) ds) :
    (putK kvs k v).map (·.1) = (setAll ks ds k d).1 ∧ Paired P ((putK kvs k v).map (·.2)) (setAll ks ds k d).2 := by
  subst hk
  unfold putK setAll
  have e : (kvs.map (·.1)).any (fun j => decide (j = k)) = kvs.any fun kv => decide (kv.1 = k) := by rw [List.any_map]; rfl
  rw [e]
  by_cases hc : (kvs.any fun kv => decide (kv.1 = k)) = true
  · rw [if_pos hc, if_pos hc]
    refine ⟨?_, mapSet_of hv h⟩
    rw [List.map_map]
    apply List.map_congr_left
    intro kv _
    show (if kv.1 = k then (kv.1, v) else kv).1 = kv.1
    by_cases e2 : kv.1 = k
    · rw [if_pos e2]
    · rw [if_neg e2]
  · rw [if_neg hc, if_neg hc]
    refine ⟨by rw [List.map_append]; rfl, ?_⟩
    rw [List.map_append]
    exact h.ysnoc hv
theorem putF_of {P : V → Y.D → Prop} {k : Str} {v : V} {d : Y.D} (hv : P v d) : ∀ {kvs : List (Str × V)} {ks : List Str} {ds : List Y.D}, kvs.map (·.1) = ks → Paired P (kvs.map (·.2)) ds → (putF k v kvs).map (·.1) = (setKey ks ds k d).1 ∧ Paired P ((putF k v kvs).map (·.2)) (setKey ks ds k d).2
  | [], _, _, rfl, .nil => ⟨rfl, .cons hv .nil⟩
  | (f, w) :: kvs, _, _, rfl, .cons (l₂ := ds) (b := d0) h t => by
    obtain ⟨ih1, ih2⟩ := putF_of hv (kvs := kvs) rfl t
    show (putF k v ((f, w) :: kvs)).map (·.1) = (setKey (f :: kvs.map (·.1)) (d0 :: ds) k d).1 ∧ Paired P ((putF k v ((f, w) :: kvs)).map (·.2)) (setKey (f :: kvs.map (·.1)) (d0 :: ds) k d).2
    unfold putF setKey
    by_cases e : f = k
    · rw [if_pos e, if_pos e]
      exact ⟨rfl, .cons hv t⟩
    · rw [if_neg e, if_neg e]
      exact ⟨by rw [List.map_cons, ih1], .cons h ih2⟩
def rSetX : TSet := fun o i v H Q => rSetL o i v H Q ∨ rSetD o i v H Q
theorem set_x (hu : X.A.units + 1 < cLine) : PSet X rSetX := fun pins s σ H o i v ov iv u Q I ro ri rv h => h.elim (fun h => set_list pins s σ H o i v ov iv u Q I ro ri rv h) fun h => set_dict hu pins s σ H o i v ov iv u Q I ro ri rv h
theorem ps_setI_ {e' ei : Expr} {tpos : Pos} {ck cv : C} (hu : X.A.units + 1 < cLine) (hi : PE X e' (tVar i)) (hk : PE X ei (TO_ R W (opd ck (evE E ck)))) (he : PE X e (TE_ R W (evE E cv)))
    (ha : ∀ v, assign (.Subscript e' ei tpos) X.env v = (do
      let ov ← holding [v] (eval e' X.env)
      let iv ← holding [v, ov] (eval ei X.env)
      standAt tpos
      holding [v, ov, iv] (setItem ov iv v)
      release [v, ov, iv] []))
    (hs : swapsWithSole [.Subscript e' ei tpos] e pos.line X.env = pure false) (hw : swappedStores [.Subscript e' ei tpos] e X.env = pure none) (h1 : (assignEach [.Subscript e' ei tpos] X.env).map (·.2) = [assign (.Subscript e' ei tpos) X.env]) :
    PS X (.Assign [.Subscript e' ei tpos] e pos) (TS_ R W (evS E (.setI i ck cv))) := by
  refine PS.imp (ps_asg (pe_frz he) (pg_sub hi hk (set_x hu) ha) hs hw h1) fun D σ H ⟨F, g, r, q⟩ => ?_
  refine ⟨F, g, r.rel, wp_mono (wp_bnd q) (fun (s, g1) q1 v F1 H1 r1 st1 h3 => ?_) fun _ z => z⟩
  obtain ⟨hsm, q2⟩ := ifNone q1
  dsimp only at hsm q2
  obtain ⟨s0, hs0⟩ := Option.isSome_iff_exists.mp hsm
  obtain ⟨w, hw0, _⟩ := r1.at_ i s0 hs0
  refine ⟨w, hw0, F1, g1, r1, wp_mono (wp_bnd q2) (fun (ok, g2) q3 kv F2 H2 r2 st2 hk2 => ?_) fun _ z => z⟩
  dsimp only at q3
  cases e1 : ok.get g2 with
  | none => rw [e1] at q3; exact q3.elim
  | some y =>
    rw [e1] at q3
    have vk := hk2.view r2 e1
    obtain ⟨d, m, n0, d', e2, hm, e3, q4⟩ := wp_mutSlot q3
    obtain ⟨p, h4, h5⟩ := r2.slot e2 hm
    rw [hw0] at h4
    cases h4
    have R2 := (r.step r1 st1).step r2 st2
    have h3' : At R.K (FN R.H0 F2 (n0 && s.n)) v s.d := At.mono ((FN_mono st2.exF).trans (FN_imp fun z => (Bool.and_eq_true_iff.mp z).2)) _ _ h3
    have q5 : ∀ u, Top R.K (FN R.H0 F2 (n0 && s.n)) (upd H2 p u) p d' → D.nx σ (upd H2 p u) := fun u hT => q4 σ F2 _ (st1.exF.trans st2.exF) (R2.mut e2 hm hw0 hT)
    cases d with
    | lst xs =>
      cases h5 with
      | lst h6 h7 =>
        rename_i vs
        have e4 : (match y.d with | .int k => (ixN xs.length k).map fun j => Y.D.lst (xs.set j s.d) | _ => none) = some d' := e3
        split at e4
        · rename_i k hy
          rw [hy] at vk
          cases e5 : ixN xs.length k with
          | none => rw [e5] at e4; cases e4
          | some j =>
            rw [e5] at e4
            cases e4
            refine .inl ⟨p, vs, k, j, rfl, vk.as_int, h6, by rw [h7.length]; exact e5, q5 _ (.lst upd_same (Paired.yset h3' j (atL_and h7)))⟩
        · cases e4
    | dct ks xs =>
      cases h5 with
      | dct h6 h7 h8 =>
        rename_i kvs
        have e4 : (match y.d.key with | some j => if ks.length < lim ∧ ks.length = xs.length then let r := setAll ks xs j s.d; some (Y.D.dct r.1 r.2) else none | none => none) = some d' := e3
        cases e5 : y.d.key with
        | none => rw [e5] at e4; cases e4
        | some k =>
          rw [e5] at e4
          dsimp only at e4
          split at e4
          · rename_i hl
            cases e4
            have hlen : kvs.length = ks.length := by rw [← h7, List.length_map]
            obtain ⟨a1, a2⟩ := putK_of (k := k) h3' h7 (atL_and h8)
            exact .inr ⟨p, _, rfl, .inl ⟨kvs, k, h6, key_kV vk e5, by rw [hlen]; exact lim_lt hl.1, rfl⟩, q5 _ (.dct upd_same a1 a2)⟩
          · cases e4
    | dctT ks xs =>
      cases h5 with
      | dctT h6 h7 h8 =>
        rename_i kvs
        have e4 : (match y.d.keyT with | some j => if ks.length < lim ∧ ks.length = xs.length then let r := setAll ks xs j s.d; some (Y.D.dctT r.1 r.2) else none | none => none) = some d' := e3
        cases e5 : y.d.keyT with
        | none => rw [e5] at e4; cases e4
        | some k =>
          rw [e5] at e4
          dsimp only at e4
          split at e4
          · rename_i hl
            cases e4
            have hlen : kvs.length = ks.length := by rw [← h7, List.length_map]
            obtain ⟨a1, a2⟩ := putK_of (k := k) h3' h7 (atL_and h8)
            obtain ⟨b, rfl, hb⟩ := keyT_kV vk e5
            exact .inr ⟨p, _, rfl, .inr ⟨kvs, k, b, h6, rfl, hb, by rw [hlen]; exact lim_lt hl.1, rfl⟩, q5 _ (.dctT upd_same a1 a2)⟩
          · cases e4
    | _ => cases e3
theorem ps_setA_ {e' : Expr} {f : Str} {pos' : Pos} {cv : C} (hE : AttOk R.K E) (hK : X.K = R.K) (hi : PE X e' (tVar i)) (he : PE X e (TE_ R W (evE E cv))) (hs : swapsWith e (some (.Attribute e' f pos')) pos.line X.env = pure false) :
    PS X (.Assign [.Attribute e' f pos'] e pos) (TS_ R W (evS E (.setA i f cv))) := by
  refine PS.imp (ps_fld hi (pe_frz he) hs) fun D σ H ⟨F, g, r, q⟩ => ?_
  refine ⟨F, g, r.rel, wp_mono (wp_bnd q) (fun (s, g1) q1 v F1 H1 r1 st1 h3 => ?_) fun _ z => z⟩
  obtain ⟨d, m, n0, d', e2, hm, e3, q4⟩ := wp_mutSlot q1
  obtain ⟨p, h4, h5⟩ := r1.slot e2 hm
  cases d with
  | obj c fs xs =>
    cases h5 with
    | obj h6 h7 h8 =>
      rename_i dx kvs
      have e4 : (if E.att c f = true ∧ fs.length < 100 ∧ fs.length = xs.length then let r := setKey fs xs f s.d; some (Y.D.obj c r.1 r.2) else none) = some d' := e3
      split at e4
      · rename_i hl
        cases e4
        have hlen : kvs.length = fs.length := by rw [← h7, List.length_map]
        have h3' : At R.K (FN R.H0 F1 (n0 && s.n)) v s.d := At.mono (FN_imp fun z => (Bool.and_eq_true_iff.mp z).2) _ _ h3
        obtain ⟨a1, a2⟩ := putF_of (k := f) h3' h7 (atL_and h8)
        obtain ⟨hcl, hna⟩ := hE c f hl.1
        refine ⟨_, h4, p, _, dx, kvs, rfl, h6, by rw [hK]; exact hcl, by rw [hK]; exact hna, by omega, ?_⟩
        exact q4 σ F1 _ st1.exF ((r.step r1 st1).mut e2 hm h4 (.obj upd_same a1 a2))
      · cases e4
  | _ => cases e3
end
end Y
set_option Elab.async false
set_option linter.all false
set_option maxRecDepth 100000
set_option maxHeartbeats 2000000
namespace Y
open PySem PySem.Spec L2
section
variable {X : Cx} {R : Fr} {W : XK} {E : Ev} {e t : Expr} {es : List Expr} {c ca cb cc ct : C} {st : Stmt} {sts a b : List Stmt} {S : S} {Ss ba bb body : List Y.S} {pos : Pos} {i j l : Nat} {x y z : Str} {k : Nat}
theorem ps_ife_ (ht : PT X t (TT_ R W (tst ct (evE E ct)))) (ha : PSs X a (TS_ R W (evSs E ba))) (hb : PSs X b (TS_ R W (evSs E bb))) : PS X (.If t a b pos) (TS_ R W (evS E (.ife ct ba bb))) := by
  refine PS.imp (ps_if ht ha hb) fun D σ H ⟨F, g, r, q⟩ => ⟨F, g, r.rel, wp_mono (wp_bnd q) (fun (k, g1) q1 F1 H1 r1 st1 => ?_) fun _ z => z⟩
  have R1 := r.step r1 st1
  cases k with
  | true => exact ⟨F1, g1, R1, wp_mono q1 (fun a z => z.on st1.exF) fun _ z => z⟩
  | false => exact ⟨F1, g1, R1, wp_mono q1 (fun a z => z.on st1.exF) fun _ z => z⟩
theorem ps_retN_ : PS X (.Return none pos) (TS_ R W (evS E .retN)) := PS.imp ps_retN fun D σ H ⟨F, g, r, q⟩ => q .non σ F H (Same.refl F) r .non
theorem ps_ret_ (hc : ∀ i, c ≠ .var i) (he : PE X e (TE_ R W (evE E c))) : PS X (.Return (some e) pos) (TS_ R W (evS E (.ret c))) := by
  refine PS.imp (ps_ret he) fun D σ H ⟨F, g, r, q⟩ => ?_
  have q' : wp (M.bnd (evE E c g) fun (s, g1) => some (.ok (Fl.rt s, g1))) (FlC R F D) (ExW R W) := by
    cases c <;> first | exact q | exact absurd rfl (hc _)
  exact ⟨F, g, r.rel, wp_mono (wp_bnd q') (fun (s, g1) q1 v F1 H1 r1 st1 h1 => q1 v σ F1 H1 st1.exF (r.step r1 st1) (h1.base r.rel)) fun _ z => z⟩
theorem ps_retV_ (he : PE X e (tVar i)) : PS X (.Return (some e) pos) (TS_ R W (evS E (.ret (.var i)))) := by
  refine PS.imp (ps_ret he) fun D σ H ⟨F, g, r, q⟩ => ?_
  have q' : wp (match g.get i with
      | some ⟨d, .ow, n⟩ => some (.ok (Fl.rt ⟨d, .ow, n⟩, g.set i none))
      | _ => M.bnd (takeV g i) fun (s, g1) => some (.ok (Fl.rt s, g1))) (FlC R F D) (ExW R W) := q
  cases hg : g.get i with
  | none =>
    rw [hg] at q'
    have q2 := wp_bnd q'
    unfold takeV at q2
    rw [hg] at q2
    exact q2.elim
  | some s =>
    rw [hg] at q'
    obtain ⟨v, h1, h2⟩ := r.rel.at_ i s hg
    refine ⟨v, h1, ?_⟩
    obtain ⟨d, m, n⟩ := s
    cases m with
    | fr =>
      have q2 := wp_bnd q'
      unfold takeV at q2
      rw [hg] at q2
      exact q2 v σ F H (Same.refl F) r (At.sub h2)
    | io =>
      have q2 := wp_bnd q'
      unfold takeV at q2
      rw [hg] at q2
      exact q2.elim
    | ow =>
      obtain ⟨p, rfl, h3, h4, h5⟩ := h2
      have key : ∀ {j : Nat} {s : Sl}, G.get (g.set i none) j = some s → j ≠ i ∧ g.get j = some s := fun {j s} h => by
        unfold G.get at h ⊢
        by_cases e : j = i
        · subst e
          rw [List.getElem?_set_self (G.get_lt hg)] at h
          cases h
        · rw [List.getElem?_set_ne (Ne.symm e)] at h
          exact ⟨e, h⟩
      have rl := r.rel
      refine q' (.ref p) σ F H (Same.refl F) ⟨⟨by rw [List.length_set]; exact rl.len, fun j s hj => rl.at_ j s (key hj).2, fun a b s u q ha hb => rl.dis a b s u q (key ha).2 (key hb).2, rl.ex, rl.keep, rl.there, rl.ios, fun q hq => ?_⟩, r.exF, r.nF⟩ ⟨p, rfl, h4, h3, fun ⟨j, s, h6, h7, h8⟩ => ?_, h5⟩
      · obtain ⟨s, h6, h7, h8⟩ := rl.iog q hq
        have e : q.1 ≠ i := fun e => by rw [e, hg] at h6; cases h6; cases h7
        refine ⟨s, ?_, h7, h8⟩
        unfold G.get at h6 ⊢
        rw [List.getElem?_set_ne (Ne.symm e)]
        exact h6
      · obtain ⟨h9, h10⟩ := key h6
        exact h9 (rl.dis j i s _ p h10 hg h7 (by simp) h8 h1)
theorem ps_raise_ {cl : Str} (hc : X.calm = true) (tk : Takes X (fun cls d _ H => W cls d H)) (he : PMk X e (fun _ H Q => Q (.ref (He.ga R.K cl)) none H)) : PS X (.Raise (some e) none pos) (TS_ R W (evS E (.raise cl))) :=
  PS.imp (ps_raise hc tk he) fun D σ H ⟨F, g, r, q⟩ => q H r.rel.keep
/-! ### loops -/
theorem ps_for_ {tg iter : Expr} {stm : List Stmt} {kd : ItK} {its : List C} {tgc : Tg} (hK : X.K = R.K) (hc : X.calm = true) (hi : PI X.nox tg iter (TI_ R WF E kd its)) (hg : PG X.nox tg (gT X.K tgc)) (hb : PSs X.nox stm (TS_ R WF (evSs E body)))
    (hs : ∀ x, foldedSetIterable iter X.env x = pure x) : PS X (.For tg iter stm [] pos) (TS_ R W (evS E (.for_ tgc kd its body))) := by
  refine PS.imp (PS.nox (ps_for PassesOwn.never hc hi hg hb hs)) fun D σ H ⟨F, g, r, q⟩ => ?_
  have q0 := wp_nox q
  refine ⟨F, g, r.rel, wp_mono (wp_bnd q0) (fun (ss, g1) q1 => ?_) fun _ z => z.elim⟩
  dsimp only at q1 ⊢
  cases hit : itemsK kd ss with
  | none => rw [hit] at q1; exact q1.elim
  | some p =>
    obtain ⟨items, n⟩ := p
    rw [hit] at q1
    dsimp only at q1 ⊢
    intro J F1 H1 r1 st1 iok
    obtain ⟨Gd, w, hGd⟩ := iok.w
    have R1 := r.step r1 st1
    refine for_it w (fun i σ H => ∃ F2 g, RelS R F2 g σ H ∧ Same F1 F2 ∧ wp (forL (fun d g2 => match bindT g2 tgc d n with
      | some g3 => evSs E body g3
      | none => none) (items.drop i) g) (FlC R F D) (fun _ => False)) ?_ ?_ ?_ ?_
    · exact ⟨F1, g1, R1, Same.refl _, q1⟩
    · rintro i σ2 H2 _ ⟨F2, g2, r2, e2, _⟩
      exact hGd H2 (e2.trans r2.rel.ex)
    · rintro i x σ2 H2 H' hi ⟨F2, g2, r2, e2, q2⟩ y
      obtain ⟨d, F3, hd, r3, st3, hx⟩ := y.go r2.rel e2
      have hdrop : items.drop i = d :: items.drop (i + 1) := by
        obtain ⟨hl, e⟩ := List.getElem?_eq_some_iff.mp hd
        rw [List.drop_eq_getElem_cons hl, e]
      rw [hdrop] at q2
      have q3 := wp_bnd q2
      dsimp only at q3
      cases hb : bindT g2 tgc d n with
      | none => rw [hb] at q3; exact q3.elim
      | some g3 =>
        rw [hb] at q3
        have R3 := r2.step r3 st3
        show gT X.K tgc x σ2 H' _
        rw [hK]
        refine bind_tg r3 hx hb fun σ3 r4 _ _ => ⟨F3, g3, ⟨r4, R3.exF, R3.nF⟩, wp_mono q3 (fun (fl, g4) q4 => ?_) fun _ z => z.elim⟩
        have e3 : Same F1 F3 := e2.trans st3.exF
        cases fl with
        | nx => exact fun σ' F' H' e r' => ⟨F', g4, r', e3.trans e, q4⟩
        | ct => exact fun σ' F' H' e r' => ⟨F', g4, r', e3.trans e, q4⟩
        | bk => exact fun σ' F' H' e r' => q4 σ' F' H' ((st1.exF.trans e3).trans e) r'
        | rt s => exact fun v σ' F' H' e r' h => q4 v σ' F' H' ((st1.exF.trans e3).trans e) r' h
    · rintro σ2 H2 ⟨F2, g2, r2, e2, q2⟩
      rw [List.drop_length] at q2
      exact q2 σ2 F2 H2 (st1.exF.trans e2) r2
theorem ps_while_ {stm : List Stmt} (ht : PT X.nox t (TT_ R WF (tst ct (evE E ct)))) (hb : PSs X.nox stm (TS_ R WF (evSs E body))) : PS X (.While t stm [] pos) (TS_ R W (evS E (.while_ ct body))) := by
  refine PS.imp (PS.nox (ps_while PassesOwn.never ht hb)) fun D σ H ⟨F, g, r, q⟩ => ?_
  have q0 := wp_nox q
  refine ⟨fun m σ H => ∃ F2 g, RelS R F2 g σ H ∧ Same F F2 ∧ wp (whileL (evT E ct) (evSs E body) m g) (FlC R F D) (fun _ => False), ⟨whileN, F, g, r, Same.refl _, q0⟩, ?_⟩
  rintro m σ2 H2 ⟨F2, g2, r2, e2, q2⟩
  cases m with
  | zero => exact q2.elim
  | succ m =>
    refine ⟨F2, g2, r2.rel, wp_mono (wp_bnd q2) (fun (k, g3) q3 F3 H3 r3 st3 => ?_) fun _ z => z.elim⟩
    have R3 := r2.step r3 st3
    have e3 : Same F F3 := e2.trans st3.exF
    cases k with
    | false => exact q3 σ2 F3 H3 e3 R3
    | true =>
      refine ⟨fun σ' H' => ∃ F2 g, RelS R F2 g σ' H' ∧ Same F F2 ∧ wp (whileL (evT E ct) (evSs E body) m g) (FlC R F D) (fun _ => False), fun σ' H' h => ⟨m, Nat.lt_succ_self m, h⟩, F3, g3, R3, wp_mono (wp_bnd q3) (fun (fl, g4) q4 => ?_) fun _ z => z.elim⟩
      cases fl with
      | nx => exact fun σ' F' H' e r' => ⟨F', g4, r', e3.trans e, q4⟩
      | ct => exact fun σ' F' H' e r' => ⟨F', g4, r', e3.trans e, q4⟩
      | bk => exact fun σ' F' H' e r' => q4 σ' F' H' (e3.trans e) r'
      | rt s => exact fun v σ' F' H' e r' h => q4 v σ' F' H' (e3.trans e) r' h
end
end Y
set_option Elab.async false
set_option linter.all false
set_option maxRecDepth 100000
set_option maxHeartbeats 2000000
namespace Y
open PySem PySem.Spec L2
/-! ### a dict locked, unlocked -/
inductive Lk : HO → HO → Prop
  | on {o : Obj} {kvs : List (Key × V)} : Lk (.dK kvs) (.frz o (.dK kvs))
  | off {o : Obj} {kvs : List (Key × V)} : Lk (.frz o (.dK kvs)) (.dK kvs)
def SameK (G G' : Hp) : Prop := ∀ b o, G b = some o → G' b = some o ∨ ∃ o', Lk o o' ∧ G' b = some o'
section
variable {K : PySem.W.Frag} {F F' H H' : Hp}
mutual
theorem At.lk (e : SameK F F') : ∀ (d : D) (v : V), At K F v d → At K F' v d
  | .non, _, h => by cases h; exact .non
  | .bl b, _, h => by cases h; exact .bl b
  | .int i, _, h => by cases h; exact .int i
  | .str s, _, h => by cases h; exact .str s
  | .scr ns, _, h => by
    cases h with
    | scr h1 =>
      refine .scr ?_
      unfold SqL at *
      rcases h1 with (h1 | ⟨o, h1⟩) | h1
      · rcases e _ _ h1 with z | ⟨o', l, z⟩
        · exact .inl (.inl z)
        · cases l
      · rcases e _ _ h1 with z | ⟨o', l, z⟩
        · exact .inl (.inr ⟨o, z⟩)
        · cases l
      · exact .inr h1
  | .ktup xs, _, h => by cases h with | ktup h1 => exact .ktup h1
  | .lst xs, _, h => by
    cases h with
    | lst h1 h2 =>
      rcases e _ _ h1 with z | ⟨o', l, z⟩
      · exact .lst z (atL_lk e xs _ h2)
      · cases l
  | .tup xs, _, h => by
    cases h with
    | tup h1 h2 =>
      rcases e _ _ h1 with z | ⟨o', l, z⟩
      · exact .tup z (atL_lk e xs _ h2)
      · cases l
  | .dct ks xs, _, h => by
    cases h with
    | dct h1 h2 h3 =>
      refine .dct ?_ h2 (atL_lk e xs _ h3)
      rcases h1 with h1 | ⟨o, h1⟩
      · rcases e _ _ h1 with z | ⟨o', l, z⟩
        · exact .inl z
        · cases l; exact .inr ⟨_, z⟩
      · rcases e _ _ h1 with z | ⟨o', l, z⟩
        · exact .inr ⟨o, z⟩
        · cases l; exact .inl z
  | .dctT ks xs, _, h => by
    cases h with
    | dctT h1 h2 h3 =>
      rcases e _ _ h1 with z | ⟨o', l, z⟩
      · exact .dctT z h2 (atL_lk e xs _ h3)
      · cases l
  | .obj c fs xs, _, h => by
    cases h with
    | obj h1 h2 h3 =>
      rcases e _ _ h1 with z | ⟨o', l, z⟩
      · exact .obj z h2 (atL_lk e xs _ h3)
      · cases l
theorem atL_lk (e : SameK F F') : ∀ (ds : List D) (vs : List V), Paired (At K F) vs ds → Paired (At K F') vs ds
  | [], _, h => by cases h; exact .nil
  | d :: ds, _, h => by cases h with | cons h1 h2 => exact .cons (At.lk e d _ h1) (atL_lk e ds _ h2)
end
theorem Top.lk {p : Addr} {d : D} (h : Top K F H p d) (e : SameK F F') (hp : H' p = H p) : Top K F' H' p d := by
  cases h with
  | lst h1 h2 => exact .lst (by rw [hp]; exact h1) (atL_lk e _ _ h2)
  | dct h1 h2 h3 => exact .dct (by rw [hp]; exact h1) h2 (atL_lk e _ _ h3)
  | dctT h1 h2 h3 => exact .dctT (by rw [hp]; exact h1) h2 (atL_lk e _ _ h3)
  | obj h1 h2 h3 => exact .obj (by rw [hp]; exact h1) h2 (atL_lk e _ _ h3)
end
/-- the heap where what stands at d is given another guise -/
def updS (G : Hp) (d : Addr) (w : HO) : Hp := if (G d).isSome = true then upd G d w else G
theorem updS_dom {G : Hp} {d b : Addr} {w : HO} : (updS G d w b).isSome = (G b).isSome := by
  unfold updS
  split
  · rename_i h
    by_cases e : b = d
    · subst e; rw [upd_same, h]; rfl
    · rw [upd_ne e]
  · rfl
theorem updS_ne {G : Hp} {d b : Addr} {w : HO} (e : b ≠ d) : updS G d w b = G b := by
  unfold updS
  split
  · rw [upd_ne e]
  · rfl
def Fr.lk (R : Fr) (d : Addr) (w : HO) : Fr := ⟨R.K, updS R.H0 d w, updS R.F0 d w, R.io⟩
theorem updS_back {G : Hp} {d : Addr} {u w : HO} (h : ∀ o, G d = some o → o = u) : updS (updS G d w) d u = G := by
  funext b
  by_cases e : b = d
  · subst e
    unfold updS
    cases q : G b with
    | none => simp [q]
    | some o => simp [q, upd, h o q]
  · rw [updS_ne e, updS_ne e]
section
variable {R : Fr} {F H F' H' : Hp} {g : G} {σ : L2.St} {d : Addr} {w w' : HO}
theorem sameK_FN {n : Bool} (hF : F d = some w) (l : Lk w w') : SameK (FN R.H0 F n) (FN (R.lk d w').H0 (upd F d w') n) := fun b o q => by
  unfold FN at q ⊢
  split at q
  · cases q
  · rename_i h1
    rw [if_neg (by show ¬ (n = true ∧ (updS R.H0 d w' b).isSome = true); rw [updS_dom]; exact h1)]
    by_cases e : b = d
    · subst e
      rw [hF] at q
      cases q
      exact .inr ⟨w', l, upd_same⟩
    · exact .inl (by rw [upd_ne e]; exact q)
theorem SlAt.lk {i : Nat} {v : V} {s : Sl} (h : SlAt R F H i v s) (hF : F d = some w) (l : Lk w w') : SlAt (R.lk d w') (upd F d w') (upd H d w') i v s := by
  obtain ⟨sd, m, n⟩ := s
  have ne : ∀ {p : Addr}, F p = none → p ≠ d := fun {p} z e => by rw [e, hF] at z; cases z
  cases m with
  | fr => exact At.lk (sameK_FN hF l) _ _ h
  | ow =>
    obtain ⟨p, rfl, h1, h2, h3⟩ := h
    exact ⟨p, rfl, by rw [upd_ne (ne h1)]; exact h1, by show updS R.H0 d w' p = none; rw [updS_ne (ne h1)]; exact h2, h3.lk (sameK_FN hF l) (upd_ne (ne h1))⟩
  | io =>
    obtain ⟨p, rfl, h1, h2, h3⟩ := h
    exact ⟨p, rfl, by rw [upd_ne (ne h1)]; exact h1, h2, h3.lk (sameK_FN hF l) (upd_ne (ne h1))⟩
theorem RelS.lk (r : RelS R F g σ H) (hF : F d = some w) (l : Lk w w') : RelS (R.lk d w') (upd F d w') g σ (upd H d w') := by
  have rl := r.rel
  have hH : H d = some w := rl.ex _ _ hF
  refine ⟨⟨rl.len, fun i s hi => ?_, rl.dis, fun b u q => ?_, fun b u q n => ?_, fun b q => ?_, fun q hq => ?_, rl.iog⟩, fun b u q => ?_, fun b h1 h2 => ?_⟩
  · obtain ⟨v, h1, h2⟩ := rl.at_ i s hi
    exact ⟨v, h1, h2.lk hF l⟩
  · by_cases e : b = d
    · subst e; rw [upd_same] at q ⊢; exact q
    · rw [upd_ne e] at q ⊢; exact rl.ex b u q
  · by_cases e : b = d
    · subst e
      have q' : updS R.H0 b w' b = some u := q
      unfold updS at q'
      split at q'
      · rw [upd_same] at q' ⊢; exact q'
      · rename_i h; rw [q'] at h; exact absurd rfl h
    · have q' : updS R.H0 d w' b = some u := q
      rw [updS_ne e] at q'
      rw [upd_ne e]
      exact rl.keep b u q' n
  · by_cases e : b = d
    · subst e; rw [upd_same]; rfl
    · have q' : (updS R.H0 d w' b).isSome = true := q
      rw [updS_ne e] at q'
      rw [upd_ne e]
      exact rl.there b q'
  · show (updS R.H0 d w' q.2).isSome = true
    rw [updS_dom]
    exact rl.ios q hq
  · have q' : updS R.F0 d w' b = some u := q
    by_cases e : b = d
    · subst e
      unfold updS at q'
      split at q'
      · rw [upd_same] at q' ⊢; exact q'
      · rename_i h; rw [q'] at h; exact absurd rfl h
    · rw [updS_ne e] at q'
      rw [upd_ne e]
      exact r.exF b u q'
  · have h1' : updS R.F0 d w' b = none := h1
    have h2' : (updS R.H0 d w' b).isSome = true := h2
    rw [updS_dom] at h2'
    have h3 : R.F0 b = none := by
      have := updS_dom (G := R.F0) (d := d) (b := b) (w := w')
      rw [h1'] at this
      cases q : R.F0 b with
      | none => rfl
      | some _ => rw [q] at this; cases this
    have h4 := r.nF b h3 h2'
    rw [upd_ne (fun e => by subst e; rw [hF] at h4; cases h4)]
    exact h4
theorem ResAt.lk {v : V} {s : Sl} (h : ResAt R g σ R.H0 F H v s) (hF : F d = some w) (l : Lk w w') : ResAt (R.lk d w') g σ (R.lk d w').H0 (upd F d w') (upd H d w') v s := by
  obtain ⟨sd, m, n⟩ := s
  have ne : ∀ {p : Addr}, F p = none → p ≠ d := fun {p} z e => by rw [e, hF] at z; cases z
  cases m with
  | fr => exact At.lk (sameK_FN hF l) _ _ h
  | ow =>
    obtain ⟨p, rfl, h1, h2, h3, h4⟩ := h
    exact ⟨p, rfl, by show updS R.H0 d w' p = none; rw [updS_ne (ne h2)]; exact h1, by rw [upd_ne (ne h2)]; exact h2, h3, h4.lk (sameK_FN hF l) (upd_ne (ne h2))⟩
  | io => exact h.elim
/-- back again -/
theorem Fr.lk_lk (r : RelS R F g σ H) {o : Obj} {kvs : List (Key × V)} (hF : F d = some (.dK kvs)) : (R.lk d (.frz o (.dK kvs))).lk d (.dK kvs) = R := by
  have hH : H d = some (.dK kvs) := r.rel.ex _ _ hF
  have h1 : ∀ o, R.H0 d = some o → o = .dK kvs := fun o q => by
    have := r.rel.keep d o q fun p hp e => by
      obtain ⟨s, h2, h3, h4⟩ := r.rel.iog p hp
      obtain ⟨v, h5, h6⟩ := r.rel.at_ _ _ h2
      rw [h4] at h5
      cases h5
      obtain ⟨p', e', h7, _⟩ := slAt_own h6 (by rw [h3]; simp)
      cases e'
      rw [e, hF] at h7
      cases h7
    rw [hH] at this
    cases this
    rfl
  have h2 : ∀ o, R.F0 d = some o → o = .dK kvs := fun o q => by
    have := r.exF d o q
    rw [hF] at this
    cases this
    rfl
  unfold Fr.lk
  rw [updS_back h1, updS_back h2]
end
section
variable {X : Cx} {R : Fr} {W : XK} {E : Ev} {e : Expr} {stm : List Stmt} {body : List Y.S} {pos : Pos} {i j : Nat}
def TB_S (K : PySem.W.Frag) (E : Ev) (body : List Y.S) : TS := fun D σ H => ∃ R, R.K = K ∧ TS_ R WF (evSs E body) D σ H
theorem at_key {K : PySem.W.Frag} {G : Hp} (k : Key) : At K G (kV k) (keyD k) := by
  cases k with
  | inl i => exact .int i
  | inr s => exact .str s
abbrev fDb (E : Ev) (i : Nat) (body : List Y.S) : Y.D → G → M (Fl × G) := fun d g2 => match putAll g2 [i] [d] true with
  | some g3 => evSs E body g3
  | none => none
theorem imp_forD {D : Ends} {F H : Hp} {g : G} {σ : L2.St} {d : Addr} {o : Obj} {kvs : List (Key × V)} {td : TE} (r : RelS R F g σ H) (hF : F d = some (.frz o (.dK kvs))) (htd : ∀ Q, Q (.ref d) H → td σ H Q)
    (q : wp (forL (fDb E i body) ((kvs.map (·.1)).map keyD) g) (FlC R F D) (fun _ => False)) : tFor (iKeys td) (gName i) (TB_S R.K E body) D σ H := by
  refine htd _ ⟨d, o, rfl, .inl ⟨kvs, r.rel.ex _ _ hF, ?_⟩⟩
  have hlen : ((kvs.map (·.1)).map keyD).length = kvs.length := by rw [List.length_map, List.length_map]
  refine for_it (walk_keys (d := d) (o := o) (kvs := kvs)) (fun n σ H => ∃ F2 g, RelS R F2 g σ H ∧ Same F F2 ∧ wp (forL (fDb E i body) (((kvs.map (·.1)).map keyD).drop n) g) (FlC R F D) (fun _ => False)) ?_ ?_ ?_ ?_
  · exact ⟨F, g, r, Same.refl _, q⟩
  · rintro n σ2 H2 _ ⟨F2, g2, r2, e2, _⟩
    exact r2.rel.ex _ _ (e2 _ _ hF)
  · rintro n x σ2 H2 H' hn ⟨F2, g2, r2, e2, q2⟩ ⟨hHe, kk, vv, hk, rfl⟩
    subst hHe
    have hd : ((kvs.map (·.1)).map keyD)[n]? = some (keyD kk) := by rw [List.getElem?_map, List.getElem?_map, hk]; rfl
    have hdrop : ((kvs.map (·.1)).map keyD).drop n = keyD kk :: ((kvs.map (·.1)).map keyD).drop (n + 1) := by
      obtain ⟨hl, e⟩ := List.getElem?_eq_some_iff.mp hd
      rw [List.drop_eq_getElem_cons hl, e]
    rw [hdrop] at q2
    have q3 := wp_bnd q2
    dsimp only [fDb] at q3
    cases hb : putAll g2 [i] [keyD kk] true with
    | none => rw [hb] at q3; exact q3.elim
    | some g3 =>
      rw [hb] at q3
      have hbind : ∀ Q : L2.St → Hp → Prop, (∀ σ', Rel R F2 g3 σ' H' → Q σ' H') → gName i (kV kk) σ2 H' Q := fun Q k => bind_tg (tg := .one i) r2.rel (at_key (K := R.K) (G := FN R.H0 F2 true) kk) hb fun σ' r' _ _ => k σ' r'
      refine hbind _ fun σ3 r4 => ⟨R, rfl, F2, g3, ⟨r4, r2.exF, r2.nF⟩, wp_mono q3 (fun (fl, g4) q4 => ?_) fun _ z => z.elim⟩
      cases fl with
      | nx => exact fun σ' F' H' e r' => ⟨F', g4, r', e2.trans e, q4⟩
      | ct => exact fun σ' F' H' e r' => ⟨F', g4, r', e2.trans e, q4⟩
      | bk => exact fun σ' F' H' e r' => q4 σ' F' H' (e2.trans e) r'
      | rt s => exact fun v σ' F' H' e r' h => q4 v σ' F' H' (e2.trans e) r' h
  · rintro σ2 H2 ⟨F2, g2, r2, e2, q2⟩
    rw [← hlen, List.drop_length] at q2
    exact q2 σ2 F2 H2 e2 r2
theorem ps_forD_ {x f : Str} {xpos p2 npos : Pos} {e' : Expr} (hE : AttOk R.K E) (hK : X.K = R.K) (hc : X.calm = true) (hj : PE X.nox e' (tVar j)) (hb' : attributeBase e' f X.env (eval e' X.env) = eval e' X.env) (hg : PG X.nox (.Name x npos) (gName i)) (hb : ∀ R' : Fr, R'.K = R.K → PSs X.nox stm (TS_ R' WF (evSs E body)))
    (hs : ∀ v, foldedSetIterable (.Attribute e' f p2) X.env v = pure v) : PS X (.For (.Name x npos) (.Attribute e' f p2) stm [] pos) (TS_ R W (evS E (.forD i j f body))) := by
  have hbody : PSs X.nox stm (TB_S R.K E body) := ⟨fun pins s σ H D I ⟨R', hR, q⟩ => (hb R' hR).run pins s σ H D I q⟩
  have base : PS X.nox (.For (.Name x npos) (.Attribute e' f p2) stm [] pos) (tFor (iKeys (tFld X.K (tVar j) f)) (gName i) (TB_S R.K E body)) := ps_for PassesOwn.never hc (pi_keys (pe_fld hj hb')) hg hbody hs
  refine PS.nox ⟨fun pins s σ H D I q => ?_⟩
  obtain ⟨F, g, r, q⟩ := q
  have q0 : wp (match g.get j with
    | some ⟨.obj c fs xs, _, _⟩ => if E.att c f = true then (match look fs xs f with
      | some (.dct ks _) => forL (fDb E i body) (ks.map keyD) g
      | _ => none) else none
    | _ => none) (FlC R F D) (fun _ => False) := wp_nox q
  split at q0
  · rename_i c fs xs m n hgj
    obtain ⟨hatt, q1⟩ := ifNone q0
    split at q1
    · rename_i ks ds hlk
      obtain ⟨v, h1, h2⟩ := r.rel.at_ j _ hgj
      have hview : View R.K (FN R.H0 F n) H v (.obj c fs xs) := by
        cases m with
        | fr => exact At.view (FN_le.trans r.rel.ex) h2
        | ow => obtain ⟨p, rfl, _, _, h4⟩ := h2; exact .top h4
        | io => obtain ⟨p, rfl, _, _, h4⟩ := h2; exact .top h4
      obtain ⟨a, dx, kvs0, rfl, h3, h4, h5⟩ := hview.as_obj
      obtain ⟨hcl, hna⟩ := hE c f hatt
      obtain ⟨u, h6, h7⟩ := look_lookup f h4 h5 _ hlk
      cases h7 with
      | dct h8 h9 h10 =>
        rename_i dd kvs
        subst h9
        -- the reading of the attribute, in any heap that has the instance
        have fld : ∀ (H' : Hp), H' a = some (.ins (He.ga R.K c) dx kvs0) → ∀ Q : VK, Q (.ref dd) H' → tFld X.K (tVar j) f σ H' Q := fun H' ha Q hq => ⟨_, h1, a, _, dx, kvs0, _, rfl, ha, by rw [hK]; exact hcl, by rw [hK]; exact hna, h6, hq⟩
        rcases h8 with h8 | ⟨o, h8⟩
        · have hFd : F dd = some (.dK kvs) := FN_le _ _ h8
          refine (ps_lock base).run pins s σ H D I ⟨dd, .dK kvs, r.rel.ex _ _ hFd, trivial, fun od => ?_⟩
          have rL := r.lk hFd (Lk.on (o := od))
          have hback := Fr.lk_lk (o := od) r hFd
          have hne : a ≠ dd := fun e => by
            have hHd : H dd = some (.dK kvs) := r.rel.ex _ _ hFd
            rw [e, hHd] at h3
            cases h3
          have hba : ∀ {F2 : Hp}, Same (upd F dd (.frz od (.dK kvs))) F2 → F2 dd = some (.frz od (.dK kvs)) := fun {F2} e => e _ _ upd_same
          have hsm : ∀ {F2 : Hp}, Same (upd F dd (.frz od (.dK kvs))) F2 → Same F (upd F2 dd (.dK kvs)) := fun {F2} e b o q => by
            by_cases eb : b = dd
            · subst eb; rw [hFd] at q; cases q; exact upd_same
            · rw [upd_ne eb]; exact e b o (by rw [upd_ne eb]; exact q)
          have main := imp_forD (E := E) (i := i) (body := body) (td := tFld X.K (tVar j) f) rL upd_same (fun Q hq => fld _ (by rw [upd_ne hne]; exact h3) Q hq) (D := ⟨fun σ' H' => H' dd = some (.frz od (.dK kvs)) ∧ D.nx σ' (upd H' dd (.dK kvs)), fun v H' => H' dd = some (.frz od (.dK kvs)) ∧ D.rt v (upd H' dd (.dK kvs)), fun σ' H' => H' dd = some (.frz od (.dK kvs)) ∧ D.bk σ' (upd H' dd (.dK kvs)), fun σ' H' => H' dd = some (.frz od (.dK kvs)) ∧ D.ct σ' (upd H' dd (.dK kvs))⟩)
            (wp_mono q1 (fun (fl, g4) q4 => by
              have rb : ∀ {F2 H2 : Hp} {σ2 : L2.St}, Same (upd F dd (.frz od (.dK kvs))) F2 → RelS (R.lk dd (.frz od (.dK kvs))) F2 g4 σ2 H2 → RelS R (upd F2 dd (.dK kvs)) g4 σ2 (upd H2 dd (.dK kvs)) := fun {F2 H2 σ2} e r2 => by
                have := r2.lk (hba e) (Lk.off (o := od))
                rw [hback] at this
                exact this
              cases fl with
              | nx => exact fun σ' F' H' e r' => ⟨r'.rel.ex _ _ (hba e), q4 σ' _ _ (hsm e) (rb e r')⟩
              | ct => exact fun σ' F' H' e r' => ⟨r'.rel.ex _ _ (hba e), q4 σ' _ _ (hsm e) (rb e r')⟩
              | bk => exact fun σ' F' H' e r' => ⟨r'.rel.ex _ _ (hba e), q4 σ' _ _ (hsm e) (rb e r')⟩
              | rt s => exact fun v σ' F' H' e r' h => ⟨r'.rel.ex _ _ (hba e), q4 v σ' _ _ (hsm e) (rb e r') (by
                have := h.lk (hba e) (Lk.off (o := od))
                rw [hback] at this
                exact this)⟩) fun _ z => z)
          exact main
        · have hFd : F dd = some (.frz o (.dK kvs)) := FN_le _ _ h8
          exact base.run pins s σ H D I (imp_forD r hFd (fun Q hq => fld H h3 Q hq) q1)
    · exact q1.elim
  · exact q0.elim
end
end Y
set_option Elab.async false
set_option linter.all false
set_option maxRecDepth 100000
set_option maxHeartbeats 2000000
namespace Y
open PySem PySem.Spec PyProof.Rows L2
/-! ### a def by its body's core -/
/-- the slots at the entry -/
def ent (io : Option Nat) : Nat → List D → G
  | _, [] => []
  | j, d :: ds => some ⟨d, if io = some j then .io else .fr, if io = some j then d.kidsAtom else d.atom⟩ :: ent io (j + 1) ds
def outD (io : Option Nat) (g : G) : Option (Option (D × Bool)) := match io with
  | none => some none
  | some j => match g.get j with
    | some ⟨d, .io, n⟩ => some (some (d, n))
    | _ => none
def runG (io : Option Nat) (nN np : Nat) (ev : G → M (Fl × G)) : Fn := fun ds =>
  if ds.length = np then M.bnd (ev (ent io 0 ds ++ List.replicate (nN - np) none)) fun (fl, g1) => match outD io g1 with
    | some o => (match fl with
      | .nx => some (.ok (atm .non, o))
      | .rt s => some (.ok (s, o))
      | _ => none)
    | none => none
  else none
def runF (E : Ev) (io : Option Nat) (nN np : Nat) (body : List S) : Fn := runG io nN np (evSs E body)
theorem argAt_ent {K : PySem.W.Frag} {F H : Hp} {io : Option Nat} : ∀ {j : Nat} {vs : List V} {ds : List D}, ArgAt K F H io j vs ds →
    ∀ i s, (ent io j ds)[i]? = some (some s) → ∃ v, vs[i]? = some v ∧ True ∧ ((s.m = .fr ∧ s.n = s.d.atom ∧ io ≠ some (j + i) ∧ At K F v s.d) ∨ (s.m = .io ∧ s.n = s.d.kidsAtom ∧ io = some (j + i) ∧ ∃ p, v = .ref p ∧ F p = none ∧ Top K F H p s.d))
  | _, _, _, .nil, i, s, h => by simp [ent] at h
  | j, _, _, .val (v := v) (d := d) hne hv t, i, s, h => by
    cases i with
    | zero =>
      simp only [ent, List.getElem?_cons_zero, Option.some.injEq] at h
      subst h
      exact ⟨v, rfl, trivial, .inl ⟨by show (if io = some j then Mode.io else .fr) = _; rw [if_neg hne], by show (if io = some j then d.kidsAtom else d.atom) = _; rw [if_neg hne], hne, hv⟩⟩
    | succ i =>
      simp only [ent, List.getElem?_cons_succ] at h
      obtain ⟨w, h1, h2, h3⟩ := argAt_ent t i s h
      have e : j + 1 + i = j + (i + 1) := by omega
      rw [e] at h3
      exact ⟨w, by simpa using h1, h2, h3⟩
  | j, _, _, .io (p := p) (d := d) he hF hT t, i, s, h => by
    cases i with
    | zero =>
      simp only [ent, List.getElem?_cons_zero, Option.some.injEq] at h
      subst h
      exact ⟨_, rfl, trivial, .inr ⟨by show (if io = some j then Mode.io else .fr) = _; rw [if_pos he], by show (if io = some j then d.kidsAtom else d.atom) = _; rw [if_pos he], he, p, rfl, hF, hT⟩⟩
    | succ i =>
      simp only [ent, List.getElem?_cons_succ] at h
      obtain ⟨w, h1, h2, h3⟩ := argAt_ent t i s h
      have e : j + 1 + i = j + (i + 1) := by omega
      rw [e] at h3
      exact ⟨w, by simpa using h1, h2, h3⟩
theorem argAt_len {K : PySem.W.Frag} {F H : Hp} {io : Option Nat} {j : Nat} {vs : List V} {ds : List D} (h : ArgAt K F H io j vs ds) : vs.length = ds.length := by
  induction h with
  | nil => rfl
  | val _ _ _ ih => rw [List.length_cons, List.length_cons, ih]
  | io _ _ _ _ ih => rw [List.length_cons, List.length_cons, ih]
theorem ent_len (io : Option Nat) : ∀ (j : Nat) (ds : List D), (ent io j ds).length = ds.length
  | _, [] => rfl
  | j, d :: ds => by rw [ent, List.length_cons, List.length_cons, ent_len]
theorem argAt_io {K : PySem.W.Frag} {F H : Hp} {io : Option Nat} : ∀ {j : Nat} {vs : List V} {ds : List D}, ArgAt K F H io j vs ds → ∀ i v, io = some (j + i) → vs[i]? = some v → ∃ p s, v = .ref p ∧ F p = none ∧ (∃ d, Top K F H p d) ∧ (ent io j ds)[i]? = some (some s) ∧ s.m = .io
  | _, _, _, .nil, i, v, _, h => by simp at h
  | j, _, _, .val (d := d) hne hv t, i, v, e, h => by
    cases i with
    | zero => exact absurd (by simpa using e) hne
    | succ i =>
      have e' : io = some (j + 1 + i) := by rw [e]; congr 1; omega
      obtain ⟨p, s, h1, h2, h3, h4, h5⟩ := argAt_io t i v e' (by simpa using h)
      exact ⟨p, s, h1, h2, h3, by simpa [ent] using h4, h5⟩
  | j, _, _, .io (p := p) (d := d) he hF hT t, i, v, e, h => by
    cases i with
    | zero =>
      simp only [List.getElem?_cons_zero, Option.some.injEq] at h
      exact ⟨p, ⟨d, .io, d.kidsAtom⟩, h.symm, hF, ⟨d, hT⟩, by simp [ent, he], rfl⟩
    | succ i =>
      have e' : io = some (j + 1 + i) := by rw [e]; congr 1; omega
      obtain ⟨p, s, h1, h2, h3, h4, h5⟩ := argAt_io t i v e' (by simpa using h)
      exact ⟨p, s, h1, h2, h3, by simpa [ent] using h4, h5⟩
def ioL (io : Option Nat) (vs : List V) : List (Nat × Addr) := match io with
  | none => []
  | some j => match vs[j]? with
    | some (.ref p) => [(j, p)]
    | _ => []
theorem ioL_mem {io : Option Nat} {vs : List V} {q : Nat × Addr} (h : q ∈ ioL io vs) : io = some q.1 ∧ vs[q.1]? = some (.ref q.2) ∧ ioA io vs = some q.2 := by
  unfold ioL at h
  cases io with
  | none => cases h
  | some j =>
    dsimp only at h
    split at h
    · rename_i p hp
      rcases List.mem_singleton.mp h with rfl
      exact ⟨rfl, hp, by unfold ioA; simp only [hp]⟩
    · cases h
theorem ioL_of {io : Option Nat} {vs : List V} {j : Nat} {p : Addr} (h : io = some j) (hv : vs[j]? = some (.ref p)) : (j, p) ∈ ioL io vs := by
  unfold ioL
  rw [h]
  dsimp only
  rw [hv]
  exact List.mem_singleton.mpr rfl
section
variable {K : PySem.W.Frag} {F H : Hp} {io : Option Nat} {vs : List V} {ds : List D} {N : List Str}
theorem start_get {i : Nat} {v : V} (h : vs[i]? = some v) : (start N vs)[i]? = some (some v) := by
  unfold L2.start
  have hl := (List.getElem?_eq_some_iff.mp h).1
  rw [List.getElem?_append_left (by rw [List.length_map]; exact hl), List.getElem?_map, h]
  rfl
theorem rel_start (eF : Same F H) (hA : ArgAt K F H io 0 vs ds) (hn : vs.length ≤ N.length) : RelS ⟨K, H, F, ioL io vs⟩ F (ent io 0 ds ++ List.replicate (N.length - ds.length) none) (start N vs) H := by
  have hl := argAt_len hA
  have gl : ∀ i s, G.get (ent io 0 ds ++ List.replicate (N.length - ds.length) none) i = some s → (ent io 0 ds)[i]? = some (some s) := fun i s h => by
    unfold G.get at h
    by_cases hi : i < (ent io 0 ds).length
    · rw [List.getElem?_append_left hi] at h
      cases q : (ent io 0 ds)[i]? with
      | none => rw [q] at h; cases h
      | some o => rw [q] at h; cases o with
        | none => cases h
        | some t => cases h; rfl
    · rw [List.getElem?_append_right (by omega)] at h
      rw [List.getElem?_replicate] at h
      split at h <;> cases h
  have key : ∀ i s, G.get (ent io 0 ds ++ List.replicate (N.length - ds.length) none) i = some s → ∃ v, (start N vs)[i]? = some (some v) ∧ vs[i]? = some v ∧ True ∧ ((s.m = .fr ∧ s.n = s.d.atom ∧ At K F v s.d) ∨ (s.m = .io ∧ s.n = s.d.kidsAtom ∧ io = some i ∧ ∃ p, v = .ref p ∧ F p = none ∧ Top K F H p s.d)) := fun i s h => by
    obtain ⟨v, h1, h2, h3⟩ := argAt_ent hA i s (gl i s h)
    rw [Nat.zero_add] at h3
    exact ⟨v, start_get h1, h1, h2, h3.imp (fun z => ⟨z.1, z.2.1, z.2.2.2⟩) id⟩
  refine ⟨⟨?_, fun i s hi => ?_, fun i j s t p hi hj hs ht pi pj => ?_, eF, fun b o h _ => h, fun b h => h, fun q hq => ?_, fun q hq => ?_⟩, Same.refl F, fun b h _ => h⟩
  · unfold L2.start
    rw [List.length_append, List.length_append, List.length_map, List.length_replicate, List.length_replicate, ent_len, hl]
  · obtain ⟨v, h1, h2, h3, h4⟩ := key i s hi
    refine ⟨v, h1, ?_⟩
    obtain ⟨d, m, n⟩ := s
    rcases h4 with ⟨hm, hn', h4⟩ | ⟨hm, hn', hio, p, rfl, h5, h6⟩
    · cases (show m = .fr from hm)
      cases (show n = d.atom from hn')
      show At K (FN H F d.atom) v d
      cases ha : d.atom with
      | true => exact h4.atom ha
      | false => rw [FN_false]; exact h4
    · cases (show m = .io from hm)
      cases (show n = d.kidsAtom from hn')
      refine ⟨p, rfl, h5, ioL_of hio h2, ?_⟩
      show Top K (FN H F d.kidsAtom) H p d
      cases ha : d.kidsAtom with
      | true => exact h6.atoms ha
      | false => rw [FN_false]; exact h6
  · obtain ⟨_, _, _, _, h4⟩ := key i s hi
    obtain ⟨_, _, _, _, h5⟩ := key j t hj
    rcases h4 with ⟨hm, _⟩ | ⟨_, _, h4, _⟩
    · exact absurd hm hs
    · rcases h5 with ⟨hm, _⟩ | ⟨_, _, h5, _⟩
      · exact absurd hm ht
      · rw [h4] at h5; exact Option.some.inj h5
  · obtain ⟨h1, h2, _⟩ := ioL_mem hq
    obtain ⟨p, s, e, _, ⟨d, hT⟩, _⟩ := argAt_io hA q.1 _ (by rw [Nat.zero_add]; exact h1) h2
    cases e
    obtain ⟨u, hu⟩ := hT.is
    show (H q.2).isSome = true
    rw [hu]; rfl
  · obtain ⟨h1, h2, _⟩ := ioL_mem hq
    obtain ⟨p, s, e, _, _, h3, h4⟩ := argAt_io hA q.1 _ (by rw [Nat.zero_add]; exact h1) h2
    refine ⟨s, ?_, h4, start_get h2⟩
    unfold G.get
    rw [List.getElem?_append_left (by have := (List.getElem?_eq_some_iff.mp h3).1; exact this), h3]
    rfl
end
theorem post_of {K : PySem.W.Frag} {F H F' H' : Hp} {io : Option Nat} {vs : List V} {g : G} {σ : L2.St} {v : V} {s : Sl} {o : Option (D × Bool)} (hioA : ∀ p, ioA io vs = some p → ∃ j, (j, p) ∈ ioL io vs) (r : RelS ⟨K, H, F, ioL io vs⟩ F' g σ H') (h : ResAt ⟨K, H, F, ioL io vs⟩ g σ H F' H' v s) (ho : outD io g = some o) : CallPost K F H F' H' (ioA io vs) v s o := by
  refine ⟨r.exF, r.rel.ex, fun b u hb hne => r.rel.keep b u hb fun q hq e => ?_, r.nF, r.rel.there, ?_, fun p hp => ?_⟩
  · obtain ⟨_, _, h3⟩ := ioL_mem hq
    rw [← e] at hne
    exact hne h3
  · obtain ⟨d, m, n⟩ := s
    cases m with
    | fr => exact h
    | ow =>
      obtain ⟨p, rfl, h1, h2, _, h4⟩ := h
      exact ⟨p, rfl, h1, h2, h4⟩
    | io => exact h.elim
  · obtain ⟨j, hj⟩ := hioA p hp
    obtain ⟨h1, h2, h3⟩ := ioL_mem hj
    obtain ⟨t, h4, h5, h6⟩ := r.rel.iog _ hj
    have h4' : g.get j = some t := h4
    have h1' : io = some j := h1
    obtain ⟨w, h7, h8⟩ := r.rel.at_ _ _ h4
    rw [h6] at h7
    cases h7
    obtain ⟨d, m, n⟩ := t
    cases (show m = .io from h5)
    obtain ⟨q, e, h9, _, h10⟩ := h8
    cases e
    unfold outD at ho
    rw [h1'] at ho
    dsimp only at ho
    rw [h4'] at ho
    cases ho
    exact ⟨(d, n), rfl, h9, h10⟩
/-- THE RULE of a def by its core -/
theorem fnD {P : Program} {w : World} {K : PySem.W.Frag} {mg : Str → Option Value} {base : Heap} {x qual : Str} {params : Arguments} {body : List Stmt} {scope : Scope} {dvs : List V} {kws : List (Str × V)} {f : Addr} {fd : FuncData} {N ps : List Str} {k np nN : Nat} {io : Option Nat} {ev : G → M (Fl × G)}
    (Fd : FunD K x qual params body scope dvs kws f fd) (Sc : FnScope N ps scope) (hps : ps.length = np) (hN : N.length = nN)
    (hb : ∀ (cdv : Value) (A : Around) (outer : List Env) (s : Shared) (H : Hp) (W : XK) (R : Fr), R.K = K → Room k (A.deeper (envOfC qual scope s.heap.objs.size f cdv)) → PSs (cxOf (L2.CX P w) P w K mg base N qual scope f cdv A outer s H W) body (TS_ R W ev)) :
    FnOk P w K mg base (L2.CX P w) (k + 1) f fd ps (spD K io np (runG io nN np ev)) := by
  have hple : ps.length ≤ N.length := by have := congrArg List.length Sc.pre; rw [List.length_take] at this; omega
  refine Fd.ok Sc (fun vs H Q W ⟨F, ds, _, h, _⟩ => by rw [hps]; exact h) fun cdv A outer s H vs Q W hr hsp => ?_
  obtain ⟨F, ds, eF, hn, hA, q⟩ := hsp
  refine ⟨_, hb cdv A outer s H W ⟨K, H, F, ioL io vs⟩ rfl hr, ?_⟩
  have hl := argAt_len hA
  unfold runG at q
  obtain ⟨hdl, q1⟩ := ifNone q
  have hg : ent io 0 ds ++ List.replicate (nN - np) none = ent io 0 ds ++ List.replicate (N.length - ds.length) none := by rw [hN, hdl]
  rw [hg] at q1
  have hioA : ∀ p, ioA io vs = some p → ∃ j, (j, p) ∈ ioL io vs := fun p hp => by
    unfold ioA at hp
    cases io with
    | none => cases hp
    | some j =>
      dsimp only at hp
      split at hp
      · rename_i q hq
        cases hp
        exact ⟨j, ioL_of rfl hq⟩
      · cases hp
  refine ⟨F, _, rel_start (N := N) eF hA (by omega), wp_mono (wp_bnd q1) (fun (fl, g1) q2 => ?_) fun c hw H' fr => hw H' fun b u h1 h2 => fr b u h1 fun q hq e => ?_⟩
  · dsimp only at q2
    cases ho : outD io g1 with
    | none => rw [ho] at q2; exact q2.elim
    | some o =>
      rw [ho] at q2
      dsimp only at q2
      cases fl with
      | nx => exact fun σ' F' H' _ r' => q2 .non F' H' (post_of hioA r' (At.non) ho)
      | bk => exact q2.elim
      | ct => exact q2.elim
      | rt s => exact fun v σ' F' H' _ r' h => q2 v F' H' (post_of hioA r' h ho)
  · obtain ⟨_, _, h3⟩ := ioL_mem hq
    rw [← e] at h2
    exact h2 h3
end Y
set_option Elab.async false
set_option linter.all false
set_option maxRecDepth 100000
set_option maxHeartbeats 2000000
namespace Y
open PySem PySem.Spec PyProof.Rows L2
/-! ### what is seen of the text -/
def isStar : Expr → Bool | .Starred .. => true | _ => false
def notSlice : Expr → Bool | .Slice .. => false | _ => true
def notSet : Expr → Bool | .Set .. => false | _ => true
def notTup : Expr → Bool | .Tuple .. => false | _ => true
def notComp : Expr → Bool | .ListComp .. => false | .SetComp .. => false | .DictComp .. => false | _ => true
def isIf : Expr → Bool | .IfExp .. => true | _ => false
def plainT : Expr → Bool
  | .UnaryOp .Not _ _ => false
  | .BoolOp .. => false
  | .IfExp .. => false
  | .Compare .. => false
  | _ => true
def noSup : Expr → Bool
  | .Call (.Name x _) [] [] _ => x != "super"
  | _ => true
section
variable {e o : Expr} {es : List Expr} {env : Env} {pos : Pos}
theorem star_ok (h : isStar e = false) : starEach (e :: es) env = (false, eval e env) :: starEach es env := by
  cases e <;> first | rfl | cases h
theorem any_ok : ∀ {es : List Expr}, es.all (fun e => !isStar e) = true → (backTo pos (starEach es env)).any (·.1) = false
  | [], _ => rfl
  | e :: es, h => by
    rw [List.all_cons, Bool.and_eq_true] at h
    rw [star_ok (by simpa using h.1)]
    show (false || (backTo pos (starEach es env)).any (·.1)) = false
    rw [any_ok h.2]
    rfl
theorem all_ok : ∀ {es : List Expr}, es.all (fun e => !isStar e) = true → (backTo pos (starEach es env)).all (fun x => !x.1) = true
  | [], _ => rfl
  | e :: es, h => by
    rw [List.all_cons, Bool.and_eq_true] at h
    rw [star_ok (by simpa using h.1)]
    show (true && (backTo pos (starEach es env)).all (fun x => !x.1)) = true
    rw [all_ok h.2]
    rfl
theorem few_ok (h : es.all (fun e => !isStar e) = true) (hl : es.length < 30) : ((backTo pos (starEach es env)).all (fun x => !x.1) && (backToKw pos (keywordEach [] env)).all (fun x => x.1.isSome) && decide (es.length + ([] : List Keyword).length + (if ([] : List Keyword).isEmpty then 0 else 1) < 30)) = true := by
  rw [all_ok h]
  simp only [Bool.true_and, Bool.and_eq_true, decide_eq_true_eq]
  refine ⟨rfl, ?_⟩
  simpa using hl
theorem base_ok {m : Str} {whole : Sem Value} (h : noSup o = true) : attributeBase o m env whole = whole := by
  unfold attributeBase
  split
  · rename_i id p pos'
    have h' : (id != "super") = true := h
    rw [h']
    rfl
  · rfl
theorem true_ok (h : plainT e = true) (whole : Sem Value) : isTrue e env whole = (do let v ← whole; standAt e.pos; holding [v] (truthy v)) := by
  cases e with
  | UnaryOp op x p => cases op <;> first | rfl | cases h
  | BoolOp => cases h
  | IfExp => cases h
  | Compare => cases h
  | _ => rfl
theorem ix_ok (h : notSlice e = true) : PlainIx e := fun a b => by
  cases e <;> first | rfl | cases h
theorem marks_ok {op : CmpOp} (h : notSet e = true) : behindInMarks op e = false := by
  cases e <;> first | rfl | cases h
theorem sw_ok {t : Option Expr} {l : Nat} (h : notComp e = true) : swapsWith e t l env = pure false := by
  cases e <;> first | rfl | cases h
theorem swT_ok {ts : List Expr} {k : Nat} {p : Pos} {l : Nat} : swapsWithSole [.Tuple ts k p] e l env = pure false := by
  show swapsWith e (some (.Tuple ts k p)) l env = pure false
  cases e <;> rfl
theorem swS_ok {a b : Expr} {p : Pos} {l : Nat} : swapsWithSole [.Subscript a b p] e l env = pure false := by
  show swapsWith e (some (.Subscript a b p)) l env = pure false
  cases e <;> rfl
theorem swA_ok {a : Expr} {f : Str} {p : Pos} {l : Nat} : swapsWith e (some (.Attribute a f p)) l env = pure false := by
  cases e <;> rfl
theorem storesT_ok {ts : List Expr} {k : Nat} {p : Pos} (h : notTup e = true) : swappedStores [.Tuple ts k p] e env = pure none := by
  cases e <;> first | rfl | cases h
theorem storesS_ok {a b : Expr} {p : Pos} : swappedStores [.Subscript a b p] e env = pure none := by
  cases e <;> rfl
theorem fold_ok (h : notSet e = true) (x : Value) : foldedSetIterable e env x = pure x := by
  cases e <;> first | rfl | cases h
theorem asg_ok {a b : Expr} {p : Pos} (h : notSlice b = true) (v : Value) : assign (.Subscript a b p) env v = (do
      let ov ← holding [v] (eval a env)
      let iv ← holding [v, ov] (eval b env)
      standAt p
      holding [v, ov, iv] (setItem ov iv v)
      release [v, ov, iv] []) := by
  cases b <;> first | rfl | cases h
theorem meth_ok {m : Str} {apos : Pos} (hb : noSup o = true) (h : es.all (fun e => !isStar e) = true) (hl : es.length < 30) (hln : (apos.endLine == pos.line) = true) :
    eval (.Call (.Attribute o m apos) es [] pos) env = (do
      let ov ← eval o env
      standAt apos.atName
      let (f, first) ← holding [ov] (getMethod ov m (plainOf o env))
      callWith pos f first (backTo pos (starEach es env)) (backToKw pos (keywordEach [] env))) := by
  refine mcall_of (t := fun ov => do
      let (f, first) ← holding [ov] (getMethod ov m (plainOf o env))
      callWith pos f first (backTo pos (starEach es env)) (backToKw pos (keywordEach [] env))) (base_ok hb) fun ov => mcall_line ?_ hln
  have := few_ok (env := env) (pos := pos) h hl
  unfold methodCallForm
  exact this
theorem m1_ok {X : Cx} {m : Str} {apos : Pos} (hb : noSup o = true) (h : isStar e = false) (hln : (apos.endLine == pos.line) = true) : M1 X o m apos e pos :=
  ⟨base_ok hb, few_ok (by simp [h]) (by simp), hln, by rw [star_ok h]; rfl⟩
/-- two or three names at once -/
theorem par_ok {x y : Str} {px py pt pt2 : Pos} {kt k2 : Nat} {a b : Expr} (hk : env.scope.kind = .function) (hx : env.scope.names.lookup x = some .local) (hy : env.scope.names.lookup y = some .local) (hxy : x ≠ y) (ha : isStar a = false) (hb : isStar b = false) (hl : (py.line == px.line) = true)
    (h1 : [a, b].all (foldedForSure 8) = false) (h2 : [a, b].all (constantsAlone 8) = false) : swappedStores [.Tuple [.Name x px, .Name y py] kt pt] (.Tuple [a, b] k2 pt2) env = pure (some [x, y]) := by
  have hbk : env.blockKind = .function := by unfold Env.blockKind; rw [hk]; rfl
  have kx : env.kindOf x = some .local := hx
  have ky : env.kindOf y = some .local := hy
  have hd : ([x, y].eraseDups).length = 2 := by
    have : (x == y) = false := by simpa using hxy
    have h' : (y == x) = false := by simpa using Ne.symm hxy
    simp [List.eraseDups, List.eraseDupsBy, List.eraseDupsBy.loop, h', this]
  unfold swappedStores
  simp only [hbk, List.head?, Option.map, Option.getD, List.filterMap, kx, ky, Expr.pos, hl, h1, h2]
  simp [hd]
  intro h
  exfalso
  rcases h with h | h
  · revert h
    cases a <;> first | (intro h; cases h; done) | exact absurd ha (by simp [isStar])
  · revert h
    cases b <;> first | (intro h; cases h; done) | exact absurd hb (by simp [isStar])
end
end Y
set_option Elab.async false
set_option linter.all false
set_option maxRecDepth 100000
set_option maxHeartbeats 4000000
namespace Y
open PySem PySem.Spec PyProof.Rows L2
/-! ### core against text -/
structure Q where
  E : Ev
  N : List Str
  blt : Str → Bool
  exB : Str → Bool
def ExcOk (K : PySem.W.Frag) (mg : Str → Option Value) (exB : Str → Bool) : Prop := ∀ c, exB c = true → ∀ X : Cx, X.K = K → X.mg = mg → ∀ (m : Str) (j : Nat) (p p2 pos : Pos), Gl X c → PMk X (.Call (.Name c p) [.Constant (.str m) j p2] [] pos) (fun _ H Q => Q (.ref (He.ga K c)) none H)
structure Bg (q : Q) (k : Nat) (X : Cx) (R : Fr) (W : XK) (sc : Scope) (fnB : Str → Bool) : Prop where
  hK : X.K = R.K
  hN : X.N = q.N
  nd : X.N.Nodup
  calm : X.calm = true
  room : Room k X.A
  tk : Takes X (fun cls d _ H => W cls d H)
  L : Lv X R.K q.E k
  att : AttOk R.K q.E
  isi : IsiOk R.K q.E
  con : ConOk (R := R) q.E X.mg
  kd : KdOk R.K X.w X.mg q.E
  blt : ∀ x, q.blt x = true → X.mg x = none
  cl : ∀ c, q.E.cl c = true → X.mg c = some (.ref (He.ga R.K c))
  exc : ExcOk R.K X.mg q.exB
  hsc : X.env.scope = sc
  kind : sc.kind = .function
  fn : ∀ x, fnB x = true → X.fn x = true
def isFn (sc : Scope) : Bool := match sc.kind with | .function => true | _ => false
def visB (sc : Scope) (x : Str) : Bool := match sc.names.lookup x with | some .local => true | some .cell => true | some .free => true | _ => false
def locB (sc : Scope) (x : Str) : Bool := match sc.names.lookup x with | some .local => true | some .cell => true | _ => false
def isLoc (sc : Scope) (x : Str) : Bool := match sc.names.lookup x with | some .local => true | _ => false
def isCell (sc : Scope) (x : Str) : Bool := match sc.names.lookup x with | some .cell => true | _ => false
def glB (sc : Scope) (x : Str) : Bool := match sc.names.lookup x with | some .globalImplicit => true | _ => false
def okN (x : Str) : Bool := !(x == ("__debug__" : Str)) && !(x == ("__classdict__" : Str)) && !(x == ("__name__" : Str))
def relSc (sc scope : Scope) : Scope := { scope with names := scope.names.map fun (n, k) => if (k == .free && sc.kind == .function && sc.names.lookup n == some .cell) then (n, .cell) else (n, k) }
def all2 {α β : Type} (f : α → β → Bool) : List α → List β → Bool
  | [], [] => true
  | a :: as, b :: bs => f a b && all2 f as bs
  | _, _ => false
def optB {α β : Type} (f : α → β → Bool) : Option α → Option β → Bool
  | none, none => true
  | some a, some b => f a b
  | _, _ => false
def nst (es : List Expr) : Bool := es.all fun e => !isStar e
def nmB (q : Q) (sc : Scope) (fnB : Str → Bool) (e : Expr) (i : Nat) : Bool := match e with
  | .Name x _ => decide (q.N[i]? = some x) && locB sc x && (fnB x || isLoc sc x)
  | _ => false
def tgB (q : Q) (sc : Scope) (fnB : Str → Bool) (tg : Expr) (t : Tg) : Bool := match t with
  | .one i => nmB q sc fnB tg i
  | .tup is => (match tg with
    | .Tuple es _ _ => all2 (nmB q sc fnB) es is
    | _ => false)
def isTup : Expr → Bool | .Tuple .. => true | _ => false
def tyB (sc : Scope) (q : Q) (b : Expr) (t : Ty) : Bool := match b with
  | .Name x _ => glB sc x && okN x && (match t with
    | .ty n => q.blt x && (match bootBuiltins x with | some (.type m) => m == n | _ => false)
    | .cls c => decide (x = c) && q.E.cl c)
  | _ => false
/-- what may be walked -/
def itB (ck : Expr → C → Bool) (q : Q) (sc : Scope) (tg : Expr) (kd : ItK) (it : Expr) (its : List C) : Bool := match kd with
  | .any => (match its with | [c] => ck it c | _ => false)
  | .rng1 => (match it, its with | .Call (.Name x _) [a] [] _, [c] => decide (x = "range") && glB sc x && q.blt x && ck a c | _, _ => false)
  | .rng2 => (match it, its with | .Call (.Name x _) [a, b] [] _, [c, d] => decide (x = "range") && glB sc x && q.blt x && ck a c && ck b d | _, _ => false)
  | .rng3 => (match it, its with | .Call (.Name x _) [a, b, e] [] _, [c, d, f] => decide (x = "range") && glB sc x && q.blt x && ck a c && ck b d && ck e f | _, _ => false)
  | .enum => (match it, its with | .Call (.Name x _) [a] [] _, [c] => isTup tg && decide (x = "enumerate") && glB sc x && q.blt x && ck a c | _, _ => false)
  | .zip => (match it, its with | .Call (.Name x _) [a, b] [] _, [c, d] => isTup tg && decide (x = "zip") && glB sc x && q.blt x && ck a c && ck b d | _, _ => false)
def chk (q : Q) : Nat → Scope → Expr → C → Bool
  | 0, _, _, _ => false
  | n + 1, sc, e, c =>
    let r := chk q n sc
    match e with
    | .BoolOp op [b] _ => r b c && !isIf b && !isStar b
    | e => match c with
      | .var i => (match e with | .Name x _ => decide (q.N[i]? = some x) && visB sc x && okN x | _ => false)
      | .con y => (match e with | .Name x _ => decide (x = y) && glB sc x && okN x && (q.E.con x).isSome | _ => false)
      | .int j => (match e with | .Constant (.int i) _ _ => decide (i = j) | _ => false)
      | .str j => (match e with | .Constant (.str i) _ _ => decide (i = j) | _ => false)
      | .bl j => (match e with | .Constant (.bool i) _ _ => decide (i = j) | _ => false)
      | .non => (match e with | .Constant .none _ _ => true | _ => false)
      | .tup cs => (match e with | .Tuple es _ _ => all2 r es cs | _ => false)
      | .lst cs => (match e with | .List es _ => all2 r es cs | _ => false)
      | .dnew => (match e with | .Dict [] [] _ => true | _ => false)
      | .dnewT => (match e with | .Dict [] [] _ => true | _ => false)
      | .bin op ca cb => (match e with | .BinOp a o b _ => decide (o = op.py) && r a ca && r b cb | _ => false)
      | .neg ca => (match e with | .UnaryOp .USub a _ => r a ca | _ => false)
      | .not_ ca => (match e with | .UnaryOp .Not a _ => r a ca && !isIf a | _ => false)
      | .cmp op ca cb => (match e with | .Compare a [o] [b] _ => decide (o = op.py) && r a ca && r b cb && notSet b | _ => false)
      | .chain op op' ca cb cc => (match e with | .Compare a [o, o'] [b, d] _ => decide (o = op.py) && decide (o' = op'.py) && r a ca && r b cb && r d cc && notSet d | _ => false)
      | .and_ ca cb => (match e with | .BoolOp .And (a :: b :: rest) p => r a ca && !isIf a && r (.BoolOp .And (b :: rest) p) cb | _ => false)
      | .or_ ca cb => (match e with | .BoolOp .Or (a :: b :: rest) p => r a ca && !isIf a && r (.BoolOp .Or (b :: rest) p) cb | _ => false)
      | .ife ct ca cb => (match e with | .IfExp t a b _ => r t ct && !isIf t && r a ca && r b cb | _ => false)
      | .rev ca => (match e with | .Subscript a (.Slice none none (some (.UnaryOp .USub (.Constant (.int i) _ _) _)) _) _ => decide (i = 1) && r a ca | _ => false)
      | .slc ca cl ch => (match e with | .Subscript a (.Slice lo hi none _) _ => r a ca && optB r lo cl && optB r hi ch | _ => false)
      | .idx ca cb => (match e with | .Subscript a b _ => r a ca && r b cb && notSlice b | _ => false)
      | .att ca g => (match e with | .Attribute a f _ => decide (f = g) && r a ca && noSup a | _ => false)
      | .call fid cs => (match e with | .Call (.Name x _) es [] _ => decide (q.E.gl x = some fid) && glB sc x && okN x && all2 r es cs && (!es.isEmpty || decide (0 + (moreOf q.E fid 0).length = q.E.np fid)) | _ => false)
      | .new y fid cs => (match e with | .Call (.Name x _) es [] _ => decide (x = y) && decide (q.E.ini x = some fid) && decide (q.E.io fid = some 0) && glB sc x && okN x && all2 r es cs && decide (cs.length + 1 + (moreOf q.E fid (cs.length + 1)).length = q.E.np fid) | _ => false)
      | .bi b cs => (match e with | .Call (.Name x _) es [] _ => decide (x = b.nm) && glB sc x && q.blt x && all2 r es cs && !es.isEmpty | _ => false)
      | .isi ca t => (match e with | .Call (.Name x _) [a, b] [] _ => decide (x = "isinstance") && glB sc x && q.blt x && r a ca && tyB sc q b t | _ => false)
      | .meth m _ co cs => (match e with | .Call (.Attribute o m' apos) es [] pos => decide (m' = m) && noSup o && (apos.endLine == pos.line) && r o co && all2 r es cs && decide (es.length < 30) | _ => false)
      | .index co ca => (match e with | .Call (.Attribute o m' apos) [a] [] pos => decide (m' = "index") && noSup o && (apos.endLine == pos.line) && r o co && r a ca | _ => false)
      | .dget co ca => (match e with | .Call (.Attribute o m' apos) [a] [] pos => decide (m' = "get") && noSup o && (apos.endLine == pos.line) && r o co && r a ca | _ => false)
      | .kget x ca => (match e with | .Subscript (.Name y _) b _ => decide (y = x) && glB sc y && okN y && (q.E.kd x).isSome && r b ca && notSlice b | _ => false)
      | .kin neg x ca => (match e with | .Compare a [o] [.Name y _] _ => decide (o = if neg then .NotIn else .In) && decide (y = x) && glB sc y && okN y && (q.E.kd x).isSome && r a ca | _ => false)
      | .comp own tgc kd its cond ce => (match e with
        | .ListComp elt [⟨tg, it, ifs, 0⟩] scope _ =>
          let sc' := relSc sc scope
          let ownp := own.filterMap fun i => (q.N[i]?).map fun x => (x, i)
          decide (own = ownp.map (·.2)) && blkC q.N sc scope ownp && isFn sc && isFn scope && itB r q sc tg kd it its && notSet it && tgB q sc' (isCell scope) tg tgc && tgc.is.all (fun i => own.contains i) &&
          (match ifs, cond with | [], none => true | [f], some cf => chk q n sc' f cf && !isIf f | _, _ => false) && chk q n sc' elt ce
        | _ => false)
end Y
set_option Elab.async false
set_option linter.all false
set_option maxRecDepth 100000
set_option maxHeartbeats 4000000
namespace Y
open PySem PySem.Spec PyProof.Rows L2
structure Good (X : Cx) (R : Fr) (W : XK) (E : Ev) (e : Expr) (c : C) : Prop where
  te : PE X e (TE_ R W (evE E c))
  to : PE X e (TO_ R W (opd c (evE E c)))
  pt : isIf e = false → PT X e (TT_ R W (tst c (evE E c)))
  st : isStar e = false
  pw : ∀ op vs p, e = .BoolOp op vs p → PW X e (TT_ R W (tst c (evE E c)))
section
variable {X : Cx} {R : Fr} {W : XK} {E : Ev} {e : Expr} {c : C} {es : List Expr} {cs : List C}
theorem Good.mk' (hK : X.K = R.K) (te : PE X e (TE_ R W (evE E c))) (hc : ∀ i, c ≠ .var i) (hst : isStar e = false) (hp : plainT e = true) : Good X R W E e c :=
  ⟨te, pe_opd hc te, fun _ => pt_plain (pe_opd hc te) hK (true_ok hp), hst, fun op vs p h => by subst h; cases hp⟩
theorem goods {ck : Expr → C → Bool} (h : ∀ e c, ck e c = true → Good X R W E e c) : ∀ {es : List Expr} {cs : List C}, all2 ck es cs = true → Paired (Good X R W E) es cs
  | [], [], _ => .nil
  | e :: es, c :: cs, q => by
    unfold all2 at q
    rw [Bool.and_eq_true] at q
    exact .cons (h _ _ q.1) (goods h q.2)
  | [], _ :: _, q => by cases q
  | _ :: _, [], q => by cases q
theorem nst_of : ∀ {es : List Expr} {cs : List C}, Paired (Good X R W E) es cs → es.all (fun e => !isStar e) = true
  | _, _, .nil => rfl
  | _, _, .cons h t => by rw [List.all_cons, nst_of t, h.st]; rfl
theorem pv_of : ∀ {es : List Expr} {cs : List C}, Paired (Good X R W E) es cs → PA X es (TV_ R W (evV E cs))
  | _, _, .nil => pa_v_nil
  | _, _, .cons h t => pa_v_cons h.te (pv_of t) (star_ok h.st)
theorem po_of : ∀ {es : List Expr} {cs : List C}, Paired (Good X R W E) es cs → PA X es (TOs_ R W (evOs E cs))
  | _, _, .nil => pa_o_nil
  | _, _, .cons h t => pa_o_cons h.to (po_of t) (star_ok h.st)
theorem pa_of {io : Option Nat} : ∀ {es : List Expr} {cs : List C} (j : Nat), Paired (Good X R W E) es cs → PA X es (TA_ R W io j (evA E io j cs))
  | _, _, _, .nil => pa_a_nil
  | _, _, j, .cons h t => pa_a_cons (pe_arg h.te h.to) (pa_of (j + 1) t) (star_ok h.st)
theorem po_opt {ck : Expr → C → Bool} (h : ∀ e c, ck e c = true → Good X R W E e c) {o : Option Expr} {oc : Option C} (q : optB ck o oc = true) : PO X o (TP_ R W (evP E oc)) := by
  cases o with
  | none =>
    cases oc with
    | none => exact po_none_
    | some _ => cases q
  | some e =>
    cases oc with
    | none => cases q
    | some c => exact po_some_ (h e c q).te
end
section
variable {q : Q} {k : Nat} {X : Cx} {R : Fr} {W : XK} {sc : Scope} {fnB : Str → Bool}
theorem Bg.hu (b : Bg q k X R W sc fnB) : X.A.units + 65 < cLine := by have := b.room.un; omega
theorem Bg.gl (b : Bg q k X R W sc fnB) {x : Str} (h : glB sc x = true) : Gl X x := by
  unfold glB at h
  split at h
  · rename_i h'
    show X.env.scope.names.lookup x = _
    rw [b.hsc]
    exact h'
  · cases h
theorem Bg.vis (b : Bg q k X R W sc fnB) {x : Str} (h : visB sc x = true) : Vis X.env.scope x := by
  rw [b.hsc]
  unfold visB at h
  split at h
  · exact .inl (by assumption)
  · exact .inr (.inl (by assumption))
  · exact .inr (.inr (by assumption))
  · cases h
theorem locB_ok {x : Str} (h : locB sc x = true) : Loc sc x := by
  unfold locB at h
  split at h
  · exact .inl (by assumption)
  · exact .inr (by assumption)
  · cases h
theorem isLoc_ok {x : Str} (h : isLoc sc x = true) : sc.names.lookup x = some .local := by
  unfold isLoc at h
  split at h
  · assumption
  · cases h
theorem isFn_ok (h : isFn sc = true) : sc.kind = .function := by
  unfold isFn at h
  split at h
  · assumption
  · cases h
theorem okN_ok {x : Str} (h : okN x = true) : (x == ("__debug__" : Str)) = false ∧ (x == ("__classdict__" : Str)) = false ∧ x ≠ "__name__" := by
  unfold okN at h
  simp only [Bool.and_eq_true, Bool.not_eq_true'] at h
  refine ⟨h.1.1, h.1.2, fun e => ?_⟩
  subst e
  exact absurd h.2 (by simp)
theorem nmB_ok (b : Bg q k X R W sc fnB) {e : Expr} {i : Nat} (h : nmB q sc fnB e i = true) : ∃ x pos, e = Expr.Name x pos ∧ X.N[i]? = some x ∧ Loc X.env.scope x ∧ (X.fn x = true ∨ X.env.scope.names.lookup x = some .local) := by
  unfold nmB at h
  split at h
  · rename_i x pos
    simp only [Bool.and_eq_true, Bool.or_eq_true, decide_eq_true_eq] at h
    refine ⟨x, pos, rfl, by rw [b.hN]; exact h.1.1, by rw [b.hsc]; exact locB_ok h.1.2, ?_⟩
    rw [b.hsc]
    exact h.2.imp (b.fn x) isLoc_ok
  · cases h
theorem nms_ok (b : Bg q k X R W sc fnB) : ∀ {es : List Expr} {is : List Nat}, all2 (nmB q sc fnB) es is = true → Paired (fun e i => ∃ x pos, e = Expr.Name x pos ∧ X.N[i]? = some x ∧ Loc X.env.scope x ∧ (X.fn x = true ∨ X.env.scope.names.lookup x = some .local)) es is
  | [], [], _ => .nil
  | e :: es, i :: is, h => by
    unfold all2 at h
    rw [Bool.and_eq_true] at h
    exact .cons (nmB_ok b h.1) (nms_ok b h.2)
  | [], _ :: _, h => by cases h
  | _ :: _, [], h => by cases h
theorem nms_each {P : Expr → Nat → Prop} (hP : ∀ e i, P e i → ∃ x pos, e = Expr.Name x pos) {env : Env} : ∀ {es : List Expr} {is : List Nat}, Paired P es is → (assignEach es env).length = is.length ∧ (assignEach es env).findIdx? (·.1) = none ∧ ∀ e es', (e :: es') <:+ es → (assignEach (e :: es') env).map (·.2) = assign e env :: (assignEach es' env).map (·.2)
  | _, _, .nil => ⟨rfl, rfl, fun e es' h => absurd (List.suffix_nil.mp h) (by simp)⟩
  | _, _, .cons (a := e) h t => by
    obtain ⟨x, pos, rfl⟩ := hP _ _ h
    obtain ⟨h1, h2, h3⟩ := nms_each hP (env := env) t
    refine ⟨?_, ?_, fun e es' hs => ?_⟩
    · show (assignEach _ env).length + 1 = _
      rw [h1, List.length_cons]
    · show List.findIdx? _ ((false, _) :: assignEach _ env) = none
      rw [List.findIdx?_cons]
      simp [h2]
    · rcases List.suffix_cons_iff.mp hs with z | z
      · cases z
        rfl
      · exact h3 e es' z
theorem tgB_ok (b : Bg q k X R W sc fnB) {tg : Expr} {t : Tg} (h : tgB q sc fnB tg t = true) : PG X tg (gT X.K t) := by
  cases t with
  | one i =>
    obtain ⟨x, pos, rfl, h1, h2, h3⟩ := nmB_ok b h
    exact pg_name b.nd h1 h2 h3
  | tup is =>
    unfold tgB at h
    dsimp only at h
    split at h
    · have hp := nms_ok b h
      obtain ⟨h1, h2, h3⟩ := nms_each (env := X.env) (fun e i ⟨x, pos, e1, _⟩ => ⟨x, pos, e1⟩) hp
      exact pg_tup b.calm (pgs_names b.nd hp h3) h1 h2
    · cases h
theorem tyB_ok (b : Bg q k X R W sc fnB) {e : Expr} {t : Ty} (h : tyB sc q e t = true) : PE X e (tC (t.v R.K)) ∧ isStar e = false := by
  unfold tyB at h
  split at h
  · rename_i x pos
    simp only [Bool.and_eq_true] at h
    obtain ⟨⟨hg, ho⟩, h⟩ := h
    obtain ⟨o1, o2, o3⟩ := okN_ok ho
    refine ⟨?_, rfl⟩
    cases t with
    | ty n =>
      dsimp only at h
      simp only [Bool.and_eq_true] at h
      obtain ⟨h1, h2⟩ := h
      split at h2
      · rename_i m hb
        have e2 : m = n := by simpa using h2
        subst e2
        exact pe_bltn (b.gl hg) (b.blt x h1) hb rfl o3 o1
      · cases h2
    | cls c =>
      dsimp only at h
      simp only [Bool.and_eq_true, decide_eq_true_eq] at h
      obtain ⟨rfl, h2⟩ := h
      exact pe_glob (b.gl hg) (b.cl x h2) rfl o1
  · cases h
theorem itB_ok (b : Bg q k X R W sc fnB) {ck : Expr → C → Bool} (hk : ∀ e c, ck e c = true → Good X R W q.E e c) {tg it : Expr} {kd : ItK} {its : List C} (h : itB ck q sc tg kd it its = true) : PI X tg it (TI_ R W q.E kd its) := by
  have tup : isTup tg = true → ∃ es kk p, tg = .Tuple es kk p := fun h => by
    cases tg <;> first | exact ⟨_, _, _, rfl⟩ | cases h
  cases kd with
  | any =>
    unfold itB at h
    dsimp only at h
    split at h
    · exact pi_any_ b.hK (hk _ _ h).te
    · cases h
  | rng1 =>
    unfold itB at h
    dsimp only at h
    split at h
    · simp only [Bool.and_eq_true, decide_eq_true_eq] at h
      obtain ⟨⟨⟨rfl, h1⟩, h2⟩, h3⟩ := h
      have g := hk _ _ h3
      exact pi_rng1_ (b.gl h1) (b.blt _ h2) (pv_of (.cons g .nil)) (star_ok g.st)
    · cases h
  | rng2 =>
    unfold itB at h
    dsimp only at h
    split at h
    · simp only [Bool.and_eq_true, decide_eq_true_eq] at h
      obtain ⟨⟨⟨⟨rfl, h1⟩, h2⟩, h3⟩, h4⟩ := h
      have g := hk _ _ h3
      have g2 := hk _ _ h4
      exact pi_rng2_ (b.gl h1) (b.blt _ h2) (pv_of (.cons g (.cons g2 .nil))) (by rw [star_ok g.st, star_ok g2.st]; rfl) (star_ok g2.st)
    · cases h
  | rng3 =>
    unfold itB at h
    dsimp only at h
    split at h
    · simp only [Bool.and_eq_true, decide_eq_true_eq] at h
      obtain ⟨⟨⟨⟨⟨rfl, h1⟩, h2⟩, h3⟩, h4⟩, h5⟩ := h
      have g := hk _ _ h3
      have g2 := hk _ _ h4
      have g3 := hk _ _ h5
      exact pi_rng3_ (b.gl h1) (b.blt _ h2) (pv_of (.cons g (.cons g2 (.cons g3 .nil)))) (star_ok g.st) (any_ok (by simp [g2.st, g3.st]))
    · cases h
  | enum =>
    unfold itB at h
    dsimp only at h
    split at h
    · simp only [Bool.and_eq_true, decide_eq_true_eq] at h
      obtain ⟨⟨⟨⟨ht, rfl⟩, h1⟩, h2⟩, h3⟩ := h
      obtain ⟨_, _, _, rfl⟩ := tup ht
      have g := hk _ _ h3
      exact pi_enum_ b.hK (b.gl h1) (b.blt _ h2) (pv_of (.cons g .nil)) (star_ok g.st)
    · cases h
  | zip =>
    unfold itB at h
    dsimp only at h
    split at h
    · simp only [Bool.and_eq_true, decide_eq_true_eq] at h
      obtain ⟨⟨⟨⟨⟨ht, rfl⟩, h1⟩, h2⟩, h3⟩, h4⟩ := h
      obtain ⟨_, _, _, rfl⟩ := tup ht
      have g := hk _ _ h3
      have g2 := hk _ _ h4
      exact pi_zip_ b.hK (b.gl h1) (b.blt _ h2) (pv_of (.cons g (.cons g2 .nil))) (star_ok g.st) (any_ok (by simp [g2.st]))
    · cases h
/-- a comprehension's block -/
theorem Bg.blk (b : Bg q k X R W sc fnB) {scope : Scope} (hs : isFn scope = true) (s : Shared) (H : Hp) (C : Addr) (cl : List (Str × Addr)) (fp : List Addr) : Bg q k (X.blk s H scope (compEnvC scope cl C X.env) fp) R WF (relSc sc scope) (isCell scope) where
  hK := b.hK
  hN := b.hN
  nd := b.nd
  calm := b.calm
  room := b.room
  tk := fun u s' ⟨a, B, sI, pins, σ, H, cls, d, e, I, nb, up, sky, na, os, ag, w⟩ => w.elim
  L := ⟨b.L.gl, b.L.mt, b.L.ini⟩
  att := b.att
  isi := b.isi
  con := b.con
  kd := b.kd
  blt := b.blt
  cl := b.cl
  exc := b.exc
  hsc := by
    show relabel scope X.env = relSc sc scope
    rw [← b.hsc]
    rfl
  kind := isFn_ok hs
  fn := fun x h => by
    show (scope.names.lookup x == some .cell) = true
    unfold isCell at h
    split at h
    · rename_i h'; rw [h']; rfl
    · cases h
theorem Bg.nox (b : Bg q k X R W sc fnB) : Bg q k X.nox R WF sc fnB where
  hK := b.hK
  hN := b.hN
  nd := b.nd
  calm := b.calm
  room := b.room
  tk := fun u s' ⟨a, B, sI, pins, σ, H, cls, d, e, I, nb, up, sky, na, os, ag, w⟩ => w.elim
  L := ⟨b.L.gl, b.L.mt, b.L.ini⟩
  att := b.att
  isi := b.isi
  con := b.con
  kd := b.kd
  blt := b.blt
  cl := b.cl
  exc := b.exc
  hsc := b.hsc
  kind := b.kind
  fn := b.fn
end
end Y
set_option Elab.async false
set_option linter.all false
set_option maxRecDepth 100000
set_option maxHeartbeats 4000000
namespace Y
open PySem PySem.Spec PyProof.Rows L2
theorem and4 {a b : Bool} : (a && b) = true ↔ a = true ∧ b = true := Bool.and_eq_true_iff
theorem chk_ok (q : Q) (k : Nat) : ∀ (n : Nat) {X : Cx} {R : Fr} {W : XK} {sc : Scope} {fnB : Str → Bool} (e : Expr) (c : C), Bg q k X R W sc fnB → chk q n sc e c = true → Good X R W q.E e c := by
  intro n
  induction n with
  | zero => intro X R W sc fnB e c b h; cases h
  | succ n ih =>
    intro X R W sc fnB e c b h
    have ihx : ∀ e c, chk q n sc e c = true → Good X R W q.E e c := fun e c h => ih e c b h
    unfold chk at h
    dsimp only at h
    split at h
    · -- a test's last part
      rename_i op x p
      simp only [Bool.and_eq_true, Bool.not_eq_true'] at h
      have g := ihx _ _ h.1.1
      refine ⟨pe_one g.te, pe_one g.to, fun _ => ?_, rfl, fun op' vs p' e' => ?_⟩
      · cases op
        · exact (pw_and1 (g.pt h.1.2)).pt
        · exact (pw_or1 (g.pt h.1.2)).pt
      · cases e'
        cases op
        · exact pw_and1 (g.pt h.1.2)
        · exact pw_or1 (g.pt h.1.2)
    · rename_i e hne
      cases c with
      | var i =>
        dsimp only at h
        split at h
        · rename_i x p
          simp only [Bool.and_eq_true, decide_eq_true_eq] at h
          obtain ⟨⟨h1, h2⟩, h3⟩ := h
          obtain ⟨o1, o2, _⟩ := okN_ok h3
          have hv : PE X (.Name x p) (tVar i) := pe_var (by rw [b.hN]; exact h1) (b.vis h2) o1 o2
          exact ⟨pe_var_ hv, pe_slot hv, fun _ => pt_plain (pe_slot hv) b.hK (true_ok rfl), rfl, fun _ _ _ z => by cases z⟩
        · cases h
      | con y =>
        dsimp only at h
        split at h
        · simp only [Bool.and_eq_true, decide_eq_true_eq] at h
          obtain ⟨⟨⟨rfl, h2⟩, h3⟩, h4⟩ := h
          obtain ⟨o1, o2, _⟩ := okN_ok h3
          exact .mk' b.hK (pe_con_ b.con (b.gl h2) o1 h4) (fun i z => by cases z) rfl rfl
        · cases h
      | int j =>
        dsimp only at h
        split at h
        · cases of_decide_eq_true h
          exact .mk' b.hK pe_int_ (fun i z => by cases z) rfl rfl
        · cases h
      | str j =>
        dsimp only at h
        split at h
        · cases of_decide_eq_true h
          exact .mk' b.hK pe_str_ (fun i z => by cases z) rfl rfl
        · cases h
      | bl j =>
        dsimp only at h
        split at h
        · cases of_decide_eq_true h
          exact .mk' b.hK pe_bl_ (fun i z => by cases z) rfl rfl
        · cases h
      | non =>
        dsimp only at h
        split at h
        · exact .mk' b.hK pe_non_ (fun i z => by cases z) rfl rfl
        · cases h
      | tup cs =>
        dsimp only at h
        split at h
        · exact .mk' b.hK (pe_tup_ (pv_of (goods ihx h))) (fun i z => by cases z) rfl rfl
        · cases h
      | lst cs =>
        dsimp only at h
        split at h
        · exact .mk' b.hK (pe_lst_ (pv_of (goods ihx h))) (fun i z => by cases z) rfl rfl
        · cases h
      | dnew =>
        dsimp only at h
        split at h
        · exact .mk' b.hK pe_dnew_ (fun i z => by cases z) rfl rfl
        · cases h
      | dnewT =>
        dsimp only at h
        split at h
        · exact .mk' b.hK pe_dnewT_ (fun i z => by cases z) rfl rfl
        · cases h
      | bin op ca cb =>
        dsimp only at h
        split at h
        · simp only [Bool.and_eq_true, decide_eq_true_eq] at h
          exact .mk' b.hK (pe_bin_ h.1.1 b.hK (ihx _ _ h.1.2).to (ihx _ _ h.2).to) (fun i z => by cases z) rfl rfl
        · cases h
      | neg ca =>
        dsimp only at h
        split at h
        · exact .mk' b.hK (pe_neg_ (ihx _ _ h).to) (fun i z => by cases z) rfl rfl
        · cases h
      | not_ ca =>
        dsimp only at h
        split at h
        · simp only [Bool.and_eq_true, Bool.not_eq_true'] at h
          have g := ihx _ _ h.1
          have te := pe_not_ (pos := by assumption) g.te
          exact ⟨te, pe_opd (fun i z => by cases z) te, fun _ => pt_not_ (g.pt h.2), rfl, fun _ _ _ z => by cases z⟩
        · cases h
      | cmp op ca cb =>
        dsimp only at h
        split at h
        · simp only [Bool.and_eq_true, decide_eq_true_eq] at h
          obtain ⟨⟨⟨h1, h2⟩, h3⟩, h4⟩ := h
          have te := pe_cmp_ (pos := by assumption) h1 b.hu b.hK (ihx _ _ h2).to (ihx _ _ h3).to (marks_ok h4)
          exact ⟨te, pe_opd (fun i z => by cases z) te, fun _ => pt_cmp_ h1 b.hu b.hK (ihx _ _ h2).to (ihx _ _ h3).to (marks_ok h4), rfl, fun _ _ _ z => by cases z⟩
        · cases h
      | chain op op' ca cb cc =>
        dsimp only at h
        split at h
        · simp only [Bool.and_eq_true, decide_eq_true_eq] at h
          obtain ⟨⟨⟨⟨⟨h1, h2⟩, h3⟩, h4⟩, h5⟩, h6⟩ := h
          have te := pe_chain_ (pos := by assumption) h1 h2 b.hu b.hK (ihx _ _ h3).to (ihx _ _ h4).to (ihx _ _ h5).to (marks_ok h6)
          exact ⟨te, pe_opd (fun i z => by cases z) te, fun _ => pt_chain_ h1 h2 b.hu b.hK (ihx _ _ h3).to (ihx _ _ h4).to (ihx _ _ h5).to (marks_ok h6), rfl, fun _ _ _ z => by cases z⟩
        · cases h
      | and_ ca cb =>
        dsimp only at h
        split at h
        · simp only [Bool.and_eq_true, Bool.not_eq_true'] at h
          have g := ihx _ _ h.1.1
          have g2 := ihx _ _ h.2
          have te := pe_and_ g.te g2.te
          have pw := pw_and_ (g.pt h.1.2) (g2.pw _ _ _ rfl)
          exact ⟨te, pe_opd (fun i z => by cases z) te, fun _ => pw.pt, rfl, fun _ _ _ z => by cases z; exact pw⟩
        · cases h
      | or_ ca cb =>
        dsimp only at h
        split at h
        · simp only [Bool.and_eq_true, Bool.not_eq_true'] at h
          have g := ihx _ _ h.1.1
          have g2 := ihx _ _ h.2
          have te := pe_or_ g.te g2.te
          have pw := pw_or_ (g.pt h.1.2) (g2.pw _ _ _ rfl)
          exact ⟨te, pe_opd (fun i z => by cases z) te, fun _ => pw.pt, rfl, fun _ _ _ z => by cases z; exact pw⟩
        · cases h
      | ife ct ca cb =>
        dsimp only at h
        split at h
        · simp only [Bool.and_eq_true, Bool.not_eq_true'] at h
          obtain ⟨⟨⟨h1, h2⟩, h3⟩, h4⟩ := h
          have te := pe_ife_ (pos := by assumption) ((ihx _ _ h1).pt h2) (ihx _ _ h3).te (ihx _ _ h4).te
          exact ⟨te, pe_opd (fun i z => by cases z) te, fun z => (by cases z), rfl, fun _ _ _ z => by cases z⟩
        · cases h
      | rev ca =>
        dsimp only at h
        split at h
        · simp only [Bool.and_eq_true, decide_eq_true_eq] at h
          obtain ⟨rfl, h2⟩ := h
          exact .mk' b.hK (pe_rev_ (ihx _ _ h2).to) (fun i z => by cases z) rfl rfl
        · cases h
      | slc ca cl ch =>
        dsimp only at h
        split at h
        · simp only [Bool.and_eq_true] at h
          exact .mk' b.hK (pe_slc_ b.hK (ihx _ _ h.1.1).to (po_opt ihx h.1.2) (po_opt ihx h.2)) (fun i z => by cases z) rfl rfl
        · cases h
      | idx ca cb =>
        dsimp only at h
        split at h
        · simp only [Bool.and_eq_true] at h
          exact .mk' b.hK (pe_idx_ b.hu b.hK (ihx _ _ h.1.1).to (ihx _ _ h.1.2).to (ix_ok h.2)) (fun i z => by cases z) rfl rfl
        · cases h
      | att ca g =>
        dsimp only at h
        split at h
        · simp only [Bool.and_eq_true, decide_eq_true_eq] at h
          obtain ⟨⟨rfl, h2⟩, h3⟩ := h
          exact .mk' b.hK (pe_att_ b.att b.hK (ihx _ _ h2).to (base_ok h3)) (fun i z => by cases z) rfl rfl
        · cases h
      | call fid cs =>
        dsimp only at h
        split at h
        · rename_i x p es pos
          simp only [Bool.and_eq_true, decide_eq_true_eq, Bool.or_eq_true] at h
          obtain ⟨⟨⟨⟨h1, h2⟩, h3⟩, h4⟩, h5⟩ := h
          obtain ⟨o1, _, _⟩ := okN_ok h3
          have gs := goods ihx h4
          refine .mk' b.hK ?_ (fun i z => by cases z) rfl rfl
          cases gs with
          | nil =>
            rcases h5 with h5 | h5
            · cases h5
            · exact pe_call0_ b.hK b.tk b.L h1 b.room (b.gl h2) o1 h5
          | cons g t => exact pe_call_ b.hK b.tk b.L h1 b.room (b.gl h2) (pa_of 0 (.cons g t)) o1 (star_ok g.st) (any_ok (nst_of t))
        · cases h
      | new y fid cs =>
        dsimp only at h
        split at h
        · simp only [Bool.and_eq_true, decide_eq_true_eq] at h
          obtain ⟨⟨⟨⟨⟨⟨rfl, h1⟩, h2⟩, h3⟩, h4⟩, h5⟩, h6⟩ := h
          obtain ⟨o1, _, _⟩ := okN_ok h4
          have gs := goods ihx h5
          refine .mk' b.hK ?_ (fun i z => by cases z) rfl rfl
          cases gs with
          | nil => exact pe_new0_ b.hK b.tk b.L h1 b.room (b.gl h3) h2 h6 o1
          | cons g t => exact pe_new_ b.hK b.tk b.L h1 b.room (b.gl h3) h2 h6 (pa_of 1 (.cons g t)) o1 (star_ok g.st) (any_ok (nst_of t))
        · cases h
      | bi bb cs =>
        dsimp only at h
        split at h
        · simp only [Bool.and_eq_true, decide_eq_true_eq] at h
          obtain ⟨⟨⟨⟨h1, h2⟩, h3⟩, h4⟩, h5⟩ := h
          have gs := goods ihx h4
          refine .mk' b.hK ?_ (fun i z => by cases z) rfl rfl
          cases gs with
          | nil => cases h5
          | cons g t => exact pe_bi_ h1 b.calm b.hK (b.gl h2) (b.blt _ h3) (po_of (.cons g t)) (star_ok g.st) (any_ok (nst_of t))
        · cases h
      | isi ca t =>
        dsimp only at h
        split at h
        · simp only [Bool.and_eq_true, decide_eq_true_eq] at h
          obtain ⟨⟨⟨⟨rfl, h2⟩, h3⟩, h4⟩, h5⟩ := h
          obtain ⟨t1, t2⟩ := tyB_ok b h5
          have g := ihx _ _ h4
          exact .mk' b.hK (pe_isi_ b.isi b.hK (b.gl h2) (b.blt _ h3) g.to t1 (star_ok g.st) (star_ok t2) (any_ok (by simp [t2]))) (fun i z => by cases z) rfl rfl
        · cases h
      | meth m io co cs =>
        dsimp only at h
        split at h
        · simp only [Bool.and_eq_true, decide_eq_true_eq] at h
          obtain ⟨⟨⟨⟨⟨rfl, h2⟩, h3⟩, h4⟩, h5⟩, h6⟩ := h
          have go := ihx _ _ h4
          have gs := goods ihx h5
          refine .mk' b.hK ?_ (fun i z => by cases z) rfl rfl
          cases gs with
          | nil => exact pe_meth0_ b.hK b.tk b.L b.room (pe_arg go.te go.to) (meth_ok h2 rfl h6 h3)
          | cons g t => exact pe_meth_ b.hK b.tk b.L b.room (pe_arg go.te go.to) (pa_of 1 (.cons g t)) (star_ok g.st) (any_ok (nst_of t)) (meth_ok h2 (nst_of (.cons g t)) h6 h3)
        · cases h
      | index co ca =>
        dsimp only at h
        split at h
        · simp only [Bool.and_eq_true, decide_eq_true_eq] at h
          obtain ⟨⟨⟨⟨rfl, h2⟩, h3⟩, h4⟩, h5⟩ := h
          have g := ihx _ _ h5
          exact .mk' b.hK (pe_index_ b.hu b.hK (ihx _ _ h4).to g.to (base_ok h2) (few_ok (by simp [g.st]) (by simp)) h3 (star_ok g.st) rfl) (fun i z => by cases z) rfl rfl
        · cases h
      | dget co ca =>
        dsimp only at h
        split at h
        · simp only [Bool.and_eq_true, decide_eq_true_eq] at h
          obtain ⟨⟨⟨⟨rfl, h2⟩, h3⟩, h4⟩, h5⟩ := h
          have g := ihx _ _ h5
          exact .mk' b.hK (pe_dget_ b.hu (ihx _ _ h4).to g.to (m1_ok h2 g.st h3)) (fun i z => by cases z) rfl rfl
        · cases h
      | kget x ca =>
        dsimp only at h
        split at h
        · simp only [Bool.and_eq_true, decide_eq_true_eq] at h
          obtain ⟨⟨⟨⟨⟨rfl, h2⟩, h3⟩, h4⟩, h5⟩, h6⟩ := h
          obtain ⟨o1, _, _⟩ := okN_ok h3
          exact .mk' b.hK (pe_kget_ b.kd b.hK (b.gl h2) o1 h4 (ihx _ _ h5).to (ix_ok h6)) (fun i z => by cases z) rfl rfl
        · cases h
      | kin neg x ca =>
        dsimp only at h
        split at h
        · rename_i a0 o0 y0 p1 p2
          simp only [Bool.and_eq_true, decide_eq_true_eq] at h
          obtain ⟨⟨⟨⟨⟨h1, rfl⟩, h2⟩, h3⟩, h4⟩, h5⟩ := h
          obtain ⟨o1, _, _⟩ := okN_ok h3
          obtain ⟨te, tp⟩ := pe_kin_ (pos := p2) (p := p1) h1 b.kd b.hK (b.gl h2) o1 h4 (ihx _ _ h5).to
          exact ⟨te, pe_opd (fun i z => by cases z) te, fun _ => tp, rfl, fun _ _ _ z => by cases z⟩
        · cases h
      | comp own tgc kd its cond ce =>
        dsimp only at h
        split at h
        · rename_i elt tg it ifs scope p
          simp only [Bool.and_eq_true, decide_eq_true_eq] at h
          obtain ⟨⟨⟨⟨⟨⟨⟨⟨⟨h1, h2⟩, h3⟩, h4⟩, h5⟩, h6⟩, h7⟩, h8⟩, h9⟩, h10⟩ := h
          have ok : BlkOk X.N X.env.scope scope (own.filterMap fun i => (q.N[i]?).map fun x => (x, i)) := by
            rw [b.hN, b.hsc]
            exact blkOk_by h2
          refine .mk' b.hK (pe_comp_ b.hK b.calm b.nd (itB_ok b ihx h5) ok (fun s H C cl fp => tgB_ok (b.blk h4 s H C cl fp) h7) (fun s H C cl fp => ?_) (fun s H C cl fp => (ih _ _ (b.blk h4 s H C cl fp) h10).te) (fold_ok h6) h1 fun i hi => ?_) (fun i z => by cases z) rfl rfl
          · have bb := b.blk h4 s H C cl fp
            split at h9
            · exact pts_none_
            · simp only [Bool.and_eq_true, Bool.not_eq_true'] at h9
              exact pts_some_ ((ih _ _ bb h9.1).pt h9.2)
            · cases h9
          · have := List.all_eq_true.mp h8 i hi
            exact List.contains_iff_mem.mp this
        · cases h
end Y
set_option Elab.async false
set_option linter.all false
set_option maxRecDepth 100000
set_option maxHeartbeats 4000000
namespace Y
open PySem PySem.Spec PyProof.Rows L2
theorem par3_ok {env : Env} {x y z : Str} {px py pz pt pt2 : Pos} {kt k2 : Nat} {a b d : Expr} (hk : env.scope.kind = .function) (hx : env.scope.names.lookup x = some .local) (hy : env.scope.names.lookup y = some .local) (hz : env.scope.names.lookup z = some .local) (hxy : x ≠ y) (hxz : x ≠ z) (hyz : y ≠ z)
    (ha : isStar a = false) (hb : isStar b = false) (hd : isStar d = false) (hl : (py.line == px.line) = true) (hl2 : (pz.line == px.line) = true)
    (h1 : [a, b, d].all (foldedForSure 8) = false) (h2 : [a, b, d].all (constantsAlone 8) = false) : swappedStores [.Tuple [.Name x px, .Name y py, .Name z pz] kt pt] (.Tuple [a, b, d] k2 pt2) env = pure (some [x, y, z]) := by
  have hbk : env.blockKind = .function := by unfold Env.blockKind; rw [hk]; rfl
  have kx : env.kindOf x = some .local := hx
  have ky : env.kindOf y = some .local := hy
  have kz : env.kindOf z = some .local := hz
  have hdd : ([x, y, z].eraseDups).length = 3 := by
    have e1 : (y == x) = false := by simpa using Ne.symm hxy
    have e2 : (z == x) = false := by simpa using Ne.symm hxz
    have e3 : (z == y) = false := by simpa using Ne.symm hyz
    simp [List.eraseDups, List.eraseDupsBy, List.eraseDupsBy.loop, e1, e2, e3]
  unfold swappedStores
  simp only [hbk, List.head?, Option.map, Option.getD, List.filterMap, kx, ky, kz, Expr.pos, hl, hl2, h1, h2]
  simp [hdd]
  intro h
  exfalso
  rcases h with h | h | h
  · revert h
    cases a <;> first | (intro h; cases h; done) | exact absurd ha (by simp [isStar])
  · revert h
    cases b <;> first | (intro h; cases h; done) | exact absurd hb (by simp [isStar])
  · revert h
    cases d <;> first | (intro h; cases h; done) | exact absurd hd (by simp [isStar])
def varB (q : Q) (sc : Scope) (e : Expr) (i : Nat) : Bool := match e with
  | .Name x _ => decide (q.N[i]? = some x) && visB sc x && okN x
  | _ => false
def setB (q : Q) (sc : Scope) (fnB : Str → Bool) (x : Str) (i : Nat) : Bool := decide (q.N[i]? = some x) && locB sc x && (fnB x || isLoc sc x)
def chkS (q : Q) : Nat → Scope → (Str → Bool) → Stmt → S → Bool
  | 0, _, _, _, _ => false
  | n + 1, sc, fnB, st, s =>
    let r := chk q n sc
    let rs := all2 (chkS q n sc fnB)
    match s with
    | .asg i c => (match st with
      | .Assign [.Name x p'] e pos => r e c && setB q sc fnB x i && (match e with
        | .ListComp elt [⟨tg, it, ifs, 0⟩] scope p => isLoc sc x && isFn sc && (p'.line == p.line) && !(scope.names.any fun (n, k) => n == x && (k == .local || k == .cell))
        | e => notComp e)
      | _ => false)
    | .asgT is c => (match st with | .Assign [.Tuple es _ _] e _ => all2 (nmB q sc fnB) es is && r e c && notTup e | _ => false)
    | .par2 i j ca cb => (match st with
      | .Assign [.Tuple [.Name x px, .Name y py] _ _] (.Tuple [a, b] _ _) _ => decide (q.N[i]? = some x) && decide (q.N[j]? = some y) && decide (i ≠ j) && decide (x ≠ y) && isLoc sc x && isLoc sc y && r a ca && r b cb && (py.line == px.line) && !([a, b].all (foldedForSure 8)) && !([a, b].all (constantsAlone 8)) && isFn sc
      | _ => false)
    | .par3 i j l ca cb cc => (match st with
      | .Assign [.Tuple [.Name x px, .Name y py, .Name z pz] _ _] (.Tuple [a, b, d] _ _) _ => decide (q.N[i]? = some x) && decide (q.N[j]? = some y) && decide (q.N[l]? = some z) && decide (i ≠ j) && decide (i ≠ l) && decide (j ≠ l) && decide (x ≠ y) && decide (x ≠ z) && decide (y ≠ z) && isLoc sc x && isLoc sc y && isLoc sc z && r a ca && r b cb && r d cc && (py.line == px.line) && (pz.line == px.line) && !([a, b, d].all (foldedForSure 8)) && !([a, b, d].all (constantsAlone 8)) && isFn sc
      | _ => false)
    | .aug i op c => (match st with | .AugAssign (.Name x _) o e _ => ((decide (op = .add) && decide (o = .Add)) || (decide (op = .sub) && decide (o = .Sub))) && setB q sc fnB x i && r e c | _ => false)
    | .setI i ck cv => (match st with | .Assign [.Subscript o ei _] e _ => varB q sc o i && r ei ck && r e cv && notSlice ei | _ => false)
    | .setA i f cv => (match st with | .Assign [.Attribute o g _] e _ => decide (g = f) && varB q sc o i && r e cv | _ => false)
    | .app i c => (match st with | .Expr (.Call (.Attribute o m p2) [e] [] cpos) _ => decide (m = "append") && varB q sc o i && r e c && (p2.endLine == cpos.line) | _ => false)
    | .ext i c => (match st with | .Expr (.Call (.Attribute o m p2) [e] [] cpos) _ => decide (m = "extend") && varB q sc o i && r e c && (p2.endLine == cpos.line) | _ => false)
    | .expr c => (match st with | .Expr e _ => r e c && notComp e | _ => false)
    | .ife t a b => (match st with | .If t' a' b' _ => r t' t && !isIf t' && rs a' a && rs b' b | _ => false)
    | .for_ tgc kd its body => (match st with | .For tg it stm [] _ => itB r q sc tg kd it its && tgB q sc fnB tg tgc && notSet it && rs stm body | _ => false)
    | .forD i j f body => (match st with | .For (.Name x p) (.Attribute o g _) stm [] _ => decide (g = f) && varB q sc o j && noSup o && nmB q sc fnB (.Name x p) i && rs stm body | _ => false)
    | .while_ t body => (match st with | .While t' stm [] _ => r t' t && !isIf t' && rs stm body | _ => false)
    | .ret c => (match st with
      | .Return (some e) _ => (match c with
        | .var i => varB q sc e i
        | c => r e c)
      | _ => false)
    | .retN => (match st with | .Return none _ => true | _ => false)
    | .raise c => (match st with | .Raise (some (.Call (.Name x _) [.Constant (.str _) _ _] [] _)) none _ => decide (x = c) && q.exB c && glB sc x | _ => false)
    | .pass => (match st with | .Pass _ => true | _ => false)
    | .brk => (match st with | .Break _ => true | _ => false)
    | .cont => (match st with | .Continue _ => true | _ => false)
section
variable {q : Q} {k : Nat} {X : Cx} {R : Fr} {W : XK} {sc : Scope} {fnB : Str → Bool}
theorem Bg.at (b : Bg q k X R W sc fnB) {R' : Fr} (h : R'.K = R.K) : Bg q k X R' W sc fnB where
  hK := b.hK.trans h.symm
  hN := b.hN
  nd := b.nd
  calm := b.calm
  room := b.room
  tk := b.tk
  L := by rw [h]; exact b.L
  att := by rw [h]; exact b.att
  isi := by rw [h]; exact b.isi
  kd := by rw [h]; exact b.kd
  con := fun x d e => by
    obtain ⟨u, v, h1, h2, h3⟩ := b.con x d e
    exact ⟨u, v, h1, h2, by rw [h]; exact h3⟩
  blt := b.blt
  cl := by rw [h]; exact b.cl
  exc := by rw [h]; exact b.exc
  hsc := b.hsc
  kind := b.kind
  fn := b.fn
theorem varB_ok (b : Bg q k X R W sc fnB) {e : Expr} {i : Nat} (h : varB q sc e i = true) : PE X e (tVar i) ∧ noSup e = true := by
  unfold varB at h
  split at h
  · simp only [Bool.and_eq_true, decide_eq_true_eq] at h
    obtain ⟨⟨h1, h2⟩, h3⟩ := h
    obtain ⟨o1, o2, _⟩ := okN_ok h3
    exact ⟨pe_var (by rw [b.hN]; exact h1) (b.vis h2) o1 o2, rfl⟩
  · cases h
theorem setB_ok (b : Bg q k X R W sc fnB) {x : Str} {i : Nat} (h : setB q sc fnB x i = true) : X.N[i]? = some x ∧ Loc X.env.scope x ∧ (X.fn x = true ∨ X.env.scope.names.lookup x = some .local) := by
  unfold setB at h
  simp only [Bool.and_eq_true, Bool.or_eq_true, decide_eq_true_eq] at h
  refine ⟨by rw [b.hN]; exact h.1.1, by rw [b.hsc]; exact locB_ok h.1.2, ?_⟩
  rw [b.hsc]
  exact h.2.imp (b.fn x) isLoc_ok
theorem pss_of {E : Ev} {f : Stmt → S → Bool} (hf : ∀ st s, f st s = true → PS X st (TS_ R W (evS E s))) : ∀ {sts : List Stmt} {ss : List S}, all2 f sts ss = true → PSs X sts (TS_ R W (evSs E ss))
  | [], [], _ => pss_nil_
  | st :: sts, s :: ss, h => by
    unfold all2 at h
    rw [Bool.and_eq_true] at h
    exact pss_cons_ (hf _ _ h.1) (pss_of hf h.2)
  | [], _ :: _, h => by cases h
  | _ :: _, [], h => by cases h
end
theorem chkS_ok (q : Q) (k : Nat) : ∀ (n : Nat) {X : Cx} {R : Fr} {W : XK} {sc : Scope} {fnB : Str → Bool} (st : Stmt) (s : S), Bg q k X R W sc fnB → chkS q n sc fnB st s = true → PS X st (TS_ R W (evS q.E s)) := by
  intro n
  induction n with
  | zero => intro X R W sc fnB st s b h; cases h
  | succ n ih =>
    intro X R W sc fnB st s b h
    have g : ∀ e c, chk q n sc e c = true → Good X R W q.E e c := fun e c h => chk_ok q k n e c b h
    have gn : ∀ e c, chk q n sc e c = true → Good X.nox R WF q.E e c := fun e c h => chk_ok q k n e c b.nox h
    have gs : ∀ {sts : List Stmt} {ss : List S}, all2 (chkS q n sc fnB) sts ss = true → PSs X sts (TS_ R W (evSs q.E ss)) := fun h => pss_of (fun st s h => ih st s b h) h
    have gsn : ∀ {sts : List Stmt} {ss : List S}, all2 (chkS q n sc fnB) sts ss = true → PSs X.nox sts (TS_ R WF (evSs q.E ss)) := fun h => pss_of (fun st s h => ih st s b.nox h) h
    have hloc : ∀ y, isLoc sc y = true → X.env.scope.names.lookup y = some .local := fun y h => by rw [b.hsc]; exact isLoc_ok h
    unfold chkS at h
    dsimp only at h
    cases s with
    | asg i c =>
      dsimp only at h
      split at h
      · rename_i x p' e pos
        simp only [Bool.and_eq_true] at h
        obtain ⟨⟨h1, h2⟩, h3⟩ := h
        obtain ⟨s1, s2, s3⟩ := setB_ok b h2
        split at h3
        · rename_i elt tg it ifs scope p
          simp only [Bool.and_eq_true, Bool.not_eq_true'] at h3
          obtain ⟨⟨⟨h4, h5⟩, h6⟩, h7⟩ := h3
          -- the comprehension's parts
          have hl : X.env.scope.names.lookup x = some .local := by rw [b.hsc]; exact isLoc_ok h4
          have hsw : swapsWith (.ListComp elt [⟨tg, it, ifs, 0⟩] scope p) (some (.Name x p')) pos.line X.env = pure true := sw_true (by rw [b.hsc]; exact isFn_ok h5) hl h6 h7
          cases n with
          | zero => cases h1
          | succ n =>
            unfold chk at h1
            dsimp only at h1
            cases c with
            | comp own tgc kd its cond ce =>
              dsimp only at h1
              simp only [Bool.and_eq_true, decide_eq_true_eq] at h1
              obtain ⟨⟨⟨⟨⟨⟨⟨⟨⟨c1, c2⟩, c3⟩, c4⟩, c5⟩, c6⟩, c7⟩, c8⟩, c9⟩, c10⟩ := h1
              have ok : BlkOk X.N X.env.scope scope (own.filterMap fun i => (q.N[i]?).map fun x => (x, i)) := by
                rw [b.hN, b.hsc]
                exact blkOk_by c2
              refine ps_asgL_ b.hK b.calm b.nd s1 hl hsw (itB_ok b (fun e c h => chk_ok q k n e c b h) c5) ok (fun s H C cl fp => tgB_ok (b.blk c4 s H C cl fp) c7) (fun s H C cl fp => ?_) (fun s H C cl fp => (chk_ok q k n _ _ (b.blk c4 s H C cl fp) c10).te) (fold_ok c6) c1 fun i hi => ?_
              · have bb := b.blk c4 s H C cl fp
                split at c9
                · exact pts_none_
                · simp only [Bool.and_eq_true, Bool.not_eq_true'] at c9
                  exact pts_some_ ((chk_ok q k n _ _ bb c9.1).pt c9.2)
                · cases c9
              · have := List.all_eq_true.mp c8 i hi
                exact List.contains_iff_mem.mp this
            | _ => cases h1
        · exact ps_asg_ b.nd s1 s2 (g _ _ h1).te (sw_ok h3) s3
      · cases h
    | asgT is c =>
      dsimp only at h
      split at h
      · simp only [Bool.and_eq_true] at h
        obtain ⟨⟨h1, h2⟩, h3⟩ := h
        have hp := nms_ok b h1
        obtain ⟨e1, e2, e3⟩ := nms_each (env := X.env) (fun e i ⟨x, pos, e1, _⟩ => ⟨x, pos, e1⟩) hp
        exact ps_asgT_ b.hK b.calm (g _ _ h2).te (pgs_names b.nd hp e3) e1 e2 swT_ok (storesT_ok h3) rfl
      · cases h
    | par2 i j ca cb =>
      dsimp only at h
      split at h
      · simp only [Bool.and_eq_true, decide_eq_true_eq, Bool.not_eq_true'] at h
        obtain ⟨⟨⟨⟨⟨⟨⟨⟨⟨⟨⟨h1, h2⟩, h3⟩, h4⟩, h5⟩, h6⟩, h7⟩, h8⟩, h9⟩, h10⟩, h11⟩, h12⟩ := h
        have hx := hloc _ h5
        have hy := hloc _ h6
        exact ps_par2_ b.calm b.nd (by rw [b.hN]; exact h1) (by rw [b.hN]; exact h2) h3 hx hy (g _ _ h7).te (g _ _ h8).te (star_ok (g _ _ h7).st) (star_ok (g _ _ h8).st)
          (par_ok (by rw [b.hsc]; exact isFn_ok h12) hx hy h4 (g _ _ h7).st (g _ _ h8).st h9 h10 h11) swT_ok
      · cases h
    | par3 i j l ca cb cc =>
      dsimp only at h
      split at h
      · simp only [Bool.and_eq_true, decide_eq_true_eq, Bool.not_eq_true'] at h
        obtain ⟨⟨⟨⟨⟨⟨⟨⟨⟨⟨⟨⟨⟨⟨⟨⟨⟨⟨⟨h1, h2⟩, h3⟩, h4⟩, h5⟩, h6⟩, h7⟩, h8⟩, h9⟩, h10⟩, h11⟩, h12⟩, h13⟩, h14⟩, h15⟩, h16⟩, h17⟩, h18⟩, h19⟩, h20⟩ := h
        have hx := hloc _ h10
        have hy := hloc _ h11
        have hz := hloc _ h12
        exact ps_par3_ b.calm b.nd (by rw [b.hN]; exact h1) (by rw [b.hN]; exact h2) (by rw [b.hN]; exact h3) h4 h5 h6 hx hy hz (g _ _ h13).te (g _ _ h14).te (g _ _ h15).te (star_ok (g _ _ h13).st) (star_ok (g _ _ h14).st) (star_ok (g _ _ h15).st)
          (par3_ok (by rw [b.hsc]; exact isFn_ok h20) hx hy hz h7 h8 h9 (g _ _ h13).st (g _ _ h14).st (g _ _ h15).st h16 h17 h18 h19) swT_ok
      · cases h
    | aug i op c =>
      dsimp only at h
      split at h
      · simp only [Bool.and_eq_true, Bool.or_eq_true, decide_eq_true_eq] at h
        obtain ⟨⟨h1, h2⟩, h3⟩ := h
        obtain ⟨s1, s2, s3⟩ := setB_ok b h2
        exact ps_aug_ h1 b.nd s1 s2 (g _ _ h3).te s3
      · cases h
    | setI i ck cv =>
      dsimp only at h
      split at h
      · simp only [Bool.and_eq_true] at h
        obtain ⟨⟨⟨h1, h2⟩, h3⟩, h4⟩ := h
        have hu := b.hu
        exact ps_setI_ (by omega) (varB_ok b h1).1 (g _ _ h2).to (g _ _ h3).te (asg_ok h4) swS_ok storesS_ok rfl
      · cases h
    | setA i f cv =>
      dsimp only at h
      split at h
      · simp only [Bool.and_eq_true, decide_eq_true_eq] at h
        obtain ⟨⟨rfl, h2⟩, h3⟩ := h
        exact ps_setA_ b.att b.hK (varB_ok b h2).1 (g _ _ h3).te swA_ok
      · cases h
    | app i c =>
      dsimp only at h
      split at h
      · simp only [Bool.and_eq_true, decide_eq_true_eq] at h
        obtain ⟨⟨⟨rfl, h2⟩, h3⟩, h4⟩ := h
        have ge := g _ _ h3
        obtain ⟨v1, v2⟩ := varB_ok b h2
        exact ps_app_ v1 ge.te (star_ok ge.st) (base_ok v2) h4 (few_ok (by simp [ge.st]) (by simp)) rfl (sw_ok rfl)
      · cases h
    | ext i c =>
      dsimp only at h
      split at h
      · simp only [Bool.and_eq_true, decide_eq_true_eq] at h
        obtain ⟨⟨⟨rfl, h2⟩, h3⟩, h4⟩ := h
        have ge := g _ _ h3
        obtain ⟨v1, v2⟩ := varB_ok b h2
        exact ps_ext_ v1 ge.te (star_ok ge.st) (base_ok v2) h4 (few_ok (by simp [ge.st]) (by simp)) rfl (sw_ok rfl)
      · cases h
    | expr c =>
      dsimp only at h
      split at h
      · simp only [Bool.and_eq_true] at h
        exact ps_expr_ (g _ _ h.1).te (sw_ok h.2)
      · cases h
    | ife t a c =>
      dsimp only at h
      split at h
      · simp only [Bool.and_eq_true, Bool.not_eq_true'] at h
        exact ps_ife_ ((g _ _ h.1.1.1).pt h.1.1.2) (gs h.1.2) (gs h.2)
      · cases h
    | for_ tgc kd its body =>
      dsimp only at h
      split at h
      · simp only [Bool.and_eq_true] at h
        exact ps_for_ b.hK b.calm (itB_ok b.nox gn h.1.1.1) (tgB_ok b.nox h.1.1.2) (gsn h.2) (fold_ok h.1.2)
      · cases h
    | forD i j f body =>
      dsimp only at h
      split at h
      · simp only [Bool.and_eq_true, decide_eq_true_eq] at h
        obtain ⟨⟨⟨⟨rfl, h2⟩, h3⟩, h4⟩, h5⟩ := h
        exact ps_forD_ (xpos := default) b.att b.hK b.calm (varB_ok b.nox h2).1 (base_ok h3) (tgB_ok (t := .one i) b.nox h4) (fun R' hR => pss_of (fun st s h => ih st s (b.nox.at hR) h) h5) (fun v => rfl)
      · cases h
    | while_ t body =>
      dsimp only at h
      split at h
      · simp only [Bool.and_eq_true, Bool.not_eq_true'] at h
        exact ps_while_ ((gn _ _ h.1.1).pt h.1.2) (gsn h.2)
      · cases h
    | ret c =>
      dsimp only at h
      split at h
      · split at h
        · exact ps_retV_ (varB_ok b h).1
        · rename_i hc
          exact ps_ret_ (fun i z => hc i z) (g _ _ h).te
      · cases h
    | retN =>
      dsimp only at h
      split at h
      · exact ps_retN_
      · cases h
    | raise c =>
      dsimp only at h
      split at h
      · simp only [Bool.and_eq_true, decide_eq_true_eq] at h
        obtain ⟨⟨rfl, h2⟩, h3⟩ := h
        exact ps_raise_ b.calm b.tk (b.exc _ h2 X b.hK rfl _ _ _ _ _ (b.gl h3))
      · cases h
    | pass =>
      dsimp only at h
      split at h
      · exact ps_pass_
      · cases h
    | brk =>
      dsimp only at h
      split at h
      · exact ps_brk_
      · cases h
    | cont =>
      dsimp only at h
      split at h
      · exact ps_cont_
      · cases h
end Y
set_option Elab.async false
set_option linter.all false
set_option maxRecDepth 100000
set_option maxHeartbeats 4000000
namespace Y
open PySem PySem.Spec PyProof.Rows L2
/-! ### a module's defs, all at once -/
def mkE (st : Ev) (a b : Nat → Fn) : Ev := { st with fn := a, fm := b }
/-- what each def computes, by the depth of calls left -/
def sem (st : Ev) (step : Ev → Nat → Fn) : Nat → Nat → Fn
  | 0 => fun _ _ => none
  | 1 => fun _ _ => none
  | k + 2 => step (mkE st (sem st step (k + 1)) (sem st step k))
/-- what is leant on of the module -/
structure Md (P : Program) (w : World) (K : PySem.W.Frag) (mg : Str → Option Value) (st : Ev) (blt exB : Str → Bool) : Prop where
  att : AttOk K st
  isi : IsiOk K st
  con : ∀ x d, st.con x = some d → ∃ u v, mg x = some u ∧ RelV v u ∧ At K (fun _ => none) v d
  kd : KdOk K w mg st
  blt : ∀ x, blt x = true → mg x = none
  cl : ∀ c, st.cl c = true → mg c = some (.ref (He.ga K c))
  exc : ExcOk K mg exB
/-- one def's place -/
structure Pl where
  f : Addr
  fd : FuncData
  ps : List Str
abbrev LvAll (P : Program) (w : World) (K : PySem.W.Frag) (mg : Str → Option Value) (base : Heap) (E : Ev) (k : Nat) : Prop := ∀ X : Cx, X.prog = P → X.w = w → X.K = K → X.mg = mg → X.base = base → Lv X K E k
structure Df (P : Program) (w : World) (K : PySem.W.Frag) (mg : Str → Option Value) (base : Heap) (st : Ev) (step : Ev → Nat → Fn) (fid : Nat) (p : Pl) : Prop where
  len : p.ps.length = st.np fid
  binds : ∀ n, n + (moreOf st fid n).length = st.np fid → ∃ (ds : List Value) (dvs : List V), Binds K p.fd p.ps ds ∧ Vals dvs ds ∧ Paired (At K (fun _ => none)) dvs (moreOf st fid n)
  step : ∀ k a b, LvAll P w K mg base (mkE st a b) k → FnOk P w K mg base (L2.CX P w) (k + 1) p.f p.fd p.ps (spD K (st.io fid) (st.np fid) (step (mkE st a b) fid))
structure Nm (K : PySem.W.Frag) (mg : Str → Option Value) (st : Ev) (used : Nat → Bool) (pl : Nat → Pl) : Prop where
  gl : ∀ x fid, st.gl x = some fid → used fid = true ∧ mg x = some (.ref (pl fid).f) ∧ PySem.W.keepIn K (.ref (pl fid).f) = true
  mt : ∀ c m fid, st.mt c m = some fid → used fid = true ∧ Cls K (He.ga K c) ∧ Meth K (He.ga K c) m (pl fid).f
  ini : ∀ c fid, st.ini c = some fid → used fid = true ∧ mg c = some (.ref (He.ga K c)) ∧ Mk K (He.ga K c) (pl fid).f
section
variable {P : Program} {w : World} {K : PySem.W.Frag} {mg : Str → Option Value} {base : Heap} {st : Ev} {step : Ev → Nat → Fn} {used : Nat → Bool} {pl : Nat → Pl} {blt exB : Str → Bool}
theorem fn_none {k : Nat} {f : Addr} {fd : FuncData} {ps : List Str} {io : Option Nat} {np : Nat} {CX : CXT} : FnOk P w K mg base CX k f fd ps (spD K io np (fun _ => none)) :=
  ⟨fun vs H Q E ⟨F, ds, _, _, _, q⟩ => q.elim, fun A outer s H args us vs Q E _ _ _ _ ⟨F, ds, _, _, _, q⟩ => q.elim⟩
theorem sem_ok (N : Nm K mg st used pl) (D : ∀ fid, used fid = true → Df P w K mg base st step fid (pl fid)) : ∀ k fid, used fid = true → FnOk P w K mg base (L2.CX P w) k (pl fid).f (pl fid).fd (pl fid).ps (spD K (st.io fid) (st.np fid) (sem st step k fid)) := by
  have main : ∀ k, (∀ fid, used fid = true → FnOk P w K mg base (L2.CX P w) k (pl fid).f (pl fid).fd (pl fid).ps (spD K (st.io fid) (st.np fid) (sem st step k fid))) ∧
      (∀ fid, used fid = true → FnOk P w K mg base (L2.CX P w) (k + 1) (pl fid).f (pl fid).fd (pl fid).ps (spD K (st.io fid) (st.np fid) (sem st step (k + 1) fid))) := by
    intro k
    induction k with
    | zero => exact ⟨fun _ _ => fn_none, fun _ _ => fn_none⟩
    | succ k ih =>
      refine ⟨ih.2, fun fid hu => (D fid hu).step (k + 1) _ _ fun X hp hw hK hm hb => ?_⟩
      subst hp hw hK hm hb
      have ca : ∀ (fn : Nat → Fn) (j fid : Nat) (h : used fid = true), FnOk X.prog X.w X.K X.mg X.base (L2.CX X.prog X.w) j (pl fid).f (pl fid).fd (pl fid).ps (spD X.K (st.io fid) (st.np fid) (fn fid)) →
          CalleeAt X X.K (mkE st (sem st step (k + 1)) (sem st step k)) fn j fid (pl fid).f := fun fn j fid hu h => ⟨(pl fid).fd, (pl fid).ps, (D fid hu).len, h, (D fid hu).binds⟩
      refine ⟨fun x fid hx => ?_, fun c m fid hx => ?_, fun c fid hx => ?_⟩
      · obtain ⟨h1, h2, h3⟩ := N.gl x fid hx
        exact ⟨_, h2, h3, ca _ _ fid h1 (ih.2 fid h1)⟩
      · obtain ⟨h1, h2, h3⟩ := N.mt c m fid hx
        exact ⟨_, h2, h3, ca _ _ fid h1 (ih.2 fid h1)⟩
      · obtain ⟨h1, h2, h3⟩ := N.ini c fid hx
        exact ⟨_, k, rfl, h2, h3, ca _ _ fid h1 (ih.1 fid h1)⟩
  exact fun k => (main k).1
/-- the background of a def's body -/
theorem bg_of (M : Md P w K mg st blt exB) {a b : Nat → Fn} {k : Nat} (L : LvAll P w K mg base (mkE st a b) k) {N ps : List Str} {qual : Str} {scope : Scope} (Sc : FnScope N ps scope) {f : Addr} {cdv : Value} {A : Around} {outer : List Env} {s : Shared} {H : Hp} {W : XK} {R : Fr} (hR : R.K = K)
    (hr : Room k (A.deeper (envOfC qual scope s.heap.objs.size f cdv))) : Bg ⟨mkE st a b, N, blt, exB⟩ k (cxOf (L2.CX P w) P w K mg base N qual scope f cdv A outer s H W) R W scope (fun _ => true) where
  hK := hR.symm
  hN := rfl
  nd := Sc.nd
  calm := rfl
  room := hr
  tk := takes_of rfl rfl rfl rfl
  L := by rw [hR]; exact L _ rfl rfl rfl rfl rfl
  att := by rw [hR]; exact M.att
  isi := by rw [hR]; exact ⟨M.isi.is_, M.isi.cl⟩
  con := fun x d e => by
    obtain ⟨u, v, h1, h2, h3⟩ := M.con x d e
    exact ⟨u, v, h1, h2, by rw [hR]; exact h3⟩
  kd := by rw [hR]; exact M.kd
  blt := M.blt
  cl := by rw [hR]; exact M.cl
  exc := by rw [hR]; exact M.exc
  hsc := rfl
  kind := Sc.kind
  fn := fun _ _ => rfl
/-- a def by its core -/
theorem df_core (M : Md P w K mg st blt exB) {fid : Nat} {x qual : Str} {params : Arguments} {body : List Stmt} {scope : Scope} {dvs : List V} {kws : List (Str × V)} {p : Pl} {N : List Str} {Ss : List S}
    (Fd : FunD K x qual params body scope dvs kws p.f p.fd) (Sc : FnScope N p.ps scope) (hl : p.ps.length = st.np fid) (hN : N.length = nN)
    (hb : ∀ n, n + (moreOf st fid n).length = st.np fid → ∃ (ds : List Value) (dvs : List V), Binds K p.fd p.ps ds ∧ Vals dvs ds ∧ Paired (At K (fun _ => none)) dvs (moreOf st fid n))
    (hs : ∀ E, step E fid = runF E (st.io fid) nN (st.np fid) Ss)
    (hc : ∀ a b, all2 (chkS ⟨mkE st a b, N, blt, exB⟩ 60 scope (fun _ => true)) body Ss = true) : Df P w K mg base st step fid p where
  len := hl
  binds := hb
  step := fun k a b L => by
    rw [hs]
    exact fnD Fd Sc hl hN fun cdv A outer s H W R hR hr => pss_of (fun st' s' h => chkS_ok ⟨mkE st a b, N, blt, exB⟩ k 60 st' s' (bg_of M L Sc hR hr) h) (hc a b)
end
end Y
set_option Elab.async false
set_option linter.all false
set_option maxRecDepth 100000
set_option maxHeartbeats 2000000
namespace Y
open PySem PySem.Spec L2
/-! ### the evaluator's static part from tables -/
def eqA (a b : Sum String Str) : Bool := match a, b with
  | .inl x, .inl y => x == y
  | .inr x, .inr y => decide (x = y)
  | _, _ => false
def eqT (a b : Ty) : Bool := match a, b with
  | .ty x, .ty y => x == y
  | .cls x, .cls y => decide (x = y)
  | _, _ => false
def lookS {α : Type} (l : List (Str × α)) (x : Str) : Option α := (l.find? fun p => decide (p.1 = x)).map (·.2)
def stOf (glT : List (Str × Nat)) (mtT : List ((Str × Str) × Nat)) (iniT : List (Str × Nat)) (conT : List (Str × D)) (attT : List (Str × Str)) (kdT : List (Str × List (Str × List Str))) (isiT : List (Sum String Str × Ty × Bool)) (clT : List Str) (tab : List (Nat × Option Nat × List D)) : Ev where
  fn := fun _ _ => none
  fm := fun _ _ => none
  io := fun f => (tab[f]?).bind (·.2.1)
  dfl := fun f => ((tab[f]?).map (·.2.2)).getD []
  np := fun f => ((tab[f]?).map (·.1)).getD 0
  con := lookS conT
  att := fun c f => attT.any fun p => decide (p.1 = c) && decide (p.2 = f)
  isi := fun a t => (isiT.find? fun p => eqA p.1 a && eqT p.2.1 t).map (·.2.2)
  mt := fun c m => (mtT.find? fun p => decide (p.1.1 = c) && decide (p.1.2 = m)).map (·.2)
  ini := lookS iniT
  gl := lookS glT
  cl := fun c => clT.any fun x => decide (x = c)
  kd := lookS kdT
end Y
set_option Elab.async false
set_option linter.all false
set_option maxRecDepth 100000
set_option maxHeartbeats 4000000
namespace Y
open PySem PySem.Spec PyProof.Rows L2
/-! ### bodies by hand -/
def seqM (a b : G → M (Fl × G)) : G → M (Fl × G) := fun g => M.bnd (a g) fun (fl, g1) => match fl with
  | .nx => b g1
  | fl => some (.ok (fl, g1))
section
variable {X : Cx} {R : Fr} {W : XK} {st : Stmt} {rest : List Stmt} {ev1 ev2 : G → M (Fl × G)}
theorem pss_seq (h1 : PS X st (TS_ R W ev1)) (h2 : PSs X rest (TS_ R W ev2)) : PSs X (st :: rest) (TS_ R W (seqM ev1 ev2)) := by
  refine PSs.imp (pss_cons h1 h2) fun D σ H ⟨F, g, r, q⟩ => ?_
  refine ⟨F, g, r, wp_mono (wp_bnd q) (fun (fl, g1) q1 => ?_) fun _ z => z⟩
  cases fl with
  | nx => exact fun σ' F' H' e r' => ⟨F', g1, r', wp_mono q1 (fun a z => z.on e) fun _ z => z⟩
  | bk => exact q1
  | ct => exact q1
  | rt s => exact q1
end
section
variable {P : Program} {w : World} {K : PySem.W.Frag} {mg : Str → Option Value} {base : Heap} {st : Ev} {step : Ev → Nat → Fn} {blt exB : Str → Bool}
/-- a def by any reading of its body -/
theorem df_ev (M : Md P w K mg st blt exB) {fid nN : Nat} {x qual : Str} {params : Arguments} {body : List Stmt} {scope : Scope} {dvs : List V} {kws : List (Str × V)} {p : Pl} {N : List Str} {ev : Ev → G → Y.M (Fl × G)}
    (Fd : FunD K x qual params body scope dvs kws p.f p.fd) (Sc : FnScope N p.ps scope) (hl : p.ps.length = st.np fid) (hN : N.length = nN)
    (hb : ∀ n, n + (moreOf st fid n).length = st.np fid → ∃ (ds : List Value) (dvs : List V), Binds K p.fd p.ps ds ∧ Vals dvs ds ∧ Paired (At K (fun _ => none)) dvs (moreOf st fid n))
    (hs : ∀ E, step E fid = runG (st.io fid) nN (st.np fid) (ev E))
    (hc : ∀ (a b : Nat → Fn) (k : Nat) (X : Cx) (R : Fr) (W : XK), Bg ⟨mkE st a b, N, blt, exB⟩ k X R W scope (fun _ => true) → X.stack = X.env :: X.outer → X.env.frame = some X.env.locals → X.ex = [] → PSs X body (TS_ R W (ev (mkE st a b)))) : Df P w K mg base st step fid p where
  len := hl
  binds := hb
  step := fun k a b L => by
    rw [hs]
    exact fnD Fd Sc hl hN fun cdv A outer s H W R hR hr => hc a b k _ R W (bg_of M L Sc hR hr) rfl rfl rfl
end
/-! ### self.table = {}; for one in functions: self.table[one.name] = one -/
def tableOf (E : Ev) : List D → List Key → List D → Option (List Key × List D)
  | [], ks, vs => some (ks, vs)
  | o :: os, ks, vs => match o with
    | .obj c fs xs => if E.att c "name" = true then (match look fs xs "name" with
      | some (.str s) => if ks.length < lim then let r := setAll ks vs (.inr s) o; tableOf E os r.1 r.2 else none
      | _ => none) else none
    | _ => none
def notIo (g : G) (i : Nat) : Bool := match g.get i with
  | some ⟨_, .io, _⟩ => false
  | _ => true
def evBook (E : Ev) : G → M (Fl × G) := fun g => match g.get 0, g.get 1 with
  | some ⟨.obj c [] [], .io, _⟩, some ⟨.lst os, .fr, m⟩ => if E.att c "table" = true ∧ 2 < g.length ∧ notIo g 2 = true then (match tableOf E os [] [] with
    | some (ks, vs) => some (.ok (.nx, (g.put 0 ⟨.obj c ["table"] [.dct ks vs], .io, m⟩).set 2 none))
    | none => none) else none
  | _, _ => none
theorem upd_upd {H : Hp} {p : Addr} {a b : HO} : upd (upd H p a) p b = upd H p b := by
  funext x
  by_cases e : x = p
  · subst e; rw [upd_same, upd_same]
  · rw [upd_ne e, upd_ne e, upd_ne e]
theorem upd_comm {H : Hp} {p q : Addr} {a b : HO} (h : p ≠ q) : upd (upd H p a) q b = upd (upd H q b) p a := by
  funext x
  by_cases e : x = p
  · subst e; rw [upd_ne h, upd_same, upd_same]
  · by_cases e2 : x = q
    · subst e2; rw [upd_same, upd_ne e, upd_same]
    · rw [upd_ne e2, upd_ne e, upd_ne e, upd_ne e2]
theorem RelS.alloc {R : Fr} {F H : Hp} {g : G} {σ : L2.St} {p : Addr} {o : HO} (r : RelS R F g σ H) (h : H p = none) : RelS R F g σ (upd H p o) := ⟨r.rel.alloc h, r.exF, r.nF⟩
theorem RelS.freeze {R : Fr} {F H : Hp} {g : G} {σ : L2.St} {p : Addr} {o : HO} (r : RelS R F g σ H) (hf : F p = none) (hp : H p = some o) (no : ¬ Own g σ p) (h0 : R.H0 p = none) : RelS R (upd F p o) g σ H := by
  refine ⟨r.rel.freeze hf hp no, r.exF.trans (same_upd hf), fun b h1 h2 => ?_⟩
  rw [upd_ne (fun e => by rw [e, h0] at h2; cases h2)]
  exact r.nF b h1 h2
/-- a slot forgotten -/
theorem RelS.drop {R : Fr} {F H : Hp} {g : G} {σ σ' : L2.St} {i : Nat} (r : RelS R F g σ H) (hl : σ'.length = σ.length) (hs : ∀ j, j ≠ i → σ'[j]? = σ[j]?) (hi : ∀ s, g.get i = some s → s.m ≠ .io) : RelS R F (g.set i none) σ' H := by
  have key : ∀ {j : Nat} {s : Sl}, G.get (g.set i none) j = some s → j ≠ i ∧ g.get j = some s := fun {j s} h => by
    unfold G.get at h ⊢
    by_cases e : j = i
    · subst e
      by_cases hlt : j < g.length
      · rw [List.getElem?_set_self hlt] at h; cases h
      · rw [List.getElem?_eq_none (by rw [List.length_set]; omega)] at h; cases h
    · rw [List.getElem?_set_ne (Ne.symm e)] at h
      exact ⟨e, h⟩
  have rl := r.rel
  refine ⟨⟨by rw [List.length_set, hl]; exact rl.len, fun j s hj => ?_, fun a b s u q ha hb hsa hsb pa pb => ?_, rl.ex, rl.keep, rl.there, rl.ios, fun q hq => ?_⟩, r.exF, r.nF⟩
  · obtain ⟨e, h⟩ := key hj
    rw [hs j e]
    exact rl.at_ j s h
  · obtain ⟨e1, h1⟩ := key ha
    obtain ⟨e2, h2⟩ := key hb
    rw [hs a e1] at pa
    rw [hs b e2] at pb
    exact rl.dis a b s u q h1 h2 hsa hsb pa pb
  · obtain ⟨s, h1, h2, h3⟩ := rl.iog q hq
    have e : q.1 ≠ i := fun e => hi s (by rw [← e]; exact h1) h2
    refine ⟨s, ?_, h2, by rw [hs _ e]; exact h3⟩
    unfold G.get at h1 ⊢
    rw [List.getElem?_set_ne (Ne.symm e)]
    exact h1
/-- the dict that the loop builds -/
def kvsOf (n : Nat → Str) : List V → Nat → List (Key × V) → List (Key × V)
  | [], _, acc => acc
  | v :: vs, i, acc => kvsOf n vs (i + 1) (putK acc (.inr (n i)) v)
section
variable {X : Cx} {R : Fr} {W : XK} {E : Ev} {rest : List Stmt} {ev2 : G → M (Fl × G)}
theorem tableOf_ok {K : PySem.W.Frag} {F : Hp} {n : Bool} {H0 : Hp} (hE : AttOk K E) : ∀ {os : List D} {vs : List V} {ks : List Key} {ds : List D} {ks' : List Key} {ds' : List D} {acc : List (Key × V)}, Paired (At K (FN H0 F n)) vs os → acc.map (·.1) = ks → Paired (At K (FN H0 F n)) (acc.map (·.2)) ds → tableOf E os ks ds = some (ks', ds') →
    ∃ kv : Nat → List (Key × V), kv 0 = acc ∧ (kv vs.length).map (·.1) = ks' ∧ Paired (At K (FN H0 F n)) ((kv vs.length).map (·.2)) ds' ∧
      ∀ i v, vs[i]? = some v → ∃ a c dx fs s, v = .ref a ∧ F a = some (.ins (He.ga K c) dx fs) ∧ Cls K (He.ga K c) ∧ NoAttr K (He.ga K c) "name" ∧ fs.lookup ("name" : Str) = some (V.str s) ∧ (kv i).length < lim ∧ kv (i + 1) = putK (kv i) (.inr s) v
  | [], _, ks, ds, ks', ds', acc, .nil, hk, hd, e => by
    cases e
    exact ⟨fun _ => acc, rfl, hk, hd, fun i v h => by simp at h⟩
  | o :: os, _, ks, ds, ks', ds', acc, .cons (a := v) (l₁ := vs) hv t, hk, hd, e => by
    cases o with
    | obj c fs xs =>
      unfold tableOf at e
      dsimp only at e
      split at e
      · rename_i hatt
        split at e
        · rename_i s hlk
          split at e
          · rename_i hlen
            obtain ⟨a1, a2⟩ := putK_of (k := Sum.inr s) hv hk hd
            obtain ⟨kv, k0, k1, k2, k3⟩ := tableOf_ok hE t a1 a2 e
            cases hv with
            | obj h1 h2 h3 =>
              rename_i a dx kvs
              obtain ⟨u, h4, h5⟩ := look_lookup "name" h2 h3 _ hlk
              cases h5
              obtain ⟨hc, hn⟩ := hE c "name" hatt
              refine ⟨fun i => match i with | 0 => acc | i + 1 => kv i, rfl, k1, k2, fun i w hw => ?_⟩
              cases i with
              | zero =>
                cases hw
                refine ⟨a, c, dx, kvs, s, rfl, FN_le _ _ h1, hc, hn, h4, ?_, k0⟩
                rw [← List.length_map (f := (·.1)) (as := acc), hk]
                exact hlen
              | succ i => exact k3 i w (by simpa using hw)
          · cases e
        · cases e
      · cases e
    | _ => cases e
/-- the two statements of Book.__init__ -/
theorem pss_book {x0 x0' x1 : Expr} {n2 : Str} {p1 p2 p3 p4 p5 p6 p7 p8 p9 p10 p11 : Pos} (hE : AttOk R.K E) (hK : X.K = R.K) (hc : X.calm = true) (hu : X.A.units + 1 < cLine)
    (h0 : PE X x0 (tVar 0)) (h0n : PE X.nox x0' (tVar 0)) (h1 : PE X.nox x1 (tVar 1)) (h2 : PE X.nox (.Name n2 p7) (tVar 2)) (h2' : PE X.nox (.Name n2 p8) (tVar 2)) (hg2 : PG X.nox (.Name n2 p9) (gName 2)) (hb0 : noSup x0' = true) (hns : notSet x1 = true)
    (hr : PSs X rest (TS_ R W ev2)) :
    PSs X (.Assign [.Attribute x0 "table" p1] (.Dict [] [] p2) p3 :: .For (.Name n2 p9) x1 [.Assign [.Subscript (.Attribute x0' "table" p4) (.Attribute (.Name n2 p8) "name" p5) p6] (.Name n2 p7) p10] [] p11 :: rest) (TS_ R W (seqM (evBook E) ev2)) := by
  have hb : PSs X.nox [.Assign [.Subscript (.Attribute x0' "table" p4) (.Attribute (.Name n2 p8) "name" p5) p6] (.Name n2 p7) p10] (tAsg (tVar 2) (gSub (tFld X.K (tVar 0) "table") (tFld X.K (tVar 2) "name") rSetD)) :=
    pss_one (ps_asg h2 (pg_sub (pe_fld h0n (base_ok hb0)) (pe_fld h2' (base_ok rfl)) (set_dict hu) (asg_ok rfl)) swS_ok storesS_ok rfl)
  refine PSs.imp (pss_cons (ps_fld h0 pe_dnewK swA_ok) (pss_cons (PS.nox (ps_for PassesOwn.never hc (pi_list h1) hg2 hb (fold_ok hns))) hr)) fun D σ H ⟨F, g, r, q⟩ => ?_
  have q0 := wp_bnd q
  unfold evBook at q0
  split at q0
  · rename_i c n0 os m hg0 hg1
    obtain ⟨⟨hatt, hlen, hio2⟩, q1⟩ := ifNone q0
    cases ht : tableOf E os [] [] with
    | none => rw [ht] at q1; exact q1.elim
    | some rr =>
      obtain ⟨ks, vds⟩ := rr
      rw [ht] at q1
      have q2 : wp (ev2 ((g.put 0 ⟨.obj c ["table"] [.dct ks vds], .io, m⟩).set 2 none)) (FlC R F D) (ExW R W) := q1
      obtain ⟨p, hp, hT⟩ := r.rel.slot hg0 (by simp)
      obtain ⟨v1, hv1, hs1⟩ := r.rel.at_ 1 _ hg1
      have hs1' : At R.K (FN R.H0 F m) v1 (.lst os) := hs1
      cases hs1' with
      | lst hFa hvs =>
        rename_i a vs
        cases hT with
        | obj hpo hkk hpp =>
          rename_i dx kvs0
          have hkv0 : kvs0 = [] := List.map_eq_nil_iff.mp hkk
          subst hkv0
          obtain ⟨kv, k0, k1, k2, k3⟩ := tableOf_ok hE (acc := []) hvs rfl .nil ht
          obtain ⟨hcl, hna⟩ := hE c "table" hatt
          have hFp : F p = none := by
            obtain ⟨w, h3, h4⟩ := r.rel.at_ 0 _ hg0
            rw [hp] at h3
            cases h3
            obtain ⟨q', e', h5, _⟩ := slAt_own h4 (by simp)
            cases e'
            exact h5
          intro d hd
          obtain ⟨fD, h0D, noD⟩ := r.rel.fresh hd
          have hHa : H a = some (.lst vs) := r.rel.ex _ _ (FN_le _ _ hFa)
          have ap : a ≠ p := fun e => by rw [e] at hFa; have := FN_le _ _ hFa; rw [hFp] at this; cases this
          have ad : a ≠ d := ne_of_none hHa hd
          have pd : p ≠ d := ne_of_none hpo hd
          refine ⟨_, hp, p, _, dx, [], rfl, by rw [upd_ne pd]; exact hpo, by rw [hK]; exact hcl, by rw [hK]; exact hna, by decide, ?_⟩
          refine ⟨_, hv1, a, rfl, ⟨vs, SqL.of (by rw [upd_ne ap, upd_ne ad]; exact hHa)⟩, ?_⟩
          refine for_list (K := X.K) (a := a) (xs := vs) (fun i σ' H' => H' = upd (upd H d (.dK (kv i))) p (.ins (He.ga R.K c) dx [("table", .ref d)]) ∧ σ'.length = σ.length ∧ ∀ j, j ≠ 2 → σ'[j]? = σ[j]?) ?_ ?_ ?_ ?_
          · rw [k0]
            exact ⟨rfl, rfl, fun _ _ => rfl⟩
          · rintro i σ' H' _ ⟨rfl, _, _⟩
            exact SqL.of (by rw [upd_ne ap, upd_ne ad]; exact hHa)
          · rintro i x σ' H' hx ⟨rfl, hsl, hag⟩
            obtain ⟨a2, c2, dx2, fs2, s2, rfl, hF2, hc2, hn2, hl2, hlt2, hk2⟩ := k3 i x hx
            have hHa2 : H a2 = some (.ins (He.ga R.K c2) dx2 fs2) := r.rel.ex _ _ hF2
            have a2p : a2 ≠ p := fun e => by rw [e, hFp] at hF2; cases hF2
            have a2d : a2 ≠ d := ne_of_none hHa2 hd
            have h2lt : 2 < σ'.length := by rw [hsl, r.rel.len]; exact hlen
            have e2 : (σ'.set 2 (some (.ref a2)))[2]? = some (some (.ref a2)) := List.getElem?_set_self h2lt
            have e0 : (σ'.set 2 (some (.ref a2)))[0]? = some (some (.ref p)) := by
              rw [List.getElem?_set_ne (by decide), hag 0 (by decide)]
              exact hp
            refine ⟨_, e2, _, e0, p, _, dx, _, .ref d, rfl, upd_same, by rw [hK]; exact hcl, by rw [hK]; exact hna, rfl, _, e2, a2, _, dx2, fs2, .str s2, rfl, by rw [upd_ne a2p, upd_ne a2d]; exact hHa2, by rw [hK]; exact hc2, by rw [hK]; exact hn2, hl2, d, _, rfl, DPut.k (k := .inr s2) (kvs := kv i) (by rw [upd_ne (Ne.symm pd), upd_same]) (lim_lt hlt2), ?_, ?_, fun j hj => ?_⟩
            · rw [hk2, upd_comm pd, upd_upd]
            · rw [List.length_set]; exact hsl
            · rw [List.getElem?_set_ne (Ne.symm hj)]; exact hag j hj
          · rintro σ' H' ⟨rfl, hsl, hag⟩
            have rA : RelS R F g σ (upd H d (.dK (kv vs.length))) := r.alloc hd
            have rB := rA.freeze fD upd_same noD h0D
            have hkid : Paired (At R.K (FN R.H0 (upd F d (.dK (kv vs.length))) m)) [V.ref d] [Y.D.dct ks vds] :=
              .cons (.dct (.inl (by rw [FN_new h0D, upd_same])) k1 (atL_mono (FN_mono (same_upd fD)) _ _ k2)) .nil
            have rC := rB.mut (i := 0) (n' := m) (o := .ins (He.ga R.K c) dx [("table", .ref d)]) (d' := .obj c ["table"] [.dct ks vds]) hg0 (by simp) hp (.obj upd_same rfl hkid)
            have rD := rC.drop (i := 2) hsl hag fun t ht hm => by
              rw [G.get_put_ne (by decide)] at ht
              unfold notIo at hio2
              rw [ht] at hio2
              obtain ⟨td, tm, tn⟩ := t
              cases (show tm = .io from hm)
              cases hio2
            exact ⟨_, _, rD, wp_mono q2 (fun a z => z.on (same_upd fD)) fun _ z => z⟩
  · exact q0.elim
end
end Y
set_option Elab.async false
set_option linter.all false
set_option maxRecDepth 100000
set_option maxHeartbeats 4000000
namespace Y
open PySem PySem.Spec PyProof.Rows L2
/-! ### at a def's entry -/
def TS0_ (R : Fr) (W : XK) (ev : G → M (Fl × G)) : TS := fun D σ H => ∃ g, RelS R R.F0 g σ H ∧ H = R.H0 ∧ wp (ev g) (FlC R R.F0 D) (ExW R W)
/-- .. whose first statement leans on the entry -/
theorem fnD0 {P : Program} {w : World} {K : PySem.W.Frag} {mg : Str → Option Value} {base : Heap} {x qual : Str} {params : Arguments} {body : List Stmt} {scope : Scope} {dvs : List V} {kws : List (Str × V)} {f : Addr} {fd : FuncData} {N ps : List Str} {k np nN : Nat} {io : Option Nat} {ev : G → M (Fl × G)}
    (Fd : FunD K x qual params body scope dvs kws f fd) (Sc : FnScope N ps scope) (hps : ps.length = np) (hN : N.length = nN)
    (hb : ∀ (cdv : Value) (A : Around) (outer : List Env) (s : Shared) (H : Hp) (W : XK) (R : Fr), R.K = K → (io = none → R.io = []) → Room k (A.deeper (envOfC qual scope s.heap.objs.size f cdv)) → PSs (cxOf (L2.CX P w) P w K mg base N qual scope f cdv A outer s H W) body (TS0_ R W ev)) :
    FnOk P w K mg base (L2.CX P w) (k + 1) f fd ps (spD K io np (runG io nN np ev)) := by
  have hple : ps.length ≤ N.length := by have := congrArg List.length Sc.pre; rw [List.length_take] at this; omega
  refine Fd.ok Sc (fun vs H Q W ⟨F, ds, _, h, _⟩ => by rw [hps]; exact h) fun cdv A outer s H vs Q W hr hsp => ?_
  obtain ⟨F, ds, eF, hn, hA, q⟩ := hsp
  refine ⟨_, hb cdv A outer s H W ⟨K, H, F, ioL io vs⟩ rfl (fun e => by subst e; rfl) hr, ?_⟩
  have hl := argAt_len hA
  unfold runG at q
  obtain ⟨hdl, q1⟩ := ifNone q
  have hg : ent io 0 ds ++ List.replicate (nN - np) none = ent io 0 ds ++ List.replicate (N.length - ds.length) none := by rw [hN, hdl]
  rw [hg] at q1
  have hioA : ∀ p, ioA io vs = some p → ∃ j, (j, p) ∈ ioL io vs := fun p hp => by
    unfold ioA at hp
    cases io with
    | none => cases hp
    | some j =>
      dsimp only at hp
      split at hp
      · rename_i q hq
        cases hp
        exact ⟨j, ioL_of rfl hq⟩
      · cases hp
  refine ⟨_, rel_start (N := N) eF hA (by omega), rfl, wp_mono (wp_bnd q1) (fun (fl, g1) q2 => ?_) fun c hw H' fr => hw H' fun b u h1 h2 => fr b u h1 fun q hq e => ?_⟩
  · dsimp only at q2
    cases ho : outD io g1 with
    | none => rw [ho] at q2; exact q2.elim
    | some o =>
      rw [ho] at q2
      dsimp only at q2
      cases fl with
      | nx => exact fun σ' F' H' _ r' => q2 .non F' H' (post_of hioA r' (At.non) ho)
      | bk => exact q2.elim
      | ct => exact q2.elim
      | rt s => exact fun v σ' F' H' _ r' h => q2 v F' H' (post_of hioA r' h ho)
  · obtain ⟨_, _, h3⟩ := ioL_mem hq
    rw [← e] at h2
    exact h2 h3
section
variable {P : Program} {w : World} {K : PySem.W.Frag} {mg : Str → Option Value} {base : Heap} {st : Ev} {step : Ev → Nat → Fn} {blt exB : Str → Bool}
/-- a def by any reading of its body -/
theorem df_ev0 (M : Md P w K mg st blt exB) {fid nN : Nat} {x qual : Str} {params : Arguments} {body : List Stmt} {scope : Scope} {dvs : List V} {kws : List (Str × V)} {p : Pl} {N : List Str} {ev : Ev → G → Y.M (Fl × G)}
    (Fd : FunD K x qual params body scope dvs kws p.f p.fd) (Sc : FnScope N p.ps scope) (hl : p.ps.length = st.np fid) (hN : N.length = nN)
    (hb : ∀ n, n + (moreOf st fid n).length = st.np fid → ∃ (ds : List Value) (dvs : List V), Binds K p.fd p.ps ds ∧ Vals dvs ds ∧ Paired (At K (fun _ => none)) dvs (moreOf st fid n))
    (hs : ∀ E, step E fid = runG (st.io fid) nN (st.np fid) (ev E))
    (hc : ∀ (a b : Nat → Fn) (k : Nat) (X : Cx) (R : Fr) (W : XK), Bg ⟨mkE st a b, N, blt, exB⟩ k X R W scope (fun _ => true) → R.K = K → (st.io fid = none → R.io = []) → X.stack = X.env :: X.outer → X.env.frame = some X.env.locals → X.ex = [] → PSs X body (TS0_ R W (ev (mkE st a b)))) : Df P w K mg base st step fid p where
  len := hl
  binds := hb
  step := fun k a b L => by
    rw [hs]
    exact fnD0 Fd Sc hl hN fun cdv A outer s H W R hR hio hr => hc a b k _ R W (bg_of M L Sc hR hr) hR hio rfl rfl rfl
end
/-! ### try: one statement; except C as e: return (s1 if isinstance(e, T) else s2, None) -/
def evTry (nN : Nat) (h : Str → Option Str) (ev : G → M (Fl × G)) : G → M (Fl × G) := fun g => match ev g with
  | some (.ok r) => some (.ok r)
  | some (.ex c) => (match h c with
    | some t => some (.ok (.rt ⟨.tup [.str t, .non], .fr, true⟩, List.replicate nN none))
    | none => none)
  | none => none
def TryOk (K : PySem.W.Frag) (C T s1 s2 : Str) (h : Str → Option Str) : Prop := ∀ c t, h c = some t → PySem.W.exmOne K (.ref (He.ga K c)) (.ref (He.ga K C)) = some true ∧ ExcC K (He.ga K c) ∧
  ∃ b, PySem.W.kitOne K (.ref (He.ga K c)) (.ref (He.ga K T)) = some b ∧ t = if b = true then s1 else s2
section
variable {X : Cx} {R : Fr} {W : XK} {st : Stmt} {rest : List Stmt} {ev1 ev2 : G → M (Fl × G)} {q : Q} {k : Nat} {sc : Scope}
/-- the body's background, within the try -/
theorem Bg.tr (b : Bg q k X R W sc (fun _ => true)) {W' : WX} {pn : List (Addr × Obj)} {xe : Value → Shared → Prop} (tk : Takes (X.tr pn xe) W') : Bg q k (X.tr pn xe) R (fun cls d H => ∀ σ : L2.St, σ.length = X.N.length → W' cls d σ H) sc (fun _ => true) where
  hK := b.hK
  hN := b.hN
  nd := b.nd
  calm := b.calm
  room := b.room
  tk := fun u s' ⟨a, B, sI, pins, σ, H, cls, d, e, I, nb, up, sky, na, os, ag, w⟩ => tk u s' ⟨a, B, sI, pins, σ, H, cls, d, e, I, nb, up, sky, na, os, ag, w σ I.len⟩
  L := ⟨b.L.gl, b.L.mt, b.L.ini⟩
  att := b.att
  isi := b.isi
  con := b.con
  kd := b.kd
  blt := b.blt
  cl := b.cl
  exc := b.exc
  hsc := b.hsc
  kind := b.kind
  fn := b.fn
def tsE (K : PySem.W.Frag) (i : Nat) (gT : Addr) (s1 s2 : Str) (a : Addr) (cls : Value) (d : Option Addr) : TS := fun D σ H => ∃ Dd b, cls = Value.ref Dd ∧ d = none ∧ ExcC K Dd ∧ PySem.W.kitOne K (.ref Dd) (.ref gT) = some b ∧ σ[i]? = some (some (.ref a)) ∧
  ∀ p, H p = none → D.rt (.ref p) (upd H p (.tup [.str (if b = true then s1 else s2), .non]))
theorem pss_try {C T s1 s2 n : Str} {i : Nat} {h : Str → Option Str} {np pos pos' p1 p2 p3 p4 p5 p6 p7 p8 p9 p10 : Pos} {j1 j2 j3 k1 : Nat} (b : Bg q k X R W sc (fun _ => true)) (hs : X.stack = X.env :: X.outer) (hf : X.env.frame = some X.env.locals) (hio : R.io = [])
    (hi : q.N[i]? = some n) (hln : isLoc sc n = true) (hno : okN n = true) (hC : glB sc C = true) (hCo : okN C = true) (hCc : q.E.cl C = true) (hT : glB sc T = true) (hTo : okN T = true) (hTc : q.E.cl T = true) (hI : glB sc "isinstance" = true) (hIb : q.blt "isinstance" = true)
    (hbody : ∀ (X' : Cx) (W' : XK), Bg q k X' R W' sc (fun _ => true) → PS X' st (TS_ R W' ev1)) (hrest : PSs X rest (TS_ R W ev2)) (ok : TryOk R.K C T s1 s2 h) :
    PSs X (.Try [st] [.ExceptHandler (some (.Name C np)) (some n) [.Return (some (.Tuple [.IfExp (.Call (.Name "isinstance" p1) [.Name n p2, .Name T p3] [] p4) (.Constant (.str s1) j1 p5) (.Constant (.str s2) j2 p6) p7, .Constant .none j3 p8] k1 p9)) p10] pos'] [] [] pos :: rest) (TS0_ R W (seqM (evTry q.N.length h ev1) ev2)) := by
  have hN : X.N[i]? = some n := by rw [b.hN]; exact hi
  have hlk : X.env.scope.names.lookup n = some .local := by rw [b.hsc]; exact isLoc_ok hln
  obtain ⟨o1, o2, _⟩ := okN_ok hno
  obtain ⟨c1, _, _⟩ := okN_ok hCo
  obtain ⟨t1, _, _⟩ := okN_ok hTo
  have hsu : ∀ (a : Addr) (oe : Obj) (cls : Value) (d : Option Addr) (pn : List (Addr × Obj)), Zc cls d oe → (∃ vs, oe.data = .fields vs) → PSs (X.suite a ((a, oe) :: pn)) [.Return (some (.Tuple [.IfExp (.Call (.Name "isinstance" p1) [.Name n p2, .Name T p3] [] p4) (.Constant (.str s1) j1 p5) (.Constant (.str s2) j2 p6) p7, .Constant .none j3 p8] k1 p9)) p10] (tsE X.K i (He.ga R.K T) s1 s2 a cls d) :=
    fun a oe cls d pn hz hv => ⟨fun pins s σ H D I ⟨Dd, bb, e1, e2, hE, hk, hσ, hrt⟩ => by
      subst e1 e2
      have hvar : PE (X.suite a ((a, oe) :: pn)) (.Name n p2) (tVar i) := pe_var hN (.inl hlk) o1 o2
      have hty : PE (X.suite a ((a, oe) :: pn)) (.Name T p3) (tC (.ref (He.ga R.K T))) := pe_glob (b.gl hT) (b.cl T hTc) rfl t1
      have hcall := pe_callB (pos := p4) (p := p1) (call_isE (pn := pn) hE hz hv) (b.gl hI) (b.blt _ hIb) PyProof.Rows.boot_isinstance (pa_cons hvar (pa_cons hty pa_nil rfl) rfl) (by decide) (by decide) rfl rfl
      refine (pss_one (ps_ret (pe_tup (pa_cons (pe_ifExp (pt_truth hcall (true_ok rfl)) pe_str pe_str) (pa_cons pe_non pa_nil rfl) rfl)))).run pins s σ H D I ?_
      refine ⟨_, hσ, .ref (He.ga R.K T), _, bb, rfl, fun u hu => hu, hk, bb, rfl, ?_⟩
      cases bb with
      | true => exact ⟨by show 2 ≤ sizeLine; decide, fun p hp => hrt p hp⟩
      | false => exact ⟨by show 2 ≤ sizeLine; decide, fun p hp => hrt p hp⟩⟩
  refine PSs.imp (pss_cons (ps_try_as hs hf b.nd hN hlk ⟨b.gl hC, c1, .inl (b.cl C hCc)⟩ b.tk (tb := fun W' => TS_ R (fun cls d H => ∀ σ : L2.St, σ.length = X.N.length → W' cls d σ H) ev1) (fun W' pn xe tk po => pss_one (hbody _ _ (b.tr tk))) hsu) hrest) fun D σ H ⟨g, r, e0, q0⟩ => ?_
  subst e0
  have q1 := wp_bnd q0
  refine ⟨R.F0, g, r, ?_⟩
  unfold evTry at q1
  cases hev : ev1 g with
  | none => rw [hev] at q1; exact q1.elim
  | some o =>
    rw [hev] at q1
    cases o with
    | ok fg =>
      obtain ⟨fl, g1⟩ := fg
      cases fl with
      | nx => exact fun σ' F' H' e r' => ⟨F', g1, r', wp_mono q1 (fun a z => z.on e) fun _ z => z⟩
      | bk => exact q1
      | ct => exact q1
      | rt s => exact q1
    | ex c =>
      dsimp only at q1
      cases hh : h c with
      | none => rw [hh] at q1; exact q1.elim
      | some t =>
        rw [hh] at q1
        obtain ⟨m1, m2, bb, m3, m4⟩ := ok c t hh
        intro H' keep σ' hσ'
        refine ⟨true, by rw [b.hK]; exact m1, fun _ a ha => ⟨_, bb, rfl, rfl, by rw [b.hK]; exact m2, by rw [b.hK]; exact m3, ?_, fun p hp => ?_⟩, fun z => by cases z⟩
        · rw [List.getElem?_set_self]
          rw [hσ']
          exact (List.getElem?_eq_some_iff.mp hN).1
        · have hq : FlC R R.F0 D (.rt ⟨.tup [.str t, .non], .fr, true⟩, List.replicate q.N.length none) := q1
          have gnone : ∀ j s, G.get (List.replicate q.N.length none) j = some s → False := fun j s hj => by
            unfold G.get at hj
            rw [List.getElem?_replicate] at hj
            split at hj <;> cases hj
          have kp : ∀ b o, R.H0 b = some o → H' b = some o := fun b o hb => keep b o hb (by rw [hio]; intro q hq; cases hq)
          have r0 : RelS R R.F0 (List.replicate q.N.length none) (σ'.set i (some (.ref a))) H' := ⟨⟨by rw [List.length_set, List.length_replicate, hσ', b.hN], fun j s hj => (gnone j s hj).elim, fun j1 j2 s1 s2 p hj => (gnone _ _ hj).elim, fun b o hb => kp b o (r.rel.ex b o hb), fun b o hb _ => kp b o hb, fun b hb => by
            obtain ⟨o, ho⟩ := Option.isSome_iff_exists.mp hb
            rw [kp b o ho]; rfl, r.rel.ios, by rw [hio]; intro q hq; cases hq⟩, Same.refl _, fun b hb _ => hb⟩
          obtain ⟨f0, h0, no⟩ := r0.rel.fresh hp
          have r1 := (r0.alloc (o := .tup [.str t, .non]) hp).freeze f0 upd_same no h0
          have := hq (.ref p) _ _ _ (same_upd f0) r1 (by
            show At R.K (FN R.H0 _ true) (.ref p) (.tup [.str t, .non])
            exact .tup (by rw [FN_new h0]; exact upd_same) (.cons (.str t) (.cons .non .nil)))
          rw [m4] at this
          exact this
end
end Y
set_option Elab.async false
set_option linter.all false
set_option maxRecDepth 100000
set_option maxHeartbeats 4000000
namespace Y
open PySem PySem.Spec PyProof.Rows L2
/-! ### a thing made anew, then emptied within: it is forgotten -/
def keepAux (atm : Bool) (P : Nat → Bool) : Nat → G → G
  | _, [] => []
  | j, o :: g => (if P j then (match o with
    | some ⟨d, .fr, n⟩ => some ⟨d, .fr, if atm then d.atom else n⟩
    | _ => none) else none) :: keepAux atm P (j + 1) g
theorem keepAux_len (a : Bool) (P : Nat → Bool) : ∀ (j : Nat) (g : G), (keepAux a P j g).length = g.length
  | _, [] => rfl
  | j, o :: g => by unfold keepAux; rw [List.length_cons, List.length_cons, keepAux_len]
theorem keepAux_get {a : Bool} {P : Nat → Bool} : ∀ {j : Nat} {g : G} {i : Nat} {s : Sl}, G.get (keepAux a P j g) i = some s → P (j + i) = true ∧ ∃ s0, g.get i = some s0 ∧ s0.m = .fr ∧ s = ⟨s0.d, .fr, if a then s0.d.atom else s0.n⟩
  | j, [], i, s, h => by simp [keepAux, G.get] at h
  | j, o :: g, 0, s, h => by
    unfold keepAux G.get at h
    simp only [List.getElem?_cons_zero, Option.join] at h
    by_cases hp : P j = true
    · rw [if_pos hp] at h
      cases o with
      | none => cases h
      | some t =>
        obtain ⟨d, m, n⟩ := t
        cases m with
        | fr => cases h; exact ⟨hp, ⟨d, .fr, n⟩, rfl, rfl, rfl⟩
        | ow => cases h
        | io => cases h
    · rw [if_neg hp] at h; cases h
  | j, o :: g, i + 1, s, h => by
    have h' : G.get (keepAux a P (j + 1) g) i = some s := by
      unfold keepAux G.get at h
      simp only [List.getElem?_cons_succ] at h
      exact h
    obtain ⟨h1, s0, h2, h3, h4⟩ := keepAux_get h'
    refine ⟨by rw [← h1]; congr 1; omega, s0, ?_, h3, h4⟩
    unfold G.get at h2 ⊢
    simpa using h2
theorem relFr {R : Fr} (hio : R.io = []) {F H : Hp} {g : G} {σ : L2.St} (hl : σ.length = g.length) (hfr : ∀ i s, g.get i = some s → s.m = .fr ∧ ∃ v, σ[i]? = some (some v) ∧ At R.K (FN R.H0 F s.n) v s.d) (ex : Same F H) (keep : ∀ b o, R.H0 b = some o → H b = some o) (exF : Same R.F0 F)
    (nF : ∀ b, R.F0 b = none → (R.H0 b).isSome = true → F b = none) : RelS R F g σ H := by
  refine ⟨⟨hl, fun i s hi => ?_, fun i j s t p hi hj hs => absurd (hfr i s hi).1 hs, ex, fun b o h _ => keep b o h, fun b h => ?_, fun q hq => by (rw [hio] at hq; cases hq), fun q hq => by (rw [hio] at hq; cases hq)⟩, exF, nF⟩
  · obtain ⟨h1, v, h2, h3⟩ := hfr i s hi
    refine ⟨v, h2, ?_⟩
    obtain ⟨d, m, n⟩ := s
    cases (show m = .fr from h1)
    exact h3
  · obtain ⟨o, ho⟩ := Option.isSome_iff_exists.mp h
    rw [keep b o ho]; rfl
def evClear (E : Ev) (iF iA : Nat) (cMk cCond cPath : C) : G → M (Fl × G) := fun g =>
  match evE E cMk (keepAux true (fun j => decide (j ≠ iF) && decide (j ≠ iA)) 0 g) with
  | some (.ok (s1, g1)) => (match setSlot g1 iF s1 with
    | some gL => if notIo gL iA = true ∧ iA < g.length ∧ iA ≠ iF then (match tst cCond (evE E cCond) (gL.set iA none) with
      | some (.ok (false, g2)) => (match evE E cPath g2 with
        | some (.ok (⟨.lst _, .fr, true⟩, _)) => some (.ok (.nx, keepAux false (fun j => decide (j ≠ iF) && decide (j ≠ iA)) 0 g))
        | _ => none)
      | _ => none) else none
    | none => none)
  | _ => none
section
variable {X : Cx} {R : Fr} {W : XK} {E : Ev} {rest : List Stmt} {ev2 : G → M (Fl × G)} {iF iA : Nat} {cMk cCond cPath : C}
theorem pss_clear {nF nA : Str} {eMk eMk2 eCond ePath : Expr} {m : Int} {j1 : Nat} {sts : List Stmt} {p1 p2 p3 p4 p5 p6 p9 p10 p11 p12 p13 p14 p15 : Pos} (hio : R.io = []) (hK : X.K = R.K) (hc : X.calm = true) (hm1 : -(2 ^ 62) ≤ m) (hm2 : m < 2 ^ 62)
    (hMk : ∀ R' : Fr, R'.K = R.K → PE X eMk (TE_ R' W (evE E cMk))) (hMk2 : ∀ R' : Fr, R'.K = R.K → PE X.nox eMk2 (TE_ R' WF (evE E cMk))) (hCond : ∀ R' : Fr, R'.K = R.K → PT X.nox eCond (TT_ R' WF (tst cCond (evE E cCond)))) (hPath : ∀ R' : Fr, R'.K = R.K → PE X.nox ePath (TE_ R' WF (evE E cPath)))
    (hN : X.N.Nodup) (hiF : X.N[iF]? = some nF) (hlF : Loc X.env.scope nF) (hfF : X.fn nF = true ∨ X.env.scope.names.lookup nF = some .local) (hgA : PG X.nox (.Name nA p3) (gName iA)) (hgr : Gl X "range") (hmr : X.mg "range" = none)
    (hs1 : notComp eMk = true) (hs2 : notComp eMk2 = true) (hbase : attributeBase ePath "clear" X.env (eval ePath X.env) = eval ePath X.env) (hline : (p10.endLine == p11.line) = true) (hr : PSs X rest (TS_ R W ev2)) :
    PSs X (.Assign [.Name nF p1] eMk p2 :: .For (.Name nA p3) (.Call (.Name "range" p4) [.Constant (.int m) j1 p5] [] p6) [.If eCond sts [] p9, .Expr (.Call (.Attribute ePath "clear" p10) [] [] p11) p12, .Assign [.Name nF p13] eMk2 p14] [] p15 :: rest) (TS_ R W (seqM (evClear E iF iA cMk cCond cPath) ev2)) := by
  have e1 : PE X eMk (fun σ H Q => ∃ R' : Fr, R'.K = R.K ∧ TE_ R' W (evE E cMk) σ H Q) := ⟨fun pins s σ H Q I ⟨R', hR, q⟩ => (hMk R' hR).run pins s σ H Q I q⟩
  have e2 : PE X.nox eMk2 (fun σ H Q => ∃ R' : Fr, R'.K = R.K ∧ TE_ R' WF (evE E cMk) σ H Q) := ⟨fun pins s σ H Q I ⟨R', hR, q⟩ => (hMk2 R' hR).run pins s σ H Q I q⟩
  have e3 : PT X.nox eCond (fun σ H Q => ∃ R' : Fr, R'.K = R.K ∧ TT_ R' WF (tst cCond (evE E cCond)) σ H Q) := ⟨fun pins s σ H Q I ⟨R', hR, q⟩ => (hCond R' hR).run pins s σ H Q I q⟩
  have e4 : PE X.nox ePath (fun σ H Q => ∃ R' : Fr, R'.K = R.K ∧ TE_ R' WF (evE E cPath) σ H Q) := ⟨fun pins s σ H Q I ⟨R', hR, q⟩ => (hPath R' hR).run pins s σ H Q I q⟩
  have body := pss_cons (ps_if (pos := p9) e3 (pss_never (sts := sts)) pss_nil) (pss_cons (ps_expr (pos := p12) (pe_bm0 PySem.F.plainAttrs_list PySem.F.slot_list_clear PySem.F.type_list_clear ((fun pins s σ H x xs v us Q I rx rv h => mt_clear pins s σ H x xs v us Q I rx rv h) : MtR X.nox "list.clear" rClear) e4 hbase hline) (sw_ok rfl)) (pss_one (ps_set (pos := p14) (pos' := p13) (X := X.nox) hN hiF hlF e2 (sw_ok hs2) hfF)))
  refine PSs.imp (pss_cons (ps_set (pos := p2) (pos' := p1) hN hiF hlF e1 (sw_ok hs1) hfF) (pss_cons (PS.nox (ps_for (pos := p15) PassesOwn.never hc (pi_range1 (p := p4) (pos := p6) hgr hmr (pa_cons pe_int pa_nil rfl) rfl) hgA body (fun _ => rfl))) hr)) fun D σ H ⟨F, g, r, q⟩ => ?_
  have q0 := wp_bnd q
  unfold evClear at q0
  cases hev : evE E cMk (keepAux true (fun j => decide (j ≠ iF) && decide (j ≠ iA)) 0 g) with
  | none => rw [hev] at q0; exact q0.elim
  | some o =>
    rw [hev] at q0
    cases o with
    | ex c => exact q0.elim
    | ok sg =>
      obtain ⟨s1, g1⟩ := sg
      dsimp only at q0
      cases hset : setSlot g1 iF s1 with
      | none => rw [hset] at q0; exact q0.elim
      | some gL =>
        rw [hset] at q0
        obtain ⟨⟨hni, hlA, hAF⟩, q1⟩ := ifNone q0
        split at q1
        · rename_i g2 hcond
          split at q1
          · rename_i ds g3 hpath
            have q2 : wp (ev2 (keepAux false (fun j => decide (j ≠ iF) && decide (j ≠ iA)) 0 g)) (FlC R F D) (ExW R W) := q1
            have rl := r.rel
            -- the frame from here on
            let R' : Fr := ⟨R.K, H, F, []⟩
            have good : ∀ (σ' : L2.St) (H' : Hp), σ'.length = σ.length → (∀ j, j ≠ iF → j ≠ iA → σ'[j]? = σ[j]?) → (∀ b o, H b = some o → H' b = some o) → RelS R' F (keepAux true (fun j => decide (j ≠ iF) && decide (j ≠ iA)) 0 g) σ' H' := fun σ' H' hl hj hk => by
              refine relFr rfl (by rw [keepAux_len, hl]; exact rl.len) (fun i s hi => ?_) (fun b o h => hk b o (rl.ex b o h)) hk (Same.refl F) fun b h _ => h
              obtain ⟨hp, s0, h1, h2, h3⟩ := keepAux_get hi
              simp only [Nat.zero_add, Bool.and_eq_true, decide_eq_true_eq] at hp
              obtain ⟨v, h4, h5⟩ := rl.at_ i s0 h1
              subst h3
              obtain ⟨d0, m0, n0⟩ := s0
              cases (show m0 = .fr from h2)
              refine ⟨rfl, v, by rw [hj i hp.1 hp.2]; exact h4, ?_⟩
              show At R.K (FN H F d0.atom) v d0
              have h6 : At R.K F v d0 := At.mono FN_le _ _ h5
              cases ha : d0.atom with
              | true => exact h6.atom ha
              | false => rw [FN_false]; exact h6
            have mk : ∀ (Wx : XK) (σ' : L2.St) (H' : Hp) (Q : VK), σ'.length = σ.length → (∀ j, j ≠ iF → j ≠ iA → σ'[j]? = σ[j]?) → (∀ b o, H b = some o → H' b = some o) →
                (∀ v H1 F1, RelS R' F1 gL (σ'.set iF (some v)) H1 → Q v H1) → TE_ R' Wx (evE E cMk) σ' H' Q := fun Wx σ' H' Q hl hj hk k => by
              have rg := good σ' H' hl hj hk
              refine ⟨F, _, rg.rel, ?_⟩
              rw [hev]
              exact fun v F1 H1 r1 st1 hres => k v H1 F1 ((rg.step r1 st1).set hset (hres.base rg.rel)).1
            refine ⟨R', rfl, mk W σ H _ rfl (fun _ _ _ => rfl) (fun _ _ h => h) fun v H1 F1 rs1 => ?_⟩
            refine ⟨m, rfl, hm1, hm2, ?_⟩
            refine for_range (lo := 0) (n := m.toNat) (fun i σ' H' => σ'.length = σ.length ∧ (∀ j, j ≠ iF → j ≠ iA → σ'[j]? = σ[j]?) ∧ ∃ F1, RelS R' F1 gL σ' H') ?_ ?_ ?_
            · exact ⟨List.length_set, fun j h1 _ => List.getElem?_set_ne (Ne.symm h1), F1, rs1⟩
            · rintro i σ' H' _ ⟨hl, hj, F2, r2⟩
              have r3 : RelS R' F2 (gL.set iA none) (σ'.set iA (some (.int (0 + (i : Int))))) H' := r2.drop List.length_set (fun j h => List.getElem?_set_ne (Ne.symm h)) fun t ht hm => by
                unfold notIo at hni
                rw [ht] at hni
                obtain ⟨td, tm, tn⟩ := t
                cases (show tm = .io from hm)
                cases hni
              refine ⟨R', rfl, F2, _, r3.rel, ?_⟩
              rw [hcond]
              intro F3 H3 rr3 st3
              have r4 := r3.step rr3 st3
              refine ⟨R', rfl, F3, g2, r4.rel, ?_⟩
              rw [hpath]
              intro w F4 H4 rr5 st5 hres
              have r5 := r4.step rr5 st5
              have hat : At R.K (FN H F4 true) w (.lst ds) := hres
              cases hat with
              | lst hq hvs =>
                rename_i qa vs
                have hq0 : H qa = none ∧ F4 qa = some (.lst vs) := by
                  unfold FN at hq
                  split at hq
                  · cases hq
                  · rename_i hn
                    refine ⟨?_, hq⟩
                    cases hh : H qa with
                    | none => rfl
                    | some _ => exact absurd ⟨rfl, by rw [hh]; rfl⟩ hn
                have hH4 : H4 qa = some (.lst vs) := r5.rel.ex _ _ hq0.2
                have hj2 : ∀ j, j ≠ iF → j ≠ iA → (σ'.set iA (some (.int (0 + (i : Int)))))[j]? = σ[j]? := fun j h1 h2 => by
                  rw [List.getElem?_set_ne (Ne.symm h2)]
                  exact hj j h1 h2
                have hl2 : (σ'.set iA (some (.int (0 + (i : Int))))).length = σ.length := by rw [List.length_set]; exact hl
                refine ⟨.inl ⟨rfl, _, SqL.of hH4⟩, qa, vs, rfl, rfl, hH4, R', rfl, mk WF _ _ _ hl2 hj2 (fun b o hb => ?_) fun v5 H5 F5 r6 => ?_⟩
                · have hne : b ≠ qa := fun e => by rw [e, hq0.1] at hb; cases hb
                  rw [upd_ne hne]
                  exact r5.rel.keep b o hb fun q' hq' => by cases hq'
                · refine ⟨by rw [List.length_set]; exact hl2, fun j h1 h2 => ?_, F5, r6⟩
                  rw [List.getElem?_set_ne (Ne.symm h1)]
                  exact hj2 j h1 h2
            · rintro σ' H' ⟨hl, hj, F2, r2⟩
              have hk : ∀ b o, H b = some o → H' b = some o := fun b o hb => r2.rel.keep b o hb fun q' hq' => by cases hq'
              refine ⟨F, _, ?_, wp_mono q2 (fun a z => z) fun _ z => z⟩
              refine relFr hio (by rw [keepAux_len, hl]; exact rl.len) (fun i s hi => ?_) (fun b o h => hk b o (rl.ex b o h)) (fun b o h => hk b o (rl.keep b o h fun q' hq' => by rw [hio] at hq'; cases hq')) r.exF r.nF
              obtain ⟨hp, s0, h1, h2, h3⟩ := keepAux_get hi
              simp only [Nat.zero_add, Bool.and_eq_true, decide_eq_true_eq] at hp
              obtain ⟨v, h4, h5⟩ := rl.at_ i s0 h1
              subst h3
              obtain ⟨d0, m0, n0⟩ := s0
              cases (show m0 = .fr from h2)
              exact ⟨rfl, v, by rw [hj i hp.1 hp.2]; exact h4, h5⟩
          · exact q1.elim
        · exact q1.elim
end
end Y
set_option Elab.async false
set_option linter.all false
set_option maxRecDepth 100000
set_option maxHeartbeats 4000000
namespace Y
open PySem PySem.Spec PyProof.Rows L2
/-! ### the module's facts from K, by tables -/
def clB (K : PySem.W.Frag) (c : Str) : Bool := (He.Fa.cls c).ok K && decide (PySem.W.findIn K (.ref (He.ga K c)) "__class__" = some (some (.builtin "object.__class__"))) &&
  decide (PySem.W.specialIn K (.builtin "object.__class__") "__get__" = some (some (.builtin "getset_descriptor.__get__"))) && decide (PySem.W.takesIn K (.builtin "object.__class__") = some true) && decide (PySem.W.mroIn K (He.ga K c) (.type "object") = some true)
def isiB (K : PySem.W.Frag) (p : Sum String Str × Ty × Bool) : Bool := decide (PySem.W.kitOne K (tyV' K p.1) (p.2.1.u K) = some p.2.2) && (match p.1 with | .inr c => clB K c | .inl _ => true)
def conB (K : PySem.W.Frag) (p : Str × D) : Bool := match p.2 with
  | .int i => (He.Fa.int p.1 i).ok K
  | .str z => (He.Fa.str p.1 z).ok K
  | _ => false
def strsB (l : List Value) (ss : List Str) : Bool := all2 (fun v s => match v with | .str x _ => decide (x = s) | _ => false) l ss
def tupStrB (K : PySem.W.Frag) (b : Addr) (ss : List Str) : Bool := match K.lookup b with
  | some ⟨c, _, .seq its _, _⟩ => decide (c = .type "tuple") && decide (its.size ≤ 1000) && strsB its.toList ss
  | _ => false
def kvB (K : PySem.W.Frag) (a : Addr) (p : Str × List Str) : Bool := match PySem.W.nsIn K a p.1 with
  | some (some (.ref b)) => tupStrB K b p.2
  | _ => false
def keysB (K : PySem.W.Frag) (a : Addr) (ks : List Str) : Bool := match K.lookup a with
  | some ⟨_, _, .dict es _, _⟩ => all2 (fun (e : DictEntry) k => match e.key with | .str x _ => decide (x = k) | _ => false) es.toList ks
  | _ => false
structure Tabs where
  glT : List (Str × Nat)
  mtT : List ((Str × Str) × Nat)
  iniT : List (Str × Nat)
  conT : List (Str × D)
  attT : List (Str × Str)
  kdT : List (Str × List (Str × List Str))
  isiT : List (Sum String Str × Ty × Bool)
  clT : List Str
  tab : List (Nat × Option Nat × List D)
  exT : List Str
  bltT : List Str
def Tabs.st (t : Tabs) : Ev := stOf t.glT t.mtT t.iniT t.conT t.attT t.kdT t.isiT t.clT t.tab
def Tabs.ok (t : Tabs) (K : PySem.W.Frag) : Bool :=
  (t.glT.all fun p => (He.Fa.glo p.1).ok K && (He.Fa.keep p.1).ok K) && (t.mtT.all fun p => (He.Fa.cls p.1.1).ok K && (He.Fa.meth p.1.1 p.1.2).ok K) && (t.iniT.all fun p => (He.Fa.glo p.1).ok K && (He.Fa.mkr p.1).ok K) &&
  (t.conT.all fun p => conB K p) && (t.attT.all fun p => (He.Fa.cls p.1).ok K && (He.Fa.noat p.1 p.2).ok K) && (t.isiT.all fun p => isiB K p) && (t.clT.all fun c => (He.Fa.glo c).ok K) && (t.exT.all fun c => (He.Fa.glo c).ok K && (He.Fa.exc c).ok K && okN c) &&
  (t.bltT.all fun x => (He.Fa.free x).ok K) && (t.kdT.all fun p => (He.Fa.glo p.1).ok K && keysB K (He.ga K p.1) (p.2.map (·.1)) && p.2.all fun kv => kvB K (He.ga K p.1) kv)
def Tabs.blt (t : Tabs) (x : Str) : Bool := t.bltT.contains x
def Tabs.exB (t : Tabs) (x : Str) : Bool := t.exT.contains x
theorem lookS_mem {α : Type} {l : List (Str × α)} {x : Str} {a : α} (h : lookS l x = some a) : (x, a) ∈ l := by
  unfold lookS at h
  cases q : l.find? (fun p => decide (p.1 = x)) with
  | none => rw [q] at h; cases h
  | some p =>
    rw [q] at h
    cases h
    have h1 := List.mem_of_find?_eq_some q
    have h2 := List.find?_some q
    have e : p.1 = x := of_decide_eq_true h2
    subst e
    exact h1
theorem strsB_ok : ∀ {l : List Value} {ss : List Str}, strsB l ss = true → Vals (ss.map V.str) l
  | [], [], _ => .nil
  | v :: l, s :: ss, h => by
    unfold strsB all2 at h
    rw [Bool.and_eq_true] at h
    obtain ⟨h1, h2⟩ := h
    refine .cons ?_ (strsB_ok h2)
    split at h1
    · rename_i x t
      cases of_decide_eq_true h1
      exact ⟨t, rfl⟩
    · cases h1
  | [], _ :: _, h => by cases h
  | _ :: _, [], h => by cases h
theorem tupStrB_ok {K : PySem.W.Frag} {b : Addr} {ss : List Str} (h : tupStrB K b ss = true) : SqT K (fun _ => none) b (ss.map V.str) := by
  unfold tupStrB at h
  split at h
  · rename_i c od its n osl hl
    simp only [Bool.and_eq_true, decide_eq_true_eq] at h
    obtain ⟨⟨rfl, h2⟩, h3⟩ := h
    exact .inr ⟨_, its, n, hl, rfl, rfl, Nat.le_trans h2 (by decide), strsB_ok h3⟩
  · cases h
theorem keys_find {es : List DictEntry} {ks : List Str} {z : Str} (h : all2 (fun (e : DictEntry) k => match e.key with | .str x _ => decide (x = k) | _ => false) es ks = true) (hz : z ∉ ks) : es.find? (·.key.isStr z) = none ∧ es.any (·.refKey) = false := by
  induction es generalizing ks with
  | nil => exact ⟨rfl, rfl⟩
  | cons e es ih =>
    cases ks with
    | nil => cases h
    | cons k ks =>
      unfold all2 at h
      rw [Bool.and_eq_true] at h
      obtain ⟨h1, h2⟩ := h
      obtain ⟨i1, i2⟩ := ih h2 fun m => hz (List.mem_cons_of_mem _ m)
      split at h1
      · rename_i x t hk
        have e1 : x = k := of_decide_eq_true h1
        subst e1
        have hne : ¬ x = z := fun e => hz (by rw [← e]; exact List.mem_cons_self)
        refine ⟨?_, ?_⟩
        · rw [List.find?_cons]
          have : e.key.isStr z = false := by
            rw [hk]
            simp [Value.isStr, hne]
          rw [this]
          exact i1
        · rw [List.any_cons, i2]
          unfold DictEntry.refKey
          rw [hk]
          rfl
      · cases h1
theorem lookup_mem {α β : Type} [BEq α] [LawfulBEq α] {l : List (α × β)} {x : α} {b : β} (h : l.lookup x = some b) : (x, b) ∈ l := by
  induction l with
  | nil => cases h
  | cons p l ih =>
    obtain ⟨a, c⟩ := p
    rw [List.lookup_cons] at h
    split at h
    · rename_i he
      cases h
      rw [eq_of_beq he]
      exact List.mem_cons_self
    · exact List.mem_cons_of_mem _ (ih h)
theorem lookup_none_mem {α β : Type} [BEq α] [LawfulBEq α] {l : List (α × β)} {x : α} (h : l.lookup x = none) : x ∉ l.map (·.1) := by
  induction l with
  | nil => simp
  | cons p l ih =>
    obtain ⟨a, c⟩ := p
    rw [List.lookup_cons] at h
    split at h
    · cases h
    · rename_i he
      intro hm
      rcases List.mem_cons.mp hm with z | z
      · rw [z] at he
        simp at he
      · exact ih h z
section
variable {P : Program} {w : World} {K : PySem.W.Frag} {mg : Str → Option Value} {h : Heap} {t : Tabs}
theorem eqA_ok {a b : Sum String Str} (h : eqA a b = true) : a = b := by
  unfold eqA at h
  split at h
  · rw [eq_of_beq h]
  · rw [of_decide_eq_true h]
  · cases h
theorem eqT_ok {a b : Ty} (h : eqT a b = true) : a = b := by
  unfold eqT at h
  split at h
  · rw [eq_of_beq h]
  · rw [of_decide_eq_true h]
  · cases h
theorem md_of (hK : K.In h) (G : h.Ns mainGlobals mg) (ok : t.ok K = true) (tb : ∀ p ∈ t.kdT, ∃ es n, KDict K w (He.ga K p.1) es n) : Md P w K mg t.st t.blt t.exB := by
  unfold Tabs.ok at ok
  simp only [Bool.and_eq_true, List.all_eq_true] at ok
  obtain ⟨⟨⟨⟨⟨⟨⟨⟨⟨hgl, hmt⟩, hini⟩, hcon⟩, hatt⟩, hisi⟩, hcl⟩, hex⟩, hblt⟩, hkd⟩ := ok
  refine ⟨fun c f hc => ?_, ⟨fun a ty b e => ?_, fun c ty b e => ?_⟩, fun x d e => ?_, fun x kvs e => ?_, fun x hx => ?_, fun c hc => ?_, fun c hc X hXK hXm m j p p2 pos hg => ?_⟩
  · obtain ⟨p, hp, h1⟩ := List.any_eq_true.mp hc
    simp only [Bool.and_eq_true, decide_eq_true_eq] at h1
    obtain ⟨rfl, rfl⟩ := h1
    obtain ⟨a1, a2⟩ := hatt p hp
    exact ⟨He.cls_ok a1, He.noat_ok a2⟩
  · have e' : (t.isiT.find? fun p => eqA p.1 a && eqT p.2.1 ty).map (·.2.2) = some b := e
    cases q : t.isiT.find? (fun p => eqA p.1 a && eqT p.2.1 ty) with
    | none => rw [q] at e'; cases e'
    | some p =>
      rw [q] at e'
      cases e'
      have h1 := List.mem_of_find?_eq_some q
      have h2 := List.find?_some q
      rw [Bool.and_eq_true] at h2
      have h3 := hisi p h1
      unfold isiB at h3
      rw [Bool.and_eq_true, decide_eq_true_eq] at h3
      rw [← eqA_ok h2.1, ← eqT_ok h2.2]
      exact h3.1
  · have e' : (t.isiT.find? fun p => eqA p.1 (.inr c) && eqT p.2.1 ty).map (·.2.2) = some b := e
    cases q : t.isiT.find? (fun p => eqA p.1 (.inr c) && eqT p.2.1 ty) with
    | none => rw [q] at e'; cases e'
    | some p =>
      have h1 := List.mem_of_find?_eq_some q
      have h2 := List.find?_some q
      rw [Bool.and_eq_true] at h2
      have h3 := hisi p h1
      unfold isiB at h3
      rw [Bool.and_eq_true] at h3
      have ea : p.1 = .inr c := eqA_ok h2.1
      have h4 := h3.2
      rw [ea] at h4
      unfold clB at h4
      simp only [Bool.and_eq_true, decide_eq_true_eq] at h4
      obtain ⟨⟨⟨⟨b1, b2⟩, b3⟩, b4⟩, b5⟩ := h4
      exact ⟨He.cls_ok b1, b2, b3, b4, b5⟩
  · have h1 := hcon _ (lookS_mem e)
    unfold conB at h1
    cases d with
    | int i =>
      obtain ⟨tk, h2⟩ := He.int_ok hK G h1
      exact ⟨_, .int i, h2, ⟨tk, rfl⟩, .int i⟩
    | str z =>
      obtain ⟨tk, h2⟩ := He.str_ok hK G h1
      exact ⟨_, .str z, h2, ⟨tk, rfl⟩, .str z⟩
    | _ => cases h1
  · have hm := lookS_mem e
    obtain ⟨⟨k1, k2⟩, k3⟩ := hkd _ hm
    refine ⟨He.glo_ok hK G k1, tb _ hm, fun z => ?_⟩
    cases hl : kvs.lookup z with
    | some ss =>
      dsimp only
      have h1 := k3 _ (lookup_mem hl)
      unfold kvB at h1
      dsimp only at h1
      split at h1
      · rename_i b hb
        exact ⟨b, hb, tupStrB_ok h1⟩
      · cases h1
    | none =>
      dsimp only
      have h1 := lookup_none_mem hl
      dsimp only at k2
      unfold keysB at k2
      unfold PySem.W.nsIn
      split at k2
      · rename_i es n osl hlk
        obtain ⟨f1, f2⟩ := keys_find k2 h1
        rw [hlk]
        dsimp only
        rw [f1]
        dsimp only
        rw [f2]
        rfl
      · cases k2
  · exact He.free_ok hK G (hblt x (List.contains_iff_mem.mp hx))
  · obtain ⟨y, hy, h1⟩ := List.any_eq_true.mp hc
    have e : y = c := of_decide_eq_true h1
    subst e
    exact He.glo_ok hK G (hcl y hy)
  · obtain ⟨⟨a1, a2⟩, a3⟩ := hex c (List.contains_iff_mem.mp hc)
    obtain ⟨b1, b2, b3, b4⟩ := He.exc_ok a2
    subst hXK
    exact pmk_own PySem.F.excBase_ValueError b1 (by rw [hXm]; exact He.glo_ok hK G a1) b2 (raises_own b3 b4) hg (okN_ok a3).1
end
end Y
set_option Elab.async false
set_option linter.all false
set_option maxRecDepth 100000
set_option maxHeartbeats 4000000
namespace Y
open PySem PySem.Spec PyProof.Rows L2
section
variable {P : Program} {w : World} {K : PySem.W.Frag} {mg : Str → Option Value} {h : Heap} {t : Tabs} {used : Nat → Bool} {pl : Nat → Pl}
theorem nm_of (hK : K.In h) (G : h.Ns mainGlobals mg) (ok : t.ok K = true) (h1 : ∀ p ∈ t.glT, used p.2 = true ∧ (pl p.2).f = He.ga K p.1) (h2 : ∀ p ∈ t.mtT, used p.2 = true ∧ (pl p.2).f = He.ma K (He.ga K p.1.1) p.1.2)
    (h3 : ∀ p ∈ t.iniT, used p.2 = true ∧ (pl p.2).f = He.ma K (He.ga K p.1) "__init__") : Nm K mg t.st used pl := by
  unfold Tabs.ok at ok
  simp only [Bool.and_eq_true, List.all_eq_true] at ok
  obtain ⟨⟨⟨⟨⟨⟨⟨⟨⟨hgl, hmt⟩, hini⟩, hcon⟩, hatt⟩, hisi⟩, hcl⟩, hex⟩, hblt⟩, hkd⟩ := ok
  refine ⟨fun x fid e => ?_, fun c m fid e => ?_, fun c fid e => ?_⟩
  · have hm := lookS_mem e
    obtain ⟨a1, a2⟩ := hgl _ hm
    obtain ⟨u1, u2⟩ := h1 _ hm
    dsimp only at u1 u2 a1 a2
    refine ⟨u1, ?_, ?_⟩
    · rw [u2]; exact He.glo_ok hK G a1
    · rw [u2]; exact He.keep_ok a2
  · have e' : (t.mtT.find? fun p => decide (p.1.1 = c) && decide (p.1.2 = m)).map (·.2) = some fid := e
    cases q : t.mtT.find? (fun p => decide (p.1.1 = c) && decide (p.1.2 = m)) with
    | none => rw [q] at e'; cases e'
    | some p =>
      rw [q] at e'
      cases e'
      have m1 := List.mem_of_find?_eq_some q
      have m2 := List.find?_some q
      simp only [Bool.and_eq_true, decide_eq_true_eq] at m2
      obtain ⟨rfl, rfl⟩ := m2
      obtain ⟨a1, a2⟩ := hmt _ m1
      obtain ⟨u1, u2⟩ := h2 _ m1
      refine ⟨u1, He.cls_ok a1, ?_⟩
      rw [u2]
      exact He.meth_ok a2
  · have hm := lookS_mem e
    obtain ⟨a1, a2⟩ := hini _ hm
    obtain ⟨u1, u2⟩ := h3 _ hm
    dsimp only at u1 u2 a1 a2
    refine ⟨u1, He.glo_ok hK G a1, ?_⟩
    rw [u2]
    exact He.mkr_ok a2
end
/-- a def's scope -/
def fnScB (N Ps : List Str) (sc : Scope) : Bool := isFn sc && !sc.isCoroutine && !sc.isGenerator && decide N.Nodup && decide (N.take Ps.length = Ps) && (Ps.all fun x => locB sc x) && (sc.names.all fun y => match y.2 with | .free => false | _ => true)
theorem fnScB_ok {N Ps : List Str} {sc : Scope} (h : fnScB N Ps sc = true) : FnScope N Ps sc := by
  unfold fnScB at h
  simp only [Bool.and_eq_true, Bool.not_eq_true', decide_eq_true_eq, List.all_eq_true] at h
  obtain ⟨⟨⟨⟨⟨⟨h1, h2⟩, h3⟩, h4⟩, h5⟩, h6⟩, h7⟩ := h
  refine ⟨isFn_ok h1, h2, h3, h4, h5, fun x hx => locB_ok (h6 x hx), fun y hy e => ?_⟩
  have := h7 y hy
  rw [e] at this
  cases this
/-- a def without defaults: how its parameters are bound -/
theorem binds0 {K : PySem.W.Frag} {st : Ev} {fid : Nat} {x qual : Str} {params : Arguments} {body : List Stmt} {scope : Scope} {kws : List (Str × V)} {f : Addr} {fd : FuncData} {ps : List Str} (F : FunD K x qual params body scope [] kws f fd) (hd : st.dfl fid = [])
    (h : ∀ (kV doc pm : Value) (an : Option Addr) (cdv ct : Value) (us : List Value), us.length = ps.length → bindArgs (PySem.W.fnOf x qual params body scope .none kV doc pm an cdv ct) ⟨us, []⟩ = pure (ps.zip us)) :
    ∀ n, n + (moreOf st fid n).length = st.np fid → ∃ (ds : List Value) (dvs : List V), Binds K fd ps ds ∧ Vals dvs ds ∧ Paired (At K (fun _ => none)) dvs (moreOf st fid n) := fun n hn => by
  have e : moreOf st fid n = [] := by
    unfold moreOf
    rw [hd]
    simp
  rw [e]
  exact ⟨[], [], F.bindsN h, .nil, .nil⟩
/-- the one default there is: n or n + 1 arguments -/
theorem binds1d {K : PySem.W.Frag} {st : Ev} {fid m : Nat} {i : Int} {x qual : Str} {params : Arguments} {body : List Stmt} {scope : Scope} {kws : List (Str × V)} {f : Addr} {fd : FuncData} {ps : List Str} (F : FunD K x qual params body scope [.int i] kws f fd) (hd : st.dfl fid = [.int i]) (hnp : st.np fid = m + 1) (hps : ps.length = m + 1)
    (h1 : ∀ (T : Addr) (kV doc pm : Value) (an : Option Addr) (cdv ct : Value) (us its : List Value), us.length = m → its.length = 1 →
      ∃ k, bindArgs (PySem.W.fnOf x qual params body scope (.ref T) kV doc pm an cdv ct) ⟨us, []⟩ = seqItems? (.ref T) >>= k ∧ k (some its.toArray) = pure (ps.zip (us ++ its.drop 0)))
    (h2 : ∀ (T : Addr) (kV doc pm : Value) (an : Option Addr) (cdv ct : Value) (us its : List Value), us.length = m + 1 → its.length = 1 →
      ∃ k, bindArgs (PySem.W.fnOf x qual params body scope (.ref T) kV doc pm an cdv ct) ⟨us, []⟩ = seqItems? (.ref T) >>= k ∧ k (some its.toArray) = pure (ps.zip (us ++ its.drop 1))) :
    ∀ n, n + (moreOf st fid n).length = st.np fid → ∃ (ds : List Value) (dvs : List V), Binds K fd ps ds ∧ Vals dvs ds ∧ Paired (At K (fun _ => none)) dvs (moreOf st fid n) := fun n hn => by
  unfold moreOf at hn ⊢
  rw [hd, hnp] at hn ⊢
  simp only [List.length_cons, List.length_nil, List.length_drop] at hn
  by_cases e : n = m
  · subst e
    obtain ⟨ds, r, hb⟩ := F.binds1 n 0 (by simp) (by simp [hps]) h1
    refine ⟨ds, _, hb, r, ?_⟩
    simp only [List.length_cons, List.length_nil]
    have : 0 + 1 + n - (n + 1) = 0 := by omega
    rw [this]
    exact .cons (.int i) .nil
  · have e2 : n = m + 1 := by omega
    subst e2
    obtain ⟨ds, r, hb⟩ := F.binds1 (m + 1) 1 (by simp) (by simp [hps]) h2
    refine ⟨ds, _, hb, r, ?_⟩
    simp only [List.length_cons, List.length_nil]
    have : 0 + 1 + (m + 1) - (m + 1) = 1 := by omega
    rw [this]
    exact .nil
/-- a def's record in K -/
def fdOf (K : PySem.W.Frag) (f : Addr) : FuncData := match K.lookup f with
  | some ⟨_, _, .func fd, _⟩ => fd
  | _ => PySem.W.fnOf "" "" default [] default .none .none .none .none none .none .none
theorem fdOf_ok {K : PySem.W.Frag} {x qual : Str} {params : Arguments} {body : List Stmt} {scope : Scope} {dvs : List V} {kws : List (Str × V)} {f : Addr} (h : ∃ fd, FunD K x qual params body scope dvs kws f fd) : FunD K x qual params body scope dvs kws f (fdOf K f) := by
  obtain ⟨fd, F⟩ := h
  have e : fdOf K f = fd := by
    obtain ⟨oc, od, dV, kV, doc, pm, an, cdv, ct, osl, e1, lk, _⟩ := F.ex
    unfold fdOf
    rw [lk]
  rw [e]
  exact F
end Y
set_option Elab.async false
set_option linter.all false
set_option maxRecDepth 100000
set_option maxHeartbeats 4000000
namespace Y
open PySem PySem.Spec PyProof.Rows L2
/-! ### Book.__init__, its text against its parts -/
def bookC (q : Q) (n : Nat) (sc : Scope) (sts : List Stmt) (b0 b1 : S) (bs : List S) : Bool := match sts with
  | st0 :: st1 :: .Assign [.Attribute x0 f1 _] (.Dict [] [] _) _ :: .For (.Name n2 p9) x1 [.Assign [.Subscript (.Attribute x0' f2 _) (.Attribute (.Name n3 p8) f3 _) _] (.Name n4 p7) _] [] _ :: rest =>
    chkS q n sc (fun _ => true) st0 b0 && chkS q n sc (fun _ => true) st1 b1 && decide (f1 = "table") && decide (f2 = "table") && decide (f3 = "name") && decide (n3 = n2) && decide (n4 = n2) && varB q sc x0 0 && varB q sc x0' 0 && varB q sc x1 1 &&
      varB q sc (.Name n2 p7) 2 && varB q sc (.Name n2 p8) 2 && nmB q sc (fun _ => true) (.Name n2 p9) 2 && notSet x1 && all2 (chkS q n sc (fun _ => true)) rest bs
  | _ => false
def evBookI (b0 b1 : S) (bs : List S) (E : Ev) : G → M (Fl × G) := seqM (evS E b0) (seqM (evS E b1) (seqM (evBook E) (evSs E bs)))
theorem bookC_ok {q : Q} {k n : Nat} {X : Cx} {R : Fr} {W : XK} {sc : Scope} {sts : List Stmt} {b0 b1 : S} {bs : List S} (b : Bg q k X R W sc (fun _ => true)) (h : bookC q n sc sts b0 b1 bs = true) : PSs X sts (TS_ R W (evBookI b0 b1 bs q.E)) := by
  unfold bookC at h
  split at h
  · simp only [Bool.and_eq_true, decide_eq_true_eq] at h
    obtain ⟨⟨⟨⟨⟨⟨⟨⟨⟨⟨⟨⟨⟨⟨h1, h2⟩, rfl⟩, rfl⟩, rfl⟩, rfl⟩, rfl⟩, h8⟩, h9⟩, h10⟩, h11⟩, h12⟩, h13⟩, h14⟩, h15⟩ := h
    have hu := b.hu
    exact pss_seq (chkS_ok q k n _ _ b h1) (pss_seq (chkS_ok q k n _ _ b h2) (pss_book b.att b.hK b.calm (by omega) (varB_ok b h8).1 (varB_ok b.nox h9).1 (varB_ok b.nox h10).1 (varB_ok b.nox h11).1 (varB_ok b.nox h12).1 (tgB_ok (t := .one 2) b.nox h13) (varB_ok b h9).2 h14
      (pss_of (fun st s h => chkS_ok q k n st s b h) h15)))
  · cases h
/-! ### a def that tries one statement -/
def tryC (q : Q) (n : Nat) (sc : Scope) (i : Nat) (C T s1 s2 : Str) (sts : List Stmt) (b0 : S) (bs : List S) : Bool := match sts with
  | .Try [st] [.ExceptHandler (some (.Name C' _)) (some nn) [.Return (some (.Tuple [.IfExp (.Call (.Name isi _) [.Name nn' _, .Name T' _] [] _) (.Constant (.str t1) _ _) (.Constant (.str t2) _ _) _, .Constant .none _ _] _ _)) _] _] [] [] _ :: rest =>
    chkS q n sc (fun _ => true) st b0 && decide (C' = C) && decide (nn' = nn) && decide (T' = T) && decide (t1 = s1) && decide (t2 = s2) && decide (isi = "isinstance") && decide (q.N[i]? = some nn) && isLoc sc nn && okN nn && glB sc C && okN C && q.E.cl C && glB sc T && okN T && q.E.cl T && glB sc "isinstance" && q.blt "isinstance" &&
      all2 (chkS q n sc (fun _ => true)) rest bs
  | _ => false
def evTryI (nN : Nat) (h : Str → Option Str) (b0 : S) (bs : List S) (E : Ev) : G → M (Fl × G) := seqM (evTry nN h (evS E b0)) (evSs E bs)
theorem tryC_ok {q : Q} {k n i : Nat} {X : Cx} {R : Fr} {W : XK} {sc : Scope} {C T s1 s2 : Str} {sts : List Stmt} {b0 : S} {bs : List S} {h : Str → Option Str} (b : Bg q k X R W sc (fun _ => true)) (hs : X.stack = X.env :: X.outer) (hf : X.env.frame = some X.env.locals) (hio : R.io = [])
    (ok : TryOk R.K C T s1 s2 h) (hc : tryC q n sc i C T s1 s2 sts b0 bs = true) : PSs X sts (TS0_ R W (evTryI q.N.length h b0 bs q.E)) := by
  unfold tryC at hc
  split at hc
  · simp only [Bool.and_eq_true, decide_eq_true_eq] at hc
    obtain ⟨⟨⟨⟨⟨⟨⟨⟨⟨⟨⟨⟨⟨⟨⟨⟨⟨⟨h1, rfl⟩, rfl⟩, rfl⟩, rfl⟩, rfl⟩, rfl⟩, h2⟩, h3⟩, h4⟩, h5⟩, h6⟩, h7⟩, h8⟩, h9⟩, h10⟩, h11⟩, h12⟩, h13⟩ := hc
    exact pss_try b hs hf hio h2 h3 h4 h5 h6 h7 h8 h9 h10 h11 h12 (fun X' W' b' => chkS_ok q k n _ _ b' h1) (pss_of (fun st s h => chkS_ok q k n st s b h) h13) ok
  · cases hc
end Y
set_option Elab.async false
set_option linter.all false
set_option maxRecDepth 100000
set_option maxHeartbeats 4000000
namespace Y
open PySem PySem.Spec PyProof.Rows L2
/-! ### the emptied thing, its text against its parts -/
def seqL (E : Ev) : List S → (G → M (Fl × G)) → G → M (Fl × G)
  | [], ev => ev
  | s :: pre, ev => seqM (evS E s) (seqL E pre ev)
def clearC (q : Q) (n : Nat) (sc : Scope) (iF iA : Nat) (cMk cCond cPath : C) (bs : List S) : List S → List Stmt → Bool
  | s :: pre, sts => (match sts with
    | st :: sts => chkS q n sc (fun _ => true) st s && clearC q n sc iF iA cMk cCond cPath bs pre sts
    | [] => false)
  | [], sts => (match sts with
    | .Assign [.Name nF _] eMk _ :: .For (.Name nA p3) (.Call (.Name rg _) [.Constant (.int m) _ _] [] _) [.If eCond _ [] _, .Expr (.Call (.Attribute ePath cl p10) [] [] p11) _, .Assign [.Name nF' _] eMk2 _] [] _ :: rest =>
      chk q n sc eMk cMk && chk q n sc eMk2 cMk && chk q n sc eCond cCond && !isIf eCond && chk q n sc ePath cPath && decide (-(2 ^ 62) ≤ m) && decide (m < 2 ^ 62) && decide (nF' = nF) && decide (rg = "range") && decide (cl = "clear") && setB q sc (fun _ => true) nF iF && nmB q sc (fun _ => true) (.Name nA p3) iA &&
        glB sc "range" && q.blt "range" && notComp eMk && notComp eMk2 && noSup ePath && (p10.endLine == p11.line) && all2 (chkS q n sc (fun _ => true)) rest bs
    | _ => false)
def evClearI (pre : List S) (iF iA : Nat) (cMk cCond cPath : C) (bs : List S) (E : Ev) : G → M (Fl × G) := seqL E pre (seqM (evClear E iF iA cMk cCond cPath) (evSs E bs))
theorem clearC_ok {q : Q} {k n : Nat} {X : Cx} {R : Fr} {W : XK} {sc : Scope} {iF iA : Nat} {cMk cCond cPath : C} {bs : List S} (b : Bg q k X R W sc (fun _ => true)) (hio : R.io = []) : ∀ {pre : List S} {sts : List Stmt}, clearC q n sc iF iA cMk cCond cPath bs pre sts = true →
    PSs X sts (TS_ R W (evClearI pre iF iA cMk cCond cPath bs q.E))
  | s :: pre, sts, h => by
    unfold clearC at h
    cases sts with
    | nil => cases h
    | cons st sts =>
      dsimp only at h
      rw [Bool.and_eq_true] at h
      exact pss_seq (chkS_ok q k n _ _ b h.1) (clearC_ok b hio h.2)
  | [], sts, h => by
    unfold clearC at h
    split at h
    · simp only [Bool.and_eq_true, decide_eq_true_eq, Bool.not_eq_true'] at h
      obtain ⟨⟨⟨⟨⟨⟨⟨⟨⟨⟨⟨⟨⟨⟨⟨⟨⟨⟨h1, h2⟩, h3⟩, h4⟩, h5⟩, h6⟩, h7⟩, rfl⟩, rfl⟩, rfl⟩, h8⟩, h9⟩, h10⟩, h11⟩, h12⟩, h13⟩, h14⟩, h15⟩, h16⟩ := h
      obtain ⟨s1, s2, s3⟩ := setB_ok b h8
      exact pss_clear hio b.hK b.calm h6 h7 (fun R' hR => (chk_ok q k n _ _ (b.at hR) h1).te) (fun R' hR => (chk_ok q k n _ _ (b.nox.at hR) h2).te) (fun R' hR => (chk_ok q k n _ _ (b.nox.at hR) h3).pt h4) (fun R' hR => (chk_ok q k n _ _ (b.nox.at hR) h5).te)
        b.nd s1 s2 s3 (tgB_ok (t := .one iA) b.nox h9) (b.gl h10) (b.blt _ h11) h12 h13 (base_ok h14) h15 (pss_of (fun st s h => chkS_ok q k n st s b h) h16)
    · cases h
end Y
set_option Elab.async false
set_option linter.all false
set_option maxRecDepth 100000
set_option maxHeartbeats 4000000
namespace Y
open PySem PySem.Spec PyProof.Rows L2
/-! ### the caught classes' facts -/
def excCB (K : PySem.W.Frag) (c : Str) : Bool :=
  decide (PySem.W.findIn K (.ref (He.ga K c)) "__getattribute__" = some (some (.builtin "BaseException.__getattribute__"))) && decide (PySem.W.findIn K (.ref (He.ga K c)) "__getattr__" = some none) && decide (PySem.W.subIn K (.ref (He.ga K c)) (.type "BaseException") = some true) &&
  PySem.W.hasDictIn K (He.ga K c) && decide (PySem.W.findIn K (.ref (He.ga K c)) "__class__" = some (some (.builtin "object.__class__"))) && decide (PySem.W.specialIn K (.builtin "object.__class__") "__get__" = some (some (.builtin "getset_descriptor.__get__"))) &&
  decide (PySem.W.takesIn K (.builtin "object.__class__") = some true) && decide (PySem.W.mroIn K (He.ga K c) (.type "object") = some true)
theorem excCB_ok {K : PySem.W.Frag} {c : Str} (h : excCB K c = true) : ExcC K (He.ga K c) := by
  unfold excCB at h
  simp only [Bool.and_eq_true, decide_eq_true_eq] at h
  obtain ⟨⟨⟨⟨⟨⟨⟨h1, h2⟩, h3⟩, h4⟩, h5⟩, h6⟩, h7⟩, h8⟩ := h
  exact ⟨h1, h2, h3, h4, h5, h6, h7, h8⟩
def tryB (K : PySem.W.Frag) (C T s1 s2 : Str) (l : List (Str × Str)) : Bool := l.all fun p => decide (PySem.W.exmOne K (.ref (He.ga K p.1)) (.ref (He.ga K C)) = some true) && excCB K p.1 &&
  ((decide (PySem.W.kitOne K (.ref (He.ga K p.1)) (.ref (He.ga K T)) = some true) && decide (p.2 = s1)) || (decide (PySem.W.kitOne K (.ref (He.ga K p.1)) (.ref (He.ga K T)) = some false) && decide (p.2 = s2)))
theorem tryB_ok {K : PySem.W.Frag} {C T s1 s2 : Str} {l : List (Str × Str)} (h : tryB K C T s1 s2 l = true) : TryOk K C T s1 s2 (lookS l) := fun c t e => by
  have hm := List.all_eq_true.mp h _ (lookS_mem e)
  simp only [Bool.and_eq_true, Bool.or_eq_true, decide_eq_true_eq] at hm
  obtain ⟨⟨h1, h2⟩, h3⟩ := hm
  refine ⟨h1, excCB_ok h2, ?_⟩
  rcases h3 with ⟨h3, h4⟩ | ⟨h3, h4⟩
  · exact ⟨true, h3, h4⟩
  · exact ⟨false, h3, h4⟩
/-- a reading is one at a def's entry -/
theorem pss_ts0 {X : Cx} {R : Fr} {W : XK} {sts : List Stmt} {ev : G → M (Fl × G)} (h : PSs X sts (TS_ R W ev)) : PSs X sts (TS0_ R W ev) := PSs.imp h fun D σ H ⟨g, r, _, q⟩ => ⟨R.F0, g, r, q⟩
end Y
set_option Elab.async false
set_option linter.all false
set_option maxRecDepth 100000
set_option maxHeartbeats 4000000
namespace Y
open PySem PySem.Spec L2
/-! ### running the evaluator by rules -/
def Ret (m : M (Sl × Option (D × Bool))) (md : Mode) (d : D) : Prop := ∃ n, m = some (.ok (⟨d, md, n⟩, none))
theorem bnd_congr {α β : Type} {m m' : M α} {f : α → M β} (h : m = m') : M.bnd m f = M.bnd m' f := by rw [h]
theorem bnd_assoc {α β γ : Type} (m : M α) (f : α → M β) (g : β → M γ) : M.bnd (M.bnd m f) g = M.bnd m fun a => M.bnd (f a) g := by
  cases m with
  | none => rfl
  | some o => cases o <;> rfl
def C.isV : C → Bool
  | .var _ => true
  | _ => false
section
variable {E : Ev} {g g0 : G} {a0 : Option Sl}
@[simp] theorem G.get_nil (i : Nat) : G.get [] i = none := rfl
@[simp] theorem G.get_zero (s : Option Sl) (g : G) : G.get (s :: g) 0 = s := by cases s <;> rfl
@[simp] theorem G.get_succ (s : Option Sl) (g : G) (i : Nat) : G.get (s :: g) (i + 1) = G.get g i := rfl
@[simp] theorem G.put_zero (s : Option Sl) (g : G) (t : Sl) : G.put (s :: g) 0 t = some t :: g := rfl
@[simp] theorem G.put_succ (s : Option Sl) (g : G) (i : Nat) (t : Sl) : G.put (s :: g) (i + 1) t = s :: G.put g i t := rfl
@[simp] theorem opt_bnd {α β : Type} (o : Option α) (f : α → M β) : M.bnd (M.opt o) f = (match o with | some a => f a | none => none) := by cases o <;> rfl
theorem opd_var {ev : G → M (Sl × G)} {i : Nat} {s : Sl} (h : g.get i = some s) : opd (.var i) ev g = some (.ok (.slot i, g)) := by
  unfold opd
  dsimp only
  rw [h]
theorem opd_n {ev : G → M (Sl × G)} {c : C} (h : c.isV = false) : opd c ev g = M.bnd (ev g) fun (s, g1) => some (.ok (.val s.frz, g1)) := by
  cases c <;> first | rfl | cases h
@[simp] theorem e_var (i : Nat) : evE E (.var i) (a0 :: g0) = takeV (a0 :: g0) i := by rw [evE] <;> rfl
@[simp] theorem e_int (i : Int) : evE E (.int i) (a0 :: g0) = some (.ok (⟨.int i, .fr, true⟩, (a0 :: g0))) := by rw [evE] <;> rfl
@[simp] theorem e_str (s : Str) : evE E (.str s) (a0 :: g0) = some (.ok (⟨.str s, .fr, true⟩, (a0 :: g0))) := by rw [evE] <;> rfl
@[simp] theorem e_bl (b : Bool) : evE E (.bl b) (a0 :: g0) = some (.ok (⟨.bl b, .fr, true⟩, (a0 :: g0))) := by rw [evE] <;> rfl
@[simp] theorem e_non : evE E .non (a0 :: g0) = some (.ok (⟨.non, .fr, true⟩, (a0 :: g0))) := by rw [evE] <;> rfl
@[simp] theorem e_con (x : Str) : evE E (.con x) (a0 :: g0) = match E.con x with
    | some d => if d.atom then some (.ok (⟨d, .fr, true⟩, (a0 :: g0))) else none
    | none => none := by rw [evE] <;> rfl
@[simp] theorem e_tup (cs : List C) : evE E (.tup cs) (a0 :: g0) = M.bnd (evV E cs (a0 :: g0)) fun (ss, g1) => if ss.length ≤ lim then some (.ok (⟨.tup (dsL ss), .fr, ss.all (·.n)⟩, g1)) else none := by rw [evE] <;> rfl
@[simp] theorem e_lst (cs : List C) : evE E (.lst cs) (a0 :: g0) = M.bnd (evV E cs (a0 :: g0)) fun (ss, g1) => if ss.length ≤ lim then some (.ok (⟨.lst (dsL ss), .ow, ss.all (·.n)⟩, g1)) else none := by rw [evE] <;> rfl
@[simp] theorem e_dnew : evE E .dnew (a0 :: g0) = some (.ok (⟨.dct [] [], .ow, true⟩, (a0 :: g0))) := by rw [evE] <;> rfl
@[simp] theorem e_dnewT : evE E .dnewT (a0 :: g0) = some (.ok (⟨.dctT [] [], .ow, true⟩, (a0 :: g0))) := by rw [evE] <;> rfl
@[simp] theorem e_bin (op : BOp) (a b : C) : evE E (.bin op a b) (a0 :: g0) = op2 a b (evE E a) (evE E b) (resBin op) (a0 :: g0) := by rw [evE] <;> rfl
@[simp] theorem e_neg (a : C) : evE E (.neg a) (a0 :: g0) = op1 a (evE E a) negS (a0 :: g0) := by rw [evE] <;> rfl
@[simp] theorem e_cmp (op : KOp) (a b : C) : evE E (.cmp op a b) (a0 :: g0) = op2 a b (evE E a) (evE E b) (cmpS op) (a0 :: g0) := by rw [evE] <;> rfl
@[simp] theorem e_and (a b : C) : evE E (.and_ a b) (a0 :: g0) = M.bnd (boolE (evE E a) (a0 :: g0)) fun (k, g1) => if k then M.bnd (boolE (evE E b) g1) fun (k, g2) => some (.ok (atm (.bl k), g2)) else some (.ok (atm (.bl false), g1)) := by rw [evE] <;> rfl
@[simp] theorem e_or (a b : C) : evE E (.or_ a b) (a0 :: g0) = M.bnd (boolE (evE E a) (a0 :: g0)) fun (k, g1) => if k then some (.ok (atm (.bl true), g1)) else M.bnd (boolE (evE E b) g1) fun (k, g2) => some (.ok (atm (.bl k), g2)) := by rw [evE] <;> rfl
@[simp] theorem e_not (a : C) : evE E (.not_ a) (a0 :: g0) = M.bnd (boolE (evE E a) (a0 :: g0)) fun (k, g1) => some (.ok (atm (.bl (!k)), g1)) := by rw [evE] <;> rfl
@[simp] theorem e_ife (t a b : C) : evE E (.ife t a b) (a0 :: g0) = M.bnd (tst t (evE E t) (a0 :: g0)) fun (k, g1) => if k then evE E a g1 else evE E b g1 := by rw [evE] <;> rfl
@[simp] theorem e_idx (a b : C) : evE E (.idx a b) (a0 :: g0) = op2 a b (evE E a) (evE E b) idxS (a0 :: g0) := by rw [evE] <;> rfl
@[simp] theorem e_rev (a : C) : evE E (.rev a) (a0 :: g0) = op1 a (evE E a) revS (a0 :: g0) := by rw [evE] <;> rfl
@[simp] theorem e_att (a : C) (f : Str) : evE E (.att a f) (a0 :: g0) = op1 a (evE E a) (attS E f) (a0 :: g0) := by rw [evE] <;> rfl
@[simp] theorem e_isi (a : C) (t : Ty) : evE E (.isi a t) (a0 :: g0) = op1 a (evE E a) (isiS E t) (a0 :: g0) := by rw [evE] <;> rfl
@[simp] theorem e_index (o a : C) : evE E (.index o a) (a0 :: g0) = op2p isLst o a (evE E o) (evE E a) indexS (a0 :: g0) := by rw [evE] <;> rfl
@[simp] theorem e_dget (o a : C) : evE E (.dget o a) (a0 :: g0) = op2p isDct o a (evE E o) (evE E a) dgetS (a0 :: g0) := by rw [evE] <;> rfl
@[simp] theorem e_kget (x : Str) (a : C) : evE E (.kget x a) (a0 :: g0) = op1 a (evE E a) (kgetS E x) (a0 :: g0) := by rw [evE] <;> rfl
@[simp] theorem e_kin (neg : Bool) (x : Str) (a : C) : evE E (.kin neg x a) (a0 :: g0) = op1 a (evE E a) (kinS E neg x) (a0 :: g0) := by rw [evE] <;> rfl
@[simp] theorem e_call (f : Nat) (args : List C) : evE E (.call f args) (a0 :: g0) = M.bnd (evA E (E.io f) 0 args (a0 :: g0)) fun (as, g1) => doCall (E.fn f) (E.io f) (E.np f) (moreOf E f args.length) as g1 := by rw [evE] <;> rfl
@[simp] theorem e_bi (b : BI) (args : List C) : evE E (.bi b args) (a0 :: g0) = M.bnd (evOs E args (a0 :: g0)) fun (os, g1) => match os.mapM (·.get g1) with
    | some ss => match biD b ss with
      | some s => some (.ok (s, g1))
      | none => none
    | none => none := by rw [evE] <;> rfl
@[simp] theorem e_slc (a : C) (lo hi : Option C) : evE E (.slc a lo hi) (a0 :: g0) = M.bnd (opd a (evE E a) (a0 :: g0)) fun (oa, g1) => M.bnd (evP E lo g1) fun (l, g2) => M.bnd (evP E hi g2) fun (h, g3) => match oa.get g3 with
    | some x => match slcS l h x with
      | some s => some (.ok (s, g3))
      | none => none
    | none => none := by rw [evE] <;> rfl
@[simp] theorem e_chain (op op' : KOp) (a b c : C) : evE E (.chain op op' a b c) (a0 :: g0) = M.bnd (opd a (evE E a) (a0 :: g0)) fun (oa, g1) => M.bnd (opd b (evE E b) g1) fun (ob, g2) => match oa.get g2, ob.get g2 with
    | some x, some y => match x.d.cmp op y.d with
      | some true => M.bnd (opd c (evE E c) g2) fun (oc, g3) => match ob.get g3, oc.get g3 with
        | some y, some z => match y.d.cmp op' z.d with
          | some k => some (.ok (atm (.bl k), g3))
          | none => none
        | _, _ => none
      | some false => some (.ok (atm (.bl false), g2))
      | none => none
    | _, _ => none := by rw [evE] <;> rfl
@[simp] theorem v_nil : evV E [] (a0 :: g0) = some (.ok ([], (a0 :: g0))) := by rw [evV] <;> rfl
@[simp] theorem v_cons (c : C) (cs : List C) : evV E (c :: cs) (a0 :: g0) = M.bnd (evE E c (a0 :: g0)) fun (s, g1) => M.bnd (evV E cs g1) fun (ss, g2) => some (.ok (s.frz :: ss, g2)) := by rw [evV] <;> rfl
@[simp] theorem o_nil : evOs E [] (a0 :: g0) = some (.ok ([], (a0 :: g0))) := by rw [evOs] <;> rfl
@[simp] theorem o_cons (c : C) (cs : List C) : evOs E (c :: cs) (a0 :: g0) = M.bnd (opd c (evE E c) (a0 :: g0)) fun (o, g1) => M.bnd (evOs E cs g1) fun (os, g2) => some (.ok (o :: os, g2)) := by rw [evOs] <;> rfl
@[simp] theorem a_nil (io : Option Nat) (j : Nat) : evA E io j [] (a0 :: g0) = some (.ok ([], (a0 :: g0))) := by rw [evA] <;> rfl
@[simp] theorem a_cons (io : Option Nat) (j : Nat) (c : C) (cs : List C) : evA E io j (c :: cs) (a0 :: g0) = M.bnd (arg1 io j c (evE E c) (a0 :: g0)) fun (a, g1) => M.bnd (evA E io (j + 1) cs g1) fun (as, g2) => some (.ok (a :: as, g2)) := by rw [evA] <;> rfl
@[simp] theorem p_none : evP E none (a0 :: g0) = some (.ok (none, (a0 :: g0))) := by rw [evP] <;> rfl
@[simp] theorem p_some (c : C) : evP E (some c) (a0 :: g0) = M.bnd (evE E c (a0 :: g0)) fun (s, g1) => match s.d with
    | .int i => some (.ok (some i, g1))
    | _ => none := by rw [evP] <;> rfl
@[simp] theorem to_none : evTO E none (a0 :: g0) = some (.ok (true, (a0 :: g0))) := by rw [evTO] <;> rfl
@[simp] theorem to_some (c : C) : evTO E (some c) (a0 :: g0) = tst c (evE E c) (a0 :: g0) := by rw [evTO] <;> rfl
@[simp] theorem s_asg (i : Nat) (c : C) : evS E (.asg i c) (a0 :: g0) = M.bnd (evE E c (a0 :: g0)) fun (s, g1) => match setSlot g1 i s with
    | some g2 => some (.ok (.nx, g2))
    | none => none := by rw [evS] <;> rfl
@[simp] theorem s_asgT (is : List Nat) (c : C) : evS E (.asgT is c) (a0 :: g0) = M.bnd (evE E c (a0 :: g0)) fun (s, g1) => match s.d with
    | .tup ds => match putAll g1 is ds s.n with
      | some g2 => some (.ok (.nx, g2))
      | none => none
    | _ => none := by rw [evS] <;> rfl
@[simp] theorem s_par2 (i j : Nat) (a b : C) : evS E (.par2 i j a b) (a0 :: g0) = M.bnd (evE E a (a0 :: g0)) fun (s, g1) => M.bnd (evE E b g1) fun (t, g2) => if i = j then none else match setSlot g2 i s with
    | some g3 => match setSlot g3 j t with
      | some g4 => some (.ok (.nx, g4))
      | none => none
    | none => none := by rw [evS] <;> rfl
@[simp] theorem s_aug (i : Nat) (op : BOp) (c : C) : evS E (.aug i op c) (a0 :: g0) = match G.get (a0 :: g0) i with
    | some ⟨.int x, .fr, _⟩ => M.bnd (evE E c (a0 :: g0)) fun (s, g1) => match g1.get i, s.d with
      | some ⟨.int _, .fr, _⟩, .int y => match D.bin op (.int x) (.int y) with
        | some d => if op = .add ∨ op = .sub then some (.ok (.nx, g1.put i (atm d))) else none
        | none => none
      | _, _ => none
    | _ => none := by rw [evS] <;> rfl
@[simp] theorem s_setI (i : Nat) (k v : C) : evS E (.setI i k v) (a0 :: g0) = M.bnd (evE E v (a0 :: g0)) fun (s, g1) => if (g1.get i).isSome = true then M.bnd (opd k (evE E k) g1) fun (o, g2) => (match o.get g2 with
    | some y => mutSlot g2 i (fun x => x.setI y.d s.d) s.n
    | none => none) else none := by rw [evS] <;> rfl
@[simp] theorem s_setA (i : Nat) (f : Str) (v : C) : evS E (.setA i f v) (a0 :: g0) = M.bnd (evE E v (a0 :: g0)) fun (s, g1) => mutSlot g1 i (fun x => x.setA E f s.d) s.n := by rw [evS] <;> rfl
@[simp] theorem s_app (i : Nat) (c : C) : evS E (.app i c) (a0 :: g0) = if ownL (a0 :: g0) i then M.bnd (evE E c (a0 :: g0)) fun (s, g1) => mutSlot g1 i (D.app s.d) s.n else none := by rw [evS] <;> rfl
@[simp] theorem s_ext (i : Nat) (c : C) : evS E (.ext i c) (a0 :: g0) = if ownL (a0 :: g0) i then M.bnd (evE E c (a0 :: g0)) fun (s, g1) => mutSlot g1 i (D.ext s.d) s.n else none := by rw [evS] <;> rfl
@[simp] theorem s_expr (c : C) : evS E (.expr c) (a0 :: g0) = M.bnd (evE E c (a0 :: g0)) fun (_, g1) => some (.ok (.nx, g1)) := by rw [evS] <;> rfl
@[simp] theorem s_ife (t : C) (a b : List S) : evS E (.ife t a b) (a0 :: g0) = M.bnd (tst t (evE E t) (a0 :: g0)) fun (k, g1) => if k then evSs E a g1 else evSs E b g1 := by rw [evS] <;> rfl
def retV (c : C) (g : G) : M (Fl × G) := match c with
  | .var i => (match G.get g i with
    | some ⟨d, .ow, n⟩ => some (.ok (.rt ⟨d, .ow, n⟩, g.set i none))
    | some ⟨d, .fr, n⟩ => some (.ok (.rt ⟨d, .fr, n || d.atom⟩, g))
    | _ => none)
  | _ => none
@[simp] theorem retV_var (i : Nat) : retV (.var i) (a0 :: g0) = match G.get (a0 :: g0) i with
    | some ⟨d, .ow, n⟩ => some (.ok (.rt ⟨d, .ow, n⟩, (a0 :: g0).set i none))
    | some ⟨d, .fr, n⟩ => some (.ok (.rt ⟨d, .fr, n || d.atom⟩, (a0 :: g0)))
    | _ => none := rfl
theorem s_retv (i : Nat) : evS E (.ret (.var i)) (a0 :: g0) = retV (.var i) (a0 :: g0) := by
  rw [evS, e_var]
  unfold takeV retV
  dsimp only
  cases G.get (a0 :: g0) i with
  | none => rfl
  | some s => obtain ⟨d, m, n⟩ := s; cases m <;> rfl
@[simp] theorem s_ret (c : C) : evS E (.ret c) (a0 :: g0) = bif c.isV then retV c (a0 :: g0) else M.bnd (evE E c (a0 :: g0)) fun (s, g1) => some (.ok (.rt s, g1)) := by
  cases c <;> first | exact s_retv _ | rfl
@[simp] theorem s_retN : evS E .retN (a0 :: g0) = some (.ok (.rt (atm .non), (a0 :: g0))) := by rw [evS] <;> rfl
@[simp] theorem s_raise (c : Str) : evS E (.raise c) (a0 :: g0) = some (.ex c) := by rw [evS] <;> rfl
@[simp] theorem s_pass : evS E .pass (a0 :: g0) = some (.ok (.nx, (a0 :: g0))) := by rw [evS] <;> rfl
@[simp] theorem s_brk : evS E .brk (a0 :: g0) = some (.ok (.bk, (a0 :: g0))) := by rw [evS] <;> rfl
@[simp] theorem s_cont : evS E .cont (a0 :: g0) = some (.ok (.ct, (a0 :: g0))) := by rw [evS] <;> rfl
theorem s_for (tg : Tg) (k : ItK) (its : List C) (body : List S) : evS E (.for_ tg k its body) (a0 :: g0) = M.nox (M.bnd (evV E its (a0 :: g0)) fun (ss, g1) => match itemsK k ss with
    | some (items, n) => forL (fun d g2 => match bindT g2 tg d n with
      | some g3 => evSs E body g3
      | none => none) items g1
    | none => none) := by rw [evS] <;> rfl
@[simp] theorem s_while (t : C) (body : List S) : evS E (.while_ t body) (a0 :: g0) = M.nox (whileL (evT E t) (evSs E body) whileN (a0 :: g0)) := by rw [evS] <;> rfl
@[simp] theorem ss_nil : evSs E [] (a0 :: g0) = some (.ok (.nx, (a0 :: g0))) := by rw [evSs] <;> rfl
@[simp] theorem ss_cons (s : S) (ss : List S) : evSs E (s :: ss) (a0 :: g0) = M.bnd (evS E s (a0 :: g0)) fun (fl, g1) => match fl with
    | .nx => evSs E ss g1
    | fl => some (.ok (fl, g1)) := by rw [evSs] <;> rfl
def opdV (c : C) (g : G) : M (Op × G) := match c with
  | .var i => (match g.get i with
    | some _ => some (.ok (.slot i, g))
    | none => none)
  | _ => none
@[simp] theorem opdV_var (i : Nat) : opdV (.var i) (a0 :: g0) = match G.get (a0 :: g0) i with
    | some _ => some (.ok (.slot i, a0 :: g0))
    | none => none := rfl
@[simp] theorem opd_e {ev : G → M (Sl × G)} {c : C} : opd c ev (a0 :: g0) = bif c.isV then opdV c (a0 :: g0) else M.bnd (ev (a0 :: g0)) fun (s, g1) => some (.ok (.val s.frz, g1)) := by
  cases c <;> rfl
@[simp] theorem tst_e {c : C} {ev : G → M (Sl × G)} : tst c ev (a0 :: g0) = M.bnd (opd c ev (a0 :: g0)) fun (o, g1) => match o.get g1 with
  | some s => match s.d.truth with
    | some k => some (.ok (k, g1))
    | none => none
  | none => none := rfl
@[simp] theorem op1_e {a : C} {ea : G → M (Sl × G)} {f : Sl → Option Sl} : op1 a ea f (a0 :: g0) = M.bnd (opd a ea (a0 :: g0)) fun (oa, g1) => match oa.get g1 with
    | some x => match f x with
      | some s => some (.ok (s, g1))
      | none => none
    | none => none := rfl
@[simp] theorem op2_e {a b : C} {ea eb : G → M (Sl × G)} {f : Sl → Sl → Option Sl} : op2 a b ea eb f (a0 :: g0) = M.bnd (opd a ea (a0 :: g0)) fun (oa, g1) => M.bnd (opd b eb g1) fun (ob, g2) => match oa.get g2, ob.get g2 with
    | some x, some y => match f x y with
      | some s => some (.ok (s, g2))
      | none => none
    | _, _ => none := rfl
@[simp] theorem boolE_e {ev : G → M (Sl × G)} : boolE ev (a0 :: g0) = M.bnd (ev (a0 :: g0)) fun (s, g1) => match s.d with
  | .bl k => some (.ok (k, g1))
  | _ => none := rfl
def argIo (c : C) (ev : G → M (Sl × G)) (g : G) : M (Ar × G) := match c with
    | .var i => (match g.get i with
      | some ⟨_, .fr, _⟩ => none
      | some _ => some (.ok (Ar.slot i, g))
      | none => none)
    | _ => M.bnd (ev g) fun (s, g1) => if s.m = .ow then some (.ok (Ar.tmp s, g1)) else none
@[simp] theorem argIo_var {ev : G → M (Sl × G)} (i : Nat) : argIo (.var i) ev (a0 :: g0) = match G.get (a0 :: g0) i with
      | some ⟨_, .fr, _⟩ => none
      | some _ => some (.ok (Ar.slot i, a0 :: g0))
      | none => none := rfl
@[simp] theorem arg_e {io : Option Nat} {j : Nat} {c : C} {ev : G → M (Sl × G)} : arg1 io j c ev (a0 :: g0) = if io = some j then argIo c ev (a0 :: g0) else M.bnd (ev (a0 :: g0)) fun (s, g1) => some (.ok (Ar.val s.frz, g1)) := rfl
theorem take_fr {i : Nat} {d : D} {n : Bool} (h : G.get (a0 :: g0) i = some ⟨d, .fr, n⟩) : takeV (a0 :: g0) i = some (.ok (⟨d, .fr, n || d.atom⟩, a0 :: g0)) := by
  unfold takeV
  rw [h]
theorem take_ow {i : Nat} {d : D} {n : Bool} (h : G.get (a0 :: g0) i = some ⟨d, .ow, n⟩) : takeV (a0 :: g0) i = some (.ok (⟨d, .fr, n⟩, G.put (a0 :: g0) i ⟨d, .fr, n⟩)) := by
  unfold takeV
  rw [h]
@[simp] theorem take_v {i : Nat} : takeV (a0 :: g0) i = match G.get (a0 :: g0) i with
  | some ⟨d, .fr, n⟩ => some (.ok (⟨d, .fr, n || d.atom⟩, a0 :: g0))
  | some ⟨d, .ow, n⟩ => some (.ok (⟨d, .fr, n⟩, G.put (a0 :: g0) i ⟨d, .fr, n⟩))
  | _ => none := rfl
@[simp] theorem op_val (s : Sl) : Op.get g (.val s) = some s := rfl
@[simp] theorem op_slot (i : Nat) : Op.get (a0 :: g0) (.slot i) = (G.get (a0 :: g0) i).map fun s => ⟨s.d, s.m, s.n || s.d.atom⟩ := rfl
@[simp] theorem frz_mk (d : D) (m : Mode) (n : Bool) : Sl.frz ⟨d, m, n⟩ = ⟨d, .fr, n⟩ := rfl
@[simp] theorem atm_mk (d : D) : atm d = ⟨d, .fr, true⟩ := rfl
/-- a slot that may be given another value -/
def slotFree (s : Option Sl) : Bool := match s with
  | some ⟨_, .io, _⟩ => false
  | _ => true
@[simp] theorem free_none : slotFree none = true := rfl
@[simp] theorem free_fr (d : D) (n : Bool) : slotFree (some ⟨d, .fr, n⟩) = true := rfl
@[simp] theorem free_ow (d : D) (n : Bool) : slotFree (some ⟨d, .ow, n⟩) = true := rfl
/-- nothing, or a value -/
def fro (o : Option (D × Bool)) : Option Sl := o.map fun p => ⟨p.1, .fr, p.2⟩
theorem fro_none : none = fro none := rfl
theorem fro_some (d : D) (n : Bool) : some (Sl.mk d .fr n) = fro (some (d, n)) := rfl
@[simp] theorem free_fro (o : Option (D × Bool)) : slotFree (fro o) = true := by cases o <;> rfl
@[simp] theorem set_e (i : Nat) (s : Sl) : setSlot (a0 :: g0) i s = if slotFree (G.get (a0 :: g0) i) ∧ i < (a0 :: g0).length then some (G.put (a0 :: g0) i s) else none := by
  unfold setSlot slotFree
  cases h : G.get (a0 :: g0) i with
  | none => simp
  | some s => obtain ⟨d, m, n⟩ := s; cases m <;> simp
@[simp] theorem tru_bl (b : Bool) : D.truth (.bl b) = some b := rfl
@[simp] theorem tru_non : D.truth .non = some false := rfl
@[simp] theorem tru_lst (xs : List D) : D.truth (.lst xs) = some (!xs.isEmpty) := rfl
@[simp] theorem atom_bl (b : Bool) : D.atom (.bl b) = true := rfl
@[simp] theorem atom_non : D.atom .non = true := rfl
@[simp] theorem atom_int (b : Int) : D.atom (.int b) = true := rfl
@[simp] theorem atom_str (b : Str) : D.atom (.str b) = true := rfl
@[simp] theorem atom_lst (b : List D) : D.atom (.lst b) = false := rfl
@[simp] theorem atom_tup (b : List D) : D.atom (.tup b) = false := rfl
@[simp] theorem isV_var (i : Nat) : C.isV (.var i) = true := rfl
@[simp] theorem isV_int (i : Int) : C.isV (.int i) = false := rfl
@[simp] theorem isV_str (i : Str) : C.isV (.str i) = false := rfl
@[simp] theorem isV_bl (i : Bool) : C.isV (.bl i) = false := rfl
@[simp] theorem isV_non : C.isV .non = false := rfl
@[simp] theorem isV_con (i : Str) : C.isV (.con i) = false := rfl
@[simp] theorem isV_tup (i : List C) : C.isV (.tup i) = false := rfl
@[simp] theorem isV_lst (i : List C) : C.isV (.lst i) = false := rfl
@[simp] theorem isV_bin (i : BOp) (a b : C) : C.isV (.bin i a b) = false := rfl
@[simp] theorem isV_neg (a : C) : C.isV (.neg a) = false := rfl
@[simp] theorem isV_cmp (i : KOp) (a b : C) : C.isV (.cmp i a b) = false := rfl
@[simp] theorem isV_chain (i j : KOp) (a b c : C) : C.isV (.chain i j a b c) = false := rfl
@[simp] theorem isV_and (a b : C) : C.isV (.and_ a b) = false := rfl
@[simp] theorem isV_or (a b : C) : C.isV (.or_ a b) = false := rfl
@[simp] theorem isV_not (a : C) : C.isV (.not_ a) = false := rfl
@[simp] theorem isV_ife (a b c : C) : C.isV (.ife a b c) = false := rfl
@[simp] theorem isV_idx (a b : C) : C.isV (.idx a b) = false := rfl
@[simp] theorem isV_slc (a : C) (b c : Option C) : C.isV (.slc a b c) = false := rfl
@[simp] theorem isV_rev (a : C) : C.isV (.rev a) = false := rfl
@[simp] theorem isV_att (a : C) (f : Str) : C.isV (.att a f) = false := rfl
@[simp] theorem isV_call (f : Nat) (a : List C) : C.isV (.call f a) = false := rfl
@[simp] theorem isV_new (c : Str) (f : Nat) (a : List C) : C.isV (.new c f a) = false := rfl
@[simp] theorem isV_meth (c : Str) (f : Option Nat) (o : C) (a : List C) : C.isV (.meth c f o a) = false := rfl
@[simp] theorem isV_bi (b : BI) (a : List C) : C.isV (.bi b a) = false := rfl
@[simp] theorem isV_isi (a : C) (t : Ty) : C.isV (.isi a t) = false := rfl
@[simp] theorem isV_index (o a : C) : C.isV (.index o a) = false := rfl
@[simp] theorem isV_dget (o a : C) : C.isV (.dget o a) = false := rfl
@[simp] theorem isV_kget (x : Str) (a : C) : C.isV (.kget x a) = false := rfl
@[simp] theorem isV_kin (n : Bool) (x : Str) (a : C) : C.isV (.kin n x a) = false := rfl
@[simp] theorem isV_comp (o : List Nat) (t : Tg) (k : ItK) (i : List C) (c : Option C) (e : C) : C.isV (.comp o t k i c e) = false := rfl
theorem atI_nat {α : Type} {xs : List α} (i : Nat) : atI xs (i : Int) = xs[i]? := by
  unfold atI ixN
  by_cases h : i < xs.length
  · simp [h]
  · simp [h, List.getElem?_eq_none (Nat.le_of_not_lt h)]
@[simp] theorem atI_0 {α : Type} {x : α} {xs : List α} : atI (x :: xs) 0 = some x := atI_nat 0
@[simp] theorem atI_1 {α : Type} {x y : α} {xs : List α} : atI (x :: y :: xs) 1 = some y := atI_nat 1
@[simp] theorem atI_2 {α : Type} {x y z : α} {xs : List α} : atI (x :: y :: z :: xs) 2 = some z := atI_nat 2
@[simp] theorem atI_3 {α : Type} {x y z u : α} {xs : List α} : atI (x :: y :: z :: u :: xs) 3 = some u := atI_nat 3
@[simp] theorem idx_tup (xs : List D) (i : Int) : D.idx (.tup xs) (.int i) = atI xs i := rfl
@[simp] theorem idx_lst (xs : List D) (i : Int) : D.idx (.lst xs) (.int i) = atI xs i := rfl
@[simp] theorem idxS_mk (d e : D) (m m' : Mode) (n n' : Bool) : idxS ⟨d, m, n⟩ ⟨e, m', n'⟩ = (d.idx e).map fun x => ⟨x, .fr, n || x.atom⟩ := rfl
@[simp] theorem cmpS_mk (op : KOp) (d e : D) (m m' : Mode) (n n' : Bool) : cmpS op ⟨d, m, n⟩ ⟨e, m', n'⟩ = (D.cmp op d e).map fun k => ⟨.bl k, .fr, true⟩ := rfl
@[simp] theorem cmp_eq (d e : D) : D.cmp .eq d e = d.eqE e := rfl
@[simp] theorem cmp_ne (d e : D) : D.cmp .ne d e = (d.eqE e).map (!·) := rfl
@[simp] theorem cmp_lt (i j : Int) : D.cmp .lt (.int i) (.int j) = some (decide (i < j)) := rfl
@[simp] theorem cmp_le (i j : Int) : D.cmp .le (.int i) (.int j) = some (decide (i ≤ j)) := rfl
@[simp] theorem cmp_gt (i j : Int) : D.cmp .gt (.int i) (.int j) = some (decide (j < i)) := rfl
@[simp] theorem cmp_ge (i j : Int) : D.cmp .ge (.int i) (.int j) = some (decide (j ≤ i)) := rfl
@[simp] theorem cmp_inn (d e : D) : D.cmp .inn d e = d.inn e := rfl
@[simp] theorem cmp_nin (d e : D) : D.cmp .nin d e = (d.inn e).map (!·) := rfl
@[simp] theorem cmp_is (d : D) : D.cmp .is_ d .non = d.isN := rfl
@[simp] theorem cmp_isn (d : D) : D.cmp .isn d .non = d.isN.map (!·) := rfl
@[simp] theorem isN_non : D.isN .non = some true := rfl
@[simp] theorem isN_str (s : Str) : D.isN (.str s) = some false := rfl
@[simp] theorem isN_tup (s : List D) : D.isN (.tup s) = some false := rfl
@[simp] theorem isN_lst (s : List D) : D.isN (.lst s) = some false := rfl
@[simp] theorem isN_obj (c : Str) (f : List Str) (s : List D) : D.isN (.obj c f s) = some false := rfl
@[simp] theorem eq_str (a b : Str) : D.eqE (.str a) (.str b) = some (decide (a = b)) := rfl
@[simp] theorem isiS_mk (t : Ty) (d : D) (m : Mode) (n : Bool) : isiS E t ⟨d, m, n⟩ = (isiD E d t).map fun k => ⟨.bl k, .fr, true⟩ := rfl
@[simp] theorem isi_str (b : String) (s : Str) : isiD E (.str s) (.ty b) = kitB "str" b := rfl
@[simp] theorem isi_int (b : String) (s : Int) : isiD E (.int s) (.ty b) = kitB "int" b := rfl
@[simp] theorem isi_tup (b : String) (s : List D) : isiD E (.tup s) (.ty b) = kitB "tuple" b := rfl
@[simp] theorem isi_lst (b : String) (s : List D) : isiD E (.lst s) (.ty b) = kitB "list" b := rfl
@[simp] theorem isi_bl (b : String) (s : Bool) : isiD E (.bl s) (.ty b) = kitB "bool" b := rfl
@[simp] theorem isi_non (b : String) : isiD E .non (.ty b) = kitB "NoneType" b := rfl
@[simp] theorem kit_ss : kitB "str" "str" = some true := by kernel_rfl
@[simp] theorem kit_ts : kitB "tuple" "str" = some false := by kernel_rfl
@[simp] theorem kit_ls : kitB "list" "str" = some false := by kernel_rfl
@[simp] theorem kit_is : kitB "int" "str" = some false := by kernel_rfl
@[simp] theorem kit_tt : kitB "tuple" "tuple" = some true := by kernel_rfl
@[simp] theorem kit_st : kitB "str" "tuple" = some false := by kernel_rfl
@[simp] theorem kit_lt : kitB "list" "tuple" = some false := by kernel_rfl
@[simp] theorem kit_it : kitB "int" "tuple" = some false := by kernel_rfl
@[simp] theorem kit_nt : kitB "NoneType" "tuple" = some false := by kernel_rfl
@[simp] theorem kit_tl : kitB "tuple" "list" = some false := by kernel_rfl
@[simp] theorem kit_sl : kitB "str" "list" = some false := by kernel_rfl
@[simp] theorem kit_ll : kitB "list" "list" = some true := by kernel_rfl
@[simp] theorem kit_il : kitB "int" "list" = some false := by kernel_rfl
@[simp] theorem kit_nl : kitB "NoneType" "list" = some false := by kernel_rfl
@[simp] theorem kit_ii : kitB "int" "int" = some true := by kernel_rfl
@[simp] theorem kit_ib : kitB "int" "bool" = some false := by kernel_rfl
@[simp] theorem kit_bi : kitB "bool" "int" = some true := by kernel_rfl
@[simp] theorem kit_bb : kitB "bool" "bool" = some true := by kernel_rfl
/-- a call whose arguments are all values -/
theorem call_val {fn : List D → M (Sl × Option (D × Bool))} {np : Nat} {more ds : List D} {as : List Ar} {g : G} {md : Mode} {d : D} {n : Bool} (h1 : as.length + more.length = np) (h2 : arsD g as = some ds) (h3 : ioOf as = none) (h : fn (ds ++ more) = some (.ok (⟨d, md, n⟩, none))) : doCall fn none np more as g = some (.ok (⟨d, md, n || d.atom⟩, g)) := by
  unfold doCall
  rw [if_pos ⟨h1, rfl⟩, h2]
  dsimp only
  rw [h, bnd_ok]
  dsimp only
  rw [h3]
@[simp] theorem arsD_nil : arsD g [] = some [] := rfl
@[simp] theorem arsD_val (s : Sl) (as : List Ar) : arsD g (.val s :: as) = (arsD g as).map (s.d :: ·) := by
  show (match Ar.d g (.val s), arsD g as with
    | some d, some ds => some (d :: ds)
    | _, _ => none) = _
  cases arsD g as <;> rfl
@[simp] theorem ioOf_nil : ioOf [] = none := rfl
@[simp] theorem ioOf_val (s : Sl) (as : List Ar) : ioOf (.val s :: as) = ioOf as := rfl
@[simp] theorem doCall_val {fn : List D → M (Sl × Option (D × Bool))} {np : Nat} {more : List D} {as : List Ar} : doCall fn none np more as (a0 :: g0) = if as.length + more.length = np then (match arsD (a0 :: g0) as with
    | some ds => M.bnd (fn (ds ++ more)) fun (r, o) => match ioOf as with
      | none => (match o with
        | none => some (.ok (⟨r.d, r.m, r.n || r.d.atom⟩, a0 :: g0))
        | some _ => none)
      | some none => (match o with
        | some _ => some (.ok (⟨r.d, r.m, r.n || r.d.atom⟩, a0 :: g0))
        | none => none)
      | some (some i) => (match o with
        | some dn => (match G.get (a0 :: g0) i with
          | some s => if s.m = .fr then none else some (.ok (⟨r.d, r.m, r.n || r.d.atom⟩, G.put (a0 :: g0) i ⟨dn.1, s.m, dn.1.kidsAtom⟩))
          | none => none)
        | none => none)
    | none => none)
    else none := by
  unfold doCall
  simp only [ioLt, and_true] <;> rfl
end
end Y
set_option Elab.async false
set_option linter.all false
set_option maxRecDepth 100000
set_option maxHeartbeats 4000000
namespace Y
open PySem PySem.Spec L2 PyProof
@[simp] theorem ofString_inj {a b : String} : Str.ofString a = Str.ofString b ↔ a = b := by
  constructor
  · intro h
    rw [Str.ofString_eq_toList, Str.ofString_eq_toList] at h
    have h1 : (a.toList.map Char.toNat) = (b.toList.map Char.toNat) := by
      have := congrArg (fun s : Str => s.cps.toList) h
      simpa using this
    have h2 : a.toList = b.toList := by
      have inj : ∀ (l m : List Char), l.map Char.toNat = m.map Char.toNat → l = m := by
        intro l
        induction l with
        | nil => intro m h; cases m with
          | nil => rfl
          | cons => cases h
        | cons x xs ih => intro m h; cases m with
          | nil => cases h
          | cons y ys =>
            simp only [List.map_cons, List.cons.injEq] at h
            rw [ih ys h.2, Char.toNat_inj.mp h.1]
      exact inj _ _ h1
    exact String.toList_inj.mp h2
  · rintro rfl; rfl
/-! ### plain data without truths: == is being the same -/
mutual
def D.nice : Nat → D → Bool
  | _, .non => true
  | _, .int _ => true
  | _, .str s => s.cps.all (· < 0x110000)
  | n + 1, .lst xs => niceL n xs
  | n + 1, .tup xs => niceL n xs
  | _, _ => false
def niceL : Nat → List D → Bool
  | _, [] => true
  | n, x :: xs => D.nice n x && niceL n xs
end
theorem cl_str (s : Str) : PyData.canLay0 (.str s) = s.cps.all (· < 0x110000) := by simp [PyData.canLay0, PyData.strOk]
@[simp] theorem nice_non (n : Nat) : D.nice n .non = true := by cases n <;> rfl
@[simp] theorem nice_int (n : Nat) (i : Int) : D.nice n (.int i) = true := by cases n <;> rfl
@[simp] theorem nice_lst (n : Nat) (xs : List D) : D.nice (n + 1) (.lst xs) = niceL n xs := rfl
@[simp] theorem nice_tup (n : Nat) (xs : List D) : D.nice (n + 1) (.tup xs) = niceL n xs := rfl
@[simp] theorem niceL_nil (n : Nat) : niceL n [] = true := by cases n <;> rfl
@[simp] theorem niceL_cons (n : Nat) (x : D) (xs : List D) : niceL n (x :: xs) = (D.nice n x && niceL n xs) := by cases n <;> rfl
theorem nice_strS (n : Nat) (s : Str) : D.nice n (.str s) = s.cps.all (· < 0x110000) := by cases n <;> rfl
theorem okS_of (s : String) : (Str.ofString s).cps.all (· < 0x110000) = true := by
  rw [Str.ofString_eq_toList]
  simp only [List.all_toArray, List.all_map, List.all_eq_true, Function.comp_apply, decide_eq_true_eq]
  intro c _
  have := c.valid
  have h2 : c.toNat = c.val.toNat := rfl
  rw [h2]
  rcases this with h | ⟨_, h⟩
  · exact Nat.lt_trans h (by decide)
  · exact h
@[simp] theorem nice_strL (n : Nat) (s : String) : D.nice n (.str (Str.ofString s)) = true := by rw [nice_strS, okS_of]
theorem niceL_all {n : Nat} : ∀ {xs : List D}, niceL n xs = true ↔ ∀ x ∈ xs, D.nice n x = true
  | [] => by simp [niceL]
  | x :: xs => by simp [niceL, niceL_all (xs := xs)]
mutual
theorem D.nice_mono : ∀ (n m : Nat) (d : D), n ≤ m → D.nice n d = true → D.nice m d = true
  | n, m, .non, _, _ => by cases m <;> rfl
  | n, m, .int _, _, _ => by cases m <;> rfl
  | n, m, .str s, _, h => by cases n <;> cases m <;> exact h
  | n + 1, m + 1, .lst xs, hl, h => niceL_mono n m xs (by omega) h
  | n + 1, m + 1, .tup xs, hl, h => niceL_mono n m xs (by omega) h
  | n + 1, 0, _, hl, _ => absurd hl (by omega)
theorem niceL_mono : ∀ (n m : Nat) (ds : List D), n ≤ m → niceL n ds = true → niceL m ds = true
  | _, _, [], _, _ => rfl
  | n, m, d :: ds, hl, h => by
    simp only [niceL, Bool.and_eq_true] at h ⊢
    exact ⟨D.nice_mono n m d hl h.1, niceL_mono n m ds hl h.2⟩
end
mutual
theorem nice_py : ∀ (n : Nat) (d : D), D.nice n d = true → ∃ p, d.py = some p ∧ p.canLay0 = true ∧ p.depth ≤ n
  | n, .non, _ => ⟨.none, rfl, rfl, by simp [PyData.depth]⟩
  | n, .int i, _ => ⟨.int i, rfl, rfl, by simp [PyData.depth]⟩
  | n, .str s, h => ⟨.str s, rfl, by rw [cl_str, ← nice_strS n]; exact h, by simp [PyData.depth]⟩
  | n + 1, .lst xs, h => by
    obtain ⟨ps, h1, h2, h3⟩ := niceL_py n xs h
    exact ⟨.list ps, by simp [D.py, h1], h2, by simp only [PyData.depth]; omega⟩
  | n + 1, .tup xs, h => by
    obtain ⟨ps, h1, h2, h3⟩ := niceL_py n xs h
    exact ⟨.tuple ps, by simp [D.py, h1], h2, by simp only [PyData.depth]; omega⟩
theorem niceL_py : ∀ (n : Nat) (ds : List D), niceL n ds = true → ∃ ps, pyL ds = some ps ∧ PyData.canLayAll0 ps = true ∧ PyData.depthAll ps ≤ n
  | n, [], _ => ⟨[], rfl, rfl, by simp [PyData.depthAll]⟩
  | n, d :: ds, h => by
    simp only [niceL, Bool.and_eq_true] at h
    obtain ⟨p, h1, h2, h3⟩ := nice_py n d h.1
    obtain ⟨ps, h4, h5, h6⟩ := niceL_py n ds h.2
    exact ⟨p :: ps, by simp [pyL, h1, h4], by simp [PyData.canLayAll0, h2, h5], by simp only [PyData.depthAll]; omega⟩
end
mutual
theorem nice_eqv : ∀ (n m : Nat) (a b : D) (p q : PyData), D.nice n a = true → D.nice m b = true → a.py = some p → b.py = some q → (PyData.eqv p q = true ↔ a = b) := by
  intro n m a b p q ha hb hp hq
  cases a <;> cases b <;> cases n <;> cases m <;> simp [D.nice, -nice_strL] at ha hb <;> simp [D.py] at hp hq
  all_goals first
    | (subst hp; subst hq; simp [PyData.eqv]; done)
    | (obtain ⟨ps, h1, rfl⟩ := hp; subst hq; simp [PyData.eqv]; done)
    | (obtain ⟨ps, h1, rfl⟩ := hq; subst hp; simp [PyData.eqv]; done)
    | (obtain ⟨ps, h1, rfl⟩ := hp; obtain ⟨qs, h2, rfl⟩ := hq; simp [PyData.eqv]; first | done | (exact niceL_eqv _ _ _ _ _ _ ha hb h1 h2))
theorem niceL_eqv : ∀ (n m : Nat) (as bs : List D) (ps qs : List PyData), niceL n as = true → niceL m bs = true → pyL as = some ps → pyL bs = some qs → (PyData.eqvAll ps qs = true ↔ as = bs) := by
  intro n m as bs ps qs ha hb hp hq
  cases as with
  | nil =>
    cases hp
    cases bs with
    | nil => cases hq; simp [PyData.eqvAll]
    | cons b bs =>
      obtain ⟨qs', h4, h5, h6⟩ := niceL_py m (b :: bs) hb
      simp only [niceL, Bool.and_eq_true] at hb
      obtain ⟨q, h1, _⟩ := nice_py m b hb.1
      obtain ⟨qt, h2, _⟩ := niceL_py m bs hb.2
      simp [pyL, h1, h2] at hq
      subst hq
      simp [PyData.eqvAll]
  | cons a as =>
    simp only [niceL, Bool.and_eq_true] at ha
    obtain ⟨p, h1, _⟩ := nice_py n a ha.1
    obtain ⟨pt, h2, _⟩ := niceL_py n as ha.2
    simp [pyL, h1, h2] at hp
    subst hp
    cases bs with
    | nil => cases hq; simp [PyData.eqvAll]
    | cons b bs =>
      simp only [niceL, Bool.and_eq_true] at hb
      obtain ⟨q, h3, _⟩ := nice_py m b hb.1
      obtain ⟨qt, h4, _⟩ := niceL_py m bs hb.2
      simp [pyL, h3, h4] at hq
      subst hq
      simp only [PyData.eqvAll, Bool.and_eq_true, List.cons.injEq]
      rw [nice_eqv n m a b p q ha.1 hb.1 h1 h3, niceL_eqv n m as bs pt qt ha.2 hb.2 h2 h4]
end
theorem okP_of {p : PyData} {n : Nat} (h : p.canLay0 = true) (hd : p.depth ≤ n) (hn : n ≤ 64) : okP p = true := by
  unfold okP SeqAt.shaped
  simp [h]
  omega
theorem eqP_nice {n m : Nat} {a b : D} {P : Prop} [Decidable P] (ha : D.nice n a = true) (hb : D.nice m b = true) (hn : n ≤ 64) (hm : m ≤ 64) (e : a = b ↔ P) : D.eqP a b = some (decide P) := by
  obtain ⟨p, h1, h2, h3⟩ := nice_py n a ha
  obtain ⟨q, h4, h5, h6⟩ := nice_py m b hb
  unfold D.eqP
  rw [h1, h4]
  simp only [okP_of h2 h3 hn, okP_of h5 h6 hm, Bool.and_self, if_true, Option.some.injEq]
  have := nice_eqv n m a b p q ha hb h1 h4
  rw [e] at this
  by_cases hP : P
  · simp [hP, this.mpr hP]
  · simp only [hP, iff_false, Bool.not_eq_true] at this
    simp [hP, this]
theorem eqE_nice {n m : Nat} {a b : D} {P : Prop} [Decidable P] (ha : D.nice n a = true) (hb : D.nice m b = true) (hn : n ≤ 64) (hm : m ≤ 64) (e : a = b ↔ P) : D.eqE a b = some (decide P) := by
  cases a with
  | str x =>
    cases b with
    | str y =>
      have h : (x = y) ↔ P := by
        rw [← e]
        exact ⟨fun h => by rw [h], fun h => by cases h; rfl⟩
      show some (decide (x = y)) = some (decide P)
      rw [decide_eq_decide.mpr h]
    | _ => exact eqP_nice ha hb hn hm e
  | _ => exact eqP_nice ha hb hn hm e
theorem inn_lst {n m : Nat} {x : D} {ys : List D} {P : Prop} [Decidable P] (hx : D.nice n x = true) (hy : ∀ y ∈ ys, D.nice m y = true) (hn : n ≤ 64) (hm : m ≤ 63) (e : x ∈ ys ↔ P) : D.inn x (.lst ys) = some (decide P) := by
  obtain ⟨p, h1, h2, h3⟩ := nice_py n x hx
  obtain ⟨qs, h4, h5, h6⟩ := niceL_py m ys (niceL_all.mpr hy)
  have key : ∀ (ys : List D) (qs : List PyData), (∀ y ∈ ys, D.nice m y = true) → pyL ys = some qs → ((qs.any fun z => PyData.eqv z p) = true ↔ x ∈ ys) := by
    intro ys
    induction ys with
    | nil => intro qs _ h; cases h; simp
    | cons y ys ih =>
      intro qs hy h
      obtain ⟨q, a1, _⟩ := nice_py m y (hy y (by simp))
      obtain ⟨qt, a2, _⟩ := niceL_py m ys (niceL_all.mpr fun z hz => hy z (by simp [hz]))
      simp [pyL, a1, a2] at h
      subst h
      simp only [List.any_cons, Bool.or_eq_true, List.mem_cons]
      rw [ih qt (fun z hz => hy z (by simp [hz])) a2, nice_eqv m n y x q p (hy y (by simp)) hx a1 h1]
      exact or_congr_left eq_comm
  show (match D.py x, pyL ys with
    | some p, some qs => if okP p && okP (.list qs) then some (qs.any fun z => PyData.eqv z p) else none
    | _, _ => none) = _
  rw [h1, h4]
  have o2 : okP (.list qs) = true := okP_of (n := m + 1) h5 (by simp only [PyData.depth]; omega) (by omega)
  simp only [okP_of h2 h3 hn, o2, Bool.and_self, if_true, Option.some.injEq]
  have := key ys qs hy h4
  rw [e] at this
  by_cases hP : P
  · simp only [hP, decide_true]; exact this.mpr hP
  · simp only [hP, iff_false, Bool.not_eq_true] at this
    simp only [hP, decide_false]; exact this
theorem inn_tup {n m : Nat} {x : D} {ys : List D} {P : Prop} [Decidable P] (hx : D.nice n x = true) (hy : ∀ y ∈ ys, D.nice m y = true) (hn : n ≤ 64) (hm : m ≤ 63) (e : x ∈ ys ↔ P) : D.inn x (.tup ys) = some (decide P) := by
  obtain ⟨p, h1, h2, h3⟩ := nice_py n x hx
  obtain ⟨qs, h4, h5, h6⟩ := niceL_py m ys (niceL_all.mpr hy)
  have key : ∀ (ys : List D) (qs : List PyData), (∀ y ∈ ys, D.nice m y = true) → pyL ys = some qs → ((qs.any fun z => PyData.eqv z p) = true ↔ x ∈ ys) := by
    intro ys
    induction ys with
    | nil => intro qs _ h; cases h; simp
    | cons y ys ih =>
      intro qs hy h
      obtain ⟨q, a1, _⟩ := nice_py m y (hy y (by simp))
      obtain ⟨qt, a2, _⟩ := niceL_py m ys (niceL_all.mpr fun z hz => hy z (by simp [hz]))
      simp [pyL, a1, a2] at h
      subst h
      simp only [List.any_cons, Bool.or_eq_true, List.mem_cons]
      rw [ih qt (fun z hz => hy z (by simp [hz])) a2, nice_eqv m n y x q p (hy y (by simp)) hx a1 h1]
      exact or_congr_left eq_comm
  show (match D.py x, pyL ys with
    | some p, some qs => if okP p && okP (.tuple qs) then some (qs.any fun z => PyData.eqv z p) else none
    | _, _ => none) = _
  rw [h1, h4]
  have o2 : okP (.tuple qs) = true := okP_of (n := m + 1) h5 (by simp only [PyData.depth]; omega) (by omega)
  simp only [okP_of h2 h3 hn, o2, Bool.and_self, if_true, Option.some.injEq]
  have := key ys qs hy h4
  rw [e] at this
  by_cases hP : P
  · simp only [hP, decide_true]; exact this.mpr hP
  · simp only [hP, iff_false, Bool.not_eq_true] at this
    simp only [hP, decide_false]; exact this
theorem indexD_nice {n m : Nat} {x : D} (hx : D.nice n x = true) (hn : n ≤ 64) (hm : m ≤ 64) [DecidableEq D] : ∀ (ys : List D) (k : Nat), (∀ y ∈ ys, D.nice m y = true) → x ∈ ys → indexD x ys k = some (k + ys.findIdx (fun y => decide (y = x)))
  | [], _, _, h => by simp at h
  | y :: ys, k, hy, h => by
    unfold indexD
    rw [eqE_nice (P := y = x) (hy y (by simp)) hx hm hn Iff.rfl]
    by_cases e : y = x
    · subst e; simp [List.findIdx_cons]
    · simp only [e, decide_false]
      rw [indexD_nice hx hn hm ys (k + 1) (fun z hz => hy z (by simp [hz])) (by simpa [Ne.symm e, eq_comm, e] using h)]
      simp [List.findIdx_cons, e]
      omega
end Y
set_option Elab.async false
set_option linter.all false
set_option maxRecDepth 100000
set_option maxHeartbeats 4000000
namespace Y
open PySem PySem.Spec L2
/-! ### what a call gives, without the marks of the new -/
def strip (m : M (Sl × Option (D × Bool))) : M (D × Mode × Option D) := M.bnd m fun (s, o) => some (.ok (s.d, s.m, o.map (·.1)))
@[simp] theorem strip_ok (d : D) (m : Mode) (n : Bool) (o : Option (D × Bool)) : strip (some (.ok (⟨d, m, n⟩, o))) = some (.ok (d, m, o.map (·.1))) := rfl
def Gives (m : M (Sl × Option (D × Bool))) (md : Mode) (d : D) : Prop := strip m = some (.ok (d, md, none))
theorem Gives.n {m : M (Sl × Option (D × Bool))} {md : Mode} {d : D} (h : Gives m md d) : ∃ n, m = some (.ok (⟨d, md, n⟩, none)) := by
  unfold Gives strip at h
  cases m with
  | none => cases h
  | some o =>
    cases o with
    | ex c => cases h
    | ok a =>
      obtain ⟨⟨d', m', n⟩, o⟩ := a
      cases o with
      | none => cases h; exact ⟨n, rfl⟩
      | some o => cases h
/-- .. and changes its argument -/
def GivesIo (m : M (Sl × Option (D × Bool))) (md : Mode) (d d1 : D) : Prop := strip m = some (.ok (d, md, some d1))
theorem GivesIo.n {m : M (Sl × Option (D × Bool))} {md : Mode} {d d1 : D} (h : GivesIo m md d d1) : ∃ n n1, m = some (.ok (⟨d, md, n⟩, some (d1, n1))) := by
  unfold GivesIo strip at h
  cases m with
  | none => cases h
  | some o =>
    cases o with
    | ex c => cases h
    | ok a =>
      obtain ⟨⟨d', m', n⟩, o⟩ := a
      cases o with
      | none => cases h
      | some o => obtain ⟨o, n1⟩ := o; cases h; exact ⟨n, n1, rfl⟩
section
variable {E : Ev} {g g0 : G} {a0 : Option Sl}
@[simp] theorem wipe_nil : G.wipe g [] = g := rfl
@[simp] theorem wipe_cons (v : Nat) (vs : List Nat) : G.wipe g (v :: vs) = (G.wipe g vs).set v none := rfl
@[simp] theorem rest_nil (g1 : G) : G.restore g g1 [] = g := rfl
@[simp] theorem rest_cons (g1 : G) (v : Nat) (vs : List Nat) : G.restore g g1 (v :: vs) = (G.restore g g1 vs).set v (g1[v]?).join := rfl
@[simp] theorem putAll_nil (n : Bool) : putAll (a0 :: g0) [] [] n = some (a0 :: g0) := rfl
@[simp] theorem putAll_cons (i : Nat) (is : List Nat) (d : D) (ds : List D) (n : Bool) : putAll (a0 :: g0) (i :: is) (d :: ds) n = if slotFree (G.get (a0 :: g0) i) ∧ i < (a0 :: g0).length then putAll (G.put (a0 :: g0) i ⟨d, .fr, n || d.atom⟩) is ds n else none := by
  rw [putAll]
  unfold slotFree
  cases h : G.get (a0 :: g0) i with
  | none => simp
  | some s => obtain ⟨d, m, n⟩ := s; cases m <;> simp
@[simp] theorem bind_one (i : Nat) (d : D) (n : Bool) : bindT (a0 :: g0) (.one i) d n = putAll (a0 :: g0) [i] [d] n := rfl
@[simp] theorem bind_tup (is : List Nat) (ds : List D) (n : Bool) : bindT (a0 :: g0) (.tup is) (.tup ds) n = putAll (a0 :: g0) is ds n := rfl
/-- the body of a for, of an item -/
def forB (E : Ev) (tg : Tg) (n : Bool) (body : List S) (d : D) (g : G) : M (Fl × G) := match bindT g tg d n with
  | some g3 => evSs E body g3
  | none => none
@[simp] theorem forB_e (tg : Tg) (n : Bool) (body : List S) (d : D) : forB E tg n body d (a0 :: g0) = match bindT (a0 :: g0) tg d n with
  | some g3 => evSs E body g3
  | none => none := rfl
@[simp] theorem s_forB (tg : Tg) (k : ItK) (its : List C) (body : List S) : evS E (.for_ tg k its body) (a0 :: g0) = M.nox (M.bnd (evV E its (a0 :: g0)) fun (ss, g1) => match itemsK k ss with
    | some (items, n) => forL (forB E tg n body) items g1
    | none => none) := by rw [evS] <;> rfl
@[simp] theorem forL_nil (f : D → G → M (Fl × G)) : forL f [] (a0 :: g0) = some (.ok (.nx, a0 :: g0)) := rfl
@[simp] theorem forL_cons (f : D → G → M (Fl × G)) (d : D) (ds : List D) : forL f (d :: ds) (a0 :: g0) = M.bnd (f d (a0 :: g0)) fun (fl, g1) => match fl with
    | .nx => forL f ds g1
    | .ct => forL f ds g1
    | .bk => some (.ok (.nx, g1))
    | .rt s => some (.ok (.rt s, g1)) := rfl
theorem s_forD (i j : Nat) (f : Str) (body : List S) {c : Str} {fs : List Str} {xs : List D} {md : Mode} {n : Bool} {ks : List Key} {vs : List D} (h1 : g.get j = some ⟨.obj c fs xs, md, n⟩) (h2 : E.att c f = true) (h3 : look fs xs f = some (.dct ks vs)) :
    evS E (.forD i j f body) g = M.nox (forL (forB E (.one i) true body) (ks.map keyD) g) := by
  rw [evS]
  simp only [h1, h2, h3, if_true]
  rfl
/-- a for, by what holds ahead of the items that are left -/
theorem forL_rule {f : D → G → M (Fl × G)} (I : List D → G → Prop) (Q : Fl → G → Prop) (h : ∀ d ds g, I (d :: ds) g → ∃ fl g1, f d g = some (.ok (fl, g1)) ∧ (match fl with
    | .nx => I ds g1
    | .ct => I ds g1
    | .bk => Q .nx g1
    | .rt s => Q (.rt s) g1)) (h0 : ∀ g, I [] g → Q .nx g) : ∀ items g, I items g → ∃ fl g1, forL f items g = some (.ok (fl, g1)) ∧ Q fl g1
  | [], g, i => ⟨.nx, g, rfl, h0 g i⟩
  | d :: ds, g, i => by
    obtain ⟨fl, g1, e, q⟩ := h d ds g i
    unfold forL
    rw [e, bnd_ok]
    cases fl with
    | nx => exact forL_rule I Q h h0 ds g1 q
    | ct => exact forL_rule I Q h h0 ds g1 q
    | bk => exact ⟨_, _, rfl, q⟩
    | rt s => exact ⟨_, _, rfl, q⟩
/-- a while, by what holds ahead of each turn; N: turns that are left at the most -/
theorem whileL_rule {t : G → M (Bool × G)} {b : G → M (Fl × G)} (I : Nat → G → Prop) (Q : Fl → G → Prop) (h : ∀ n g, I n g → ∃ k g1, t g = some (.ok (k, g1)) ∧ (k = false → Q .nx g1) ∧ (k = true → ∃ m fl g2, n = m + 1 ∧ b g1 = some (.ok (fl, g2)) ∧ (match fl with
    | .nx => I m g2
    | .ct => I m g2
    | .bk => Q .nx g2
    | .rt s => Q (.rt s) g2))) : ∀ n N g, I n g → n < N → ∃ fl g1, whileL t b N g = some (.ok (fl, g1)) ∧ Q fl g1
  | n, N + 1, g, i, hl => by
    obtain ⟨k, g1, e, q0, q1⟩ := h n g i
    unfold whileL
    rw [e, bnd_ok]
    dsimp only
    cases k with
    | false => exact ⟨_, _, rfl, q0 rfl⟩
    | true =>
      obtain ⟨m, fl, g2, hm, e2, q⟩ := q1 rfl
      rw [if_pos rfl, e2, bnd_ok]
      cases fl with
      | nx => exact whileL_rule I Q h m N g2 q (by omega)
      | ct => exact whileL_rule I Q h m N g2 q (by omega)
      | bk => exact ⟨_, _, rfl, q⟩
      | rt s => exact ⟨_, _, rfl, q⟩
/-- a comprehension over typed items -/
theorem comp_rule {α : Type} {own : List Nat} {tg : Tg} {k : ItK} {its : List C} {elt : C} {ss : List Sl} {g1 : G} {n : Bool} (xs : List α) (e F : α → D) (h1 : evV E its g = some (.ok (ss, g1))) (h2 : itemsK k ss = some (xs.map e, n)) (h3 : ownOk g1 own = true) (hl : xs.length < lim)
    (h : ∀ x ∈ xs, ∃ g3 d m f g5, bindT (G.wipe g1 own) tg (e x) n = some g3 ∧ evE E elt g3 = some (.ok (⟨d, m, f⟩, g5)) ∧ d = F x ∧ G.wipe g5 own = G.wipe g1 own) :
    ∃ f, evE E (.comp own tg k its none elt) g = some (.ok (⟨.lst (xs.map F), .ow, f⟩, G.restore (G.wipe g1 own) g1 own)) := by
  have key : ∀ ys : List α, (∀ y ∈ ys, y ∈ xs) → ∃ rs, compL (fun d g2 => match bindT g2 tg d n with
      | some g3 => M.bnd (evTO E none g3).nox fun (k, g4) => if k then M.bnd (evE E elt g4).nox fun (s, g5) => some (.ok (some s.frz, G.wipe g5 own)) else some (.ok (none, G.wipe g4 own))
      | none => none) (ys.map e) (G.wipe g1 own) = some (.ok (rs, G.wipe g1 own)) ∧ dsL rs = ys.map F := by
    intro ys
    induction ys with
    | nil => exact fun _ => ⟨[], rfl, rfl⟩
    | cons y ys ih =>
      intro hy
      obtain ⟨g3, d, m, f, g5, a1, a2, a3, a4⟩ := h y (hy y (by simp))
      obtain ⟨rs, b1, b2⟩ := ih fun z hz => hy z (by simp [hz])
      refine ⟨⟨d, .fr, f⟩ :: rs, ?_, ?_⟩
      · simp only [List.map_cons, compL]
        rw [a1]
        dsimp only
        rw [show evTO E none g3 = some (.ok (true, g3)) by rw [evTO] <;> rfl]
        simp only [nox_ok, bnd_ok, if_true]
        rw [a2]
        simp only [nox_ok, bnd_ok, a4]
        rw [b1]
        rfl
      · show d :: dsL rs = _
        rw [b2, a3]
        rfl
  obtain ⟨rs, r1, r2⟩ := key xs fun _ h => h
  refine ⟨rs.all (·.n), ?_⟩
  rw [evE, h1, bnd_ok]
  dsimp only
  rw [h2]
  dsimp only
  rw [if_pos h3]
  refine (bnd_congr r1).trans ?_
  rw [bnd_ok]
  dsimp only
  have hlen : rs.length = xs.length := by
    have := congrArg List.length r2
    simpa [dsL] using this
  rw [if_pos (by omega), r2]
/-- .. all of it new -/
theorem comp_rule_n {α : Type} {own : List Nat} {tg : Tg} {k : ItK} {its : List C} {elt : C} {ss : List Sl} {g1 : G} {n : Bool} (xs : List α) (e F : α → D) (h1 : evV E its g = some (.ok (ss, g1))) (h2 : itemsK k ss = some (xs.map e, n)) (h3 : ownOk g1 own = true) (hl : xs.length < lim)
    (h : ∀ x ∈ xs, ∃ g3 d m g5, bindT (G.wipe g1 own) tg (e x) n = some g3 ∧ evE E elt g3 = some (.ok (⟨d, m, true⟩, g5)) ∧ d = F x ∧ G.wipe g5 own = G.wipe g1 own) :
    evE E (.comp own tg k its none elt) g = some (.ok (⟨.lst (xs.map F), .ow, true⟩, G.restore (G.wipe g1 own) g1 own)) := by
  have key : ∀ ys : List α, (∀ y ∈ ys, y ∈ xs) → ∃ rs, compL (fun d g2 => match bindT g2 tg d n with
      | some g3 => M.bnd (evTO E none g3).nox fun (k, g4) => if k then M.bnd (evE E elt g4).nox fun (s, g5) => some (.ok (some s.frz, G.wipe g5 own)) else some (.ok (none, G.wipe g4 own))
      | none => none) (ys.map e) (G.wipe g1 own) = some (.ok (rs, G.wipe g1 own)) ∧ dsL rs = ys.map F ∧ rs.all (·.n) = true := by
    intro ys
    induction ys with
    | nil => exact fun _ => ⟨[], rfl, rfl, rfl⟩
    | cons y ys ih =>
      intro hy
      obtain ⟨g3, d, m, g5, a1, a2, a3, a4⟩ := h y (hy y (by simp))
      obtain ⟨rs, b1, b2, b3⟩ := ih fun z hz => hy z (by simp [hz])
      refine ⟨⟨d, .fr, true⟩ :: rs, ?_, ?_, by simpa using b3⟩
      · simp only [List.map_cons, compL]
        rw [a1]
        dsimp only
        rw [show evTO E none g3 = some (.ok (true, g3)) by rw [evTO] <;> rfl]
        simp only [nox_ok, bnd_ok, if_true]
        rw [a2]
        simp only [nox_ok, bnd_ok, a4]
        rw [b1]
        rfl
      · show d :: dsL rs = _
        rw [b2, a3]
        rfl
  obtain ⟨rs, r1, r2, r3⟩ := key xs fun _ h => h
  rw [evE, h1, bnd_ok]
  dsimp only
  rw [h2]
  dsimp only
  rw [if_pos h3]
  refine (bnd_congr r1).trans ?_
  rw [bnd_ok]
  dsimp only
  have hlen : rs.length = xs.length := by
    have := congrArg List.length r2
    simpa [dsL] using this
  rw [if_pos (by omega), r2, r3]
/-- .. with a test -/
theorem comp_rule_if {α : Type} {own : List Nat} {tg : Tg} {k : ItK} {its : List C} {cond elt : C} {ss : List Sl} {g1 : G} {n : Bool} (xs : List α) (p : α → Bool) (e F : α → D) (h1 : evV E its g = some (.ok (ss, g1))) (h2 : itemsK k ss = some (xs.map e, n)) (h3 : ownOk g1 own = true) (hl : xs.length < lim)
    (h : ∀ x ∈ xs, ∃ g3 g4, bindT (G.wipe g1 own) tg (e x) n = some g3 ∧ tst cond (evE E cond) g3 = some (.ok (p x, g4)) ∧ (p x = false → G.wipe g4 own = G.wipe g1 own) ∧ (p x = true → ∃ d m f g5, evE E elt g4 = some (.ok (⟨d, m, f⟩, g5)) ∧ d = F x ∧ G.wipe g5 own = G.wipe g1 own)) :
    ∃ f, evE E (.comp own tg k its (some cond) elt) g = some (.ok (⟨.lst ((xs.filter p).map F), .ow, f⟩, G.restore (G.wipe g1 own) g1 own)) := by
  have key : ∀ ys : List α, (∀ y ∈ ys, y ∈ xs) → ∃ rs, compL (fun d g2 => match bindT g2 tg d n with
      | some g3 => M.bnd (evTO E (some cond) g3).nox fun (k, g4) => if k then M.bnd (evE E elt g4).nox fun (s, g5) => some (.ok (some s.frz, G.wipe g5 own)) else some (.ok (none, G.wipe g4 own))
      | none => none) (ys.map e) (G.wipe g1 own) = some (.ok (rs, G.wipe g1 own)) ∧ dsL rs = (ys.filter p).map F := by
    intro ys
    induction ys with
    | nil => exact fun _ => ⟨[], rfl, rfl⟩
    | cons y ys ih =>
      intro hy
      obtain ⟨g3, g4, a1, a2, a3, a4⟩ := h y (hy y (by simp))
      obtain ⟨rs, b1, b2⟩ := ih fun z hz => hy z (by simp [hz])
      cases hp : p y with
      | false =>
        refine ⟨rs, ?_, by rw [List.filter_cons, hp]; exact b2⟩
        simp only [List.map_cons, compL]
        rw [a1]
        dsimp only
        rw [show evTO E (some cond) g3 = tst cond (evE E cond) g3 by rw [evTO] <;> rfl, a2, hp]
        simp only [nox_ok, bnd_ok, Bool.false_eq_true, if_false]
        rw [a3 hp, b1]
        rfl
      | true =>
        obtain ⟨d, m, f, g5, c1, c2, c3⟩ := a4 hp
        refine ⟨⟨d, .fr, f⟩ :: rs, ?_, ?_⟩
        · simp only [List.map_cons, compL]
          rw [a1]
          dsimp only
          rw [show evTO E (some cond) g3 = tst cond (evE E cond) g3 by rw [evTO] <;> rfl, a2, hp]
          simp only [nox_ok, bnd_ok, if_true]
          rw [c1]
          simp only [nox_ok, bnd_ok, c3]
          rw [b1]
          rfl
        · rw [List.filter_cons, hp]
          show d :: dsL rs = _
          rw [b2, c2]
          rfl
  obtain ⟨rs, r1, r2⟩ := key xs fun _ h => h
  refine ⟨rs.all (·.n), ?_⟩
  rw [evE, h1, bnd_ok]
  dsimp only
  rw [h2]
  dsimp only
  rw [if_pos h3]
  refine (bnd_congr r1).trans ?_
  rw [bnd_ok]
  dsimp only
  have hlen : rs.length ≤ xs.length := by
    have := congrArg List.length r2
    simp [dsL] at this
    have h2 := List.length_filter_le p xs
    omega
  rw [if_pos (by omega), r2]
/-! ### data -/
@[simp] theorem lim_def : lim = 100000 := rfl
@[simp] theorem dsL_nil : dsL [] = [] := rfl
@[simp] theorem dsL_cons (s : Sl) (ss : List Sl) : dsL (s :: ss) = s.d :: dsL ss := rfl
@[simp] theorem ent_nil (io : Option Nat) (j : Nat) : ent io j [] = [] := rfl
@[simp] theorem ent_cons (io : Option Nat) (j : Nat) (d : D) (ds : List D) : ent io j (d :: ds) = some ⟨d, if io = some j then .io else .fr, if io = some j then d.kidsAtom else d.atom⟩ :: ent io (j + 1) ds := rfl
@[simp] theorem outD_none (g : G) : outD none g = some none := rfl
@[simp] theorem outD_some (j : Nat) : outD (some j) (a0 :: g0) = match G.get (a0 :: g0) j with
    | some ⟨d, .io, n⟩ => some (some (d, n))
    | _ => none := rfl
@[simp] theorem runF_e (io : Option Nat) (nN np : Nat) (b : List S) (ds : List D) : runF E io nN np b ds = if ds.length = np then M.bnd (evSs E b (ent io 0 ds ++ List.replicate (nN - np) none)) fun (fl, g1) => match outD io g1 with
    | some o => (match fl with
      | .nx => some (.ok (⟨.non, .fr, true⟩, o))
      | .rt s => some (.ok (s, o))
      | _ => none)
    | none => none
  else none := rfl
theorem gives_iff (m : M (Sl × Option (D × Bool))) (md : Mode) (d : D) : Gives m md d ↔ strip m = some (.ok (d, md, none)) := Iff.rfl
theorem givesIo_iff (m : M (Sl × Option (D × Bool))) (md : Mode) (d d1 : D) : GivesIo m md d d1 ↔ strip m = some (.ok (d, md, some d1)) := Iff.rfl
theorem cut_tail {α : Type} (x : α) (xs : List α) : cutD (x :: xs) (some 1) none = xs := by
  unfold cutD HT.sIx
  simp
@[simp] theorem atI_m4 {α : Type} (a b c d : α) : atI [a, b, c, d] (-1) = some d := rfl
@[simp] theorem atI_m3 {α : Type} (a b c : α) : atI [a, b, c] (-1) = some c := rfl
@[simp] theorem inn2 (a b c : String) : D.inn (.str a) (.tup [.str b, .str c]) = some (decide (a = b ∨ a = c)) := inn_tup (n := 0) (m := 0) (by simp) (by simp) (by omega) (by omega) (by simp)
@[simp] theorem inn6 (a b c d e f h : String) : D.inn (.str a) (.tup [.str b, .str c, .str d, .str e, .str f, .str h]) = some (decide (a = b ∨ a = c ∨ a = d ∨ a = e ∨ a = f ∨ a = h)) := inn_tup (n := 0) (m := 0) (by simp) (by simp) (by omega) (by omega) (by simp)
@[simp] theorem eq_int (i j : Int) : D.eqE (.int i) (.int j) = some (decide (i = j)) := eqE_nice (n := 0) (m := 0) (by simp) (by simp) (by omega) (by omega) (by simp)
theorem eq_unit {n : Nat} {x : D} {xs : List D} (h : D.nice n (.tup (x :: xs)) = true) (hn : n ≤ 64) : D.eqE (.tup (x :: xs)) (.tup []) = some false := by
  rw [eqE_nice (P := False) h (m := 1) (by simp) hn (by omega) (by simp)]
  rfl
@[simp] theorem bin_mk (op : BOp) (d e : D) (m m' : Mode) (n n' : Bool) : resBin op ⟨d, m, n⟩ ⟨e, m', n'⟩ = (d.bin op e).map fun x => bySh x (n && n') := rfl
@[simp] theorem bySh_int (i : Int) (n : Bool) : bySh (.int i) n = ⟨.int i, .fr, true⟩ := rfl
@[simp] theorem bySh_str (i : Str) (n : Bool) : bySh (.str i) n = ⟨.str i, .fr, true⟩ := rfl
@[simp] theorem bySh_lst (i : List D) (n : Bool) : bySh (.lst i) n = ⟨.lst i, .ow, n⟩ := rfl
@[simp] theorem bySh_tup (i : List D) (n : Bool) : bySh (.tup i) n = ⟨.tup i, .fr, n⟩ := rfl
@[simp] theorem bin_addi (i j : Int) : D.bin .add (.int i) (.int j) = some (.int (i + j)) := rfl
@[simp] theorem bin_subi (i j : Int) : D.bin .sub (.int i) (.int j) = some (.int (i - j)) := rfl
@[simp] theorem bin_addl (a b : List D) : D.bin .add (.lst a) (.lst b) = if a.length + b.length ≤ lim then some (.lst (a ++ b)) else none := rfl
@[simp] theorem bin_addt (a b : List D) : D.bin .add (.tup a) (.tup b) = if a.length + b.length ≤ lim then some (.tup (a ++ b)) else none := rfl
@[simp] theorem neg_mk (i : Int) (m : Mode) (n : Bool) : negS ⟨.int i, m, n⟩ = some ⟨.int (-i), .fr, true⟩ := rfl
@[simp] theorem rev_mk (i : List D) (m : Mode) (n : Bool) : revS ⟨.lst i, m, n⟩ = some ⟨.lst i.reverse, .ow, n⟩ := rfl
@[simp] theorem len_l (xs : List D) (m : Mode) (n : Bool) : biD .len [⟨.lst xs, m, n⟩] = some ⟨.int xs.length, .fr, true⟩ := rfl
@[simp] theorem len_t (xs : List D) (m : Mode) (n : Bool) : biD .len [⟨.tup xs, m, n⟩] = some ⟨.int xs.length, .fr, true⟩ := rfl
@[simp] theorem len_k (xs : List Str) (m : Mode) (n : Bool) : biD .len [⟨.ktup xs, m, n⟩] = some ⟨.int xs.length, .fr, true⟩ := rfl
@[simp] theorem len_d (ks : List Key) (xs : List D) (m : Mode) (n : Bool) : biD .len [⟨.dct ks xs, m, n⟩] = some ⟨.int ks.length, .fr, true⟩ := rfl
@[simp] theorem len_s (s : Str) (m : Mode) (n : Bool) : biD .len [⟨.str s, m, n⟩] = if s.length ≤ lim then some ⟨.int s.length, .fr, true⟩ else none := by
  show Option.map _ (if s.length ≤ lim then some (s.length : Int) else none) = _
  split <;> rfl
@[simp] theorem list_l (xs : List D) (m : Mode) (n : Bool) : biD .list [⟨.lst xs, m, n⟩] = some ⟨.lst xs, .ow, n⟩ := rfl
@[simp] theorem list_t (xs : List D) (m : Mode) (n : Bool) : biD .list [⟨.tup xs, m, n⟩] = some ⟨.lst xs, .ow, n⟩ := rfl
@[simp] theorem list_d (ks : List Key) (xs : List D) (m : Mode) (n : Bool) : biD .list [⟨.dct ks xs, m, n⟩] = some ⟨.lst (ks.map keyD), .ow, true⟩ := rfl
@[simp] theorem tuple_l (xs : List D) (m : Mode) (n : Bool) : biD .tuple [⟨.lst xs, m, n⟩] = some ⟨.tup xs, .fr, n⟩ := rfl
@[simp] theorem blsD_map {α : Type} (xs : List α) (p : α → Bool) : blsD (xs.map fun x => .bl (p x)) = some (xs.map p) := by
  induction xs with
  | nil => rfl
  | cons x xs ih => simp [blsD, ih]
@[simp] theorem all_l (xs : List D) (m : Mode) (n : Bool) : biD .all [⟨.lst xs, m, n⟩] = (blsD xs).map fun bs => ⟨.bl (bs.all id), .fr, true⟩ := rfl
@[simp] theorem any_l (xs : List D) (m : Mode) (n : Bool) : biD .any [⟨.lst xs, m, n⟩] = (blsD xs).map fun bs => ⟨.bl (bs.any id), .fr, true⟩ := rfl
@[simp] theorem items_l (xs : List D) : D.items (.lst xs) = some xs := rfl
@[simp] theorem items_t (xs : List D) : D.items (.tup xs) = some xs := rfl
@[simp] theorem itemsK_any (d : D) (m : Mode) (n : Bool) : itemsK .any [⟨d, m, n⟩] = d.items.map fun l => (l, n) := rfl
@[simp] theorem itemsK_enum (xs : List D) (m : Mode) (n : Bool) : itemsK .enum [⟨.lst xs, m, n⟩] = some (enumL xs, n) := rfl
@[simp] theorem itemsK_zip (xs ys : List D) (m m' : Mode) (n n' : Bool) : itemsK .zip [⟨.lst xs, m, n⟩, ⟨.lst ys, m', n'⟩] = some (zipL xs ys, n && n') := rfl
@[simp] theorem itemsK_zipk (xs : List D) (ys : List Str) (m m' : Mode) (n n' : Bool) : itemsK .zip [⟨.tup xs, m, n⟩, ⟨.ktup ys, m', n'⟩] = some (zipL xs (ys.map .str), n) := rfl
@[simp] theorem itemsK_rng (j : Int) (m : Mode) (n : Bool) : itemsK .rng1 [⟨.int j, m, n⟩] = if rngOk j then some (rngL 0 j.toNat 1, true) else none := rfl
@[simp] theorem attS_mk (f c : Str) (fs : List Str) (xs : List D) (m : Mode) (n : Bool) : attS E f ⟨.obj c fs xs, m, n⟩ = if E.att c f then (look fs xs f).map fun d => ⟨d, .fr, n || d.atom⟩ else none := rfl
@[simp] theorem look_nil {κ α : Type} [DecidableEq κ] (j : κ) : look ([] : List κ) ([] : List α) j = none := rfl
@[simp] theorem look_cons {κ α : Type} [DecidableEq κ] (k : κ) (ks : List κ) (x : α) (xs : List α) (j : κ) : look (k :: ks) (x :: xs) j = if k = j then some x else look ks xs j := rfl
@[simp] theorem mutS_e (i : Nat) (f : D → Option D) (n : Bool) : mutSlot (a0 :: g0) i f n = match G.get (a0 :: g0) i with
  | some ⟨d, .fr, _⟩ => none
  | some ⟨d, m, n0⟩ => (match f d with
    | some d' => some (.ok (.nx, G.put (a0 :: g0) i ⟨d', m, n0 && n⟩))
    | none => none)
  | none => none := rfl
@[simp] theorem app_l (v : D) (xs : List D) : D.app v (.lst xs) = if xs.length < lim then some (.lst (xs ++ [v])) else none := rfl
@[simp] theorem ext_l (v xs : List D) : D.ext (.lst v) (.lst xs) = if xs.length + v.length ≤ lim then some (.lst (xs ++ v)) else none := rfl
@[simp] theorem ownL_e (i : Nat) : ownL (a0 :: g0) i = match G.get (a0 :: g0) i with
  | some ⟨.lst _, .ow, _⟩ => true
  | some ⟨.lst _, .io, _⟩ => true
  | _ => false := rfl
@[simp] theorem isi_obj (t c : Str) (fs : List Str) (xs : List D) : isiD E (.obj c fs xs) (.cls t) = E.isi (.inr c) (.cls t) := rfl
@[simp] theorem isi_objt (t : String) (c : Str) (fs : List Str) (xs : List D) : isiD E (.obj c fs xs) (.ty t) = E.isi (.inr c) (.ty t) := rfl
@[simp] theorem isi_nonc (t : Str) : isiD E .non (.cls t) = E.isi (.inl "NoneType") (.cls t) := rfl
@[simp] theorem isi_tupc (t : Str) (xs : List D) : isiD E (.tup xs) (.cls t) = E.isi (.inl "tuple") (.cls t) := rfl
@[simp] theorem isi_lstc (t : Str) (xs : List D) : isiD E (.lst xs) (.cls t) = E.isi (.inl "list") (.cls t) := rfl
@[simp] theorem slc_t (xs : List D) (m : Mode) (n : Bool) (l h : Option Int) : slcS l h ⟨.tup xs, m, n⟩ = some ⟨.tup (cutD xs l h), .fr, n⟩ := rfl
@[simp] theorem slc_l (xs : List D) (m : Mode) (n : Bool) (l h : Option Int) : slcS l h ⟨.lst xs, m, n⟩ = some ⟨.lst (cutD xs l h), .ow, n || (D.lst (cutD xs l h)).kidsAtom⟩ := rfl
@[simp] theorem e_new (c : Str) (f : Nat) (args : List C) : evE E (.new c f args) (a0 :: g0) = M.bnd (evA E (E.io f) 1 args (a0 :: g0)) fun (as, g1) => if E.io f = some 0 ∧ E.ini c = some f ∧ as.length + 1 + (moreOf E f (args.length + 1)).length = E.np f then match arsD g1 as with
      | some ds => M.bnd (E.fm f (.obj c [] [] :: (ds ++ moreOf E f (args.length + 1)))) fun (r, o) => match r.d, o with
        | .non, some dn => some (.ok (⟨dn.1, .ow, dn.2 || dn.1.kidsAtom⟩, g1))
        | _, _ => none
      | none => none
    else none := by rw [evE] <;> rfl
@[simp] theorem e_meth (m : Str) (io : Option Nat) (o : C) (args : List C) : evE E (.meth m io o args) (a0 :: g0) = M.bnd (arg1 io 0 o (evE E o) (a0 :: g0)) fun (a, g1) => match selfFid E m g1 a with
    | some f => M.bnd (evA E io 1 args g1) fun (as, g2) => if E.io f = io then doCall (E.fn f) io (E.np f) (moreOf E f (args.length + 1)) (a :: as) g2 else none
    | none => none := by rw [evE] <;> rfl
@[simp] theorem op2p_e {pre : D → Bool} {a b : C} {ea eb : G → M (Sl × G)} {f : Sl → Sl → Option Sl} : op2p pre a b ea eb f (a0 :: g0) = M.bnd (opd a ea (a0 :: g0)) fun (oa, g1) => match oa.get g1 with
    | some x0 => if pre x0.d then M.bnd (opd b eb g1) fun (ob, g2) => (match oa.get g2, ob.get g2 with
      | some x, some y => match f x y with
        | some s => some (.ok (s, g2))
        | none => none
      | _, _ => none) else none
    | none => none := rfl
@[simp] theorem isLst_l (xs : List D) : isLst (.lst xs) = true := rfl
@[simp] theorem isDct_d (ks : List Key) (xs : List D) : isDct (.dct ks xs) = true := rfl
@[simp] theorem dget_mk (ks : List Key) (xs : List D) (m m' : Mode) (n n' : Bool) (s : Str) : dgetS ⟨.dct ks xs, m, n⟩ ⟨.str s, m', n'⟩ = some (match look ks xs (.inr s) with
    | some d => ⟨d, .fr, n || d.atom⟩
    | none => ⟨.non, .fr, true⟩) := rfl
@[simp] theorem idx_dct (ks : List Key) (xs : List D) (s : Str) : D.idx (.dct ks xs) (.str s) = look ks xs (.inr s) := rfl
@[simp] theorem inn_dct (ks : List Key) (xs : List D) (s : Str) : D.inn (.str s) (.dct ks xs) = some (look ks xs (.inr s)).isSome := rfl
@[simp] theorem set_obj (E : Ev) (c f : Str) (fs : List Str) (xs : List D) (v : D) : D.setA (.obj c fs xs) E f v = if E.att c f = true ∧ fs.length < 100 ∧ fs.length = xs.length then some (.obj c (setKey fs xs f v).1 (setKey fs xs f v).2) else none := rfl
@[simp] theorem setKey_nil {κ : Type} [DecidableEq κ] (j : κ) (v : D) : setKey [] [] j v = ([j], [v]) := rfl
@[simp] theorem setKey_cons {κ : Type} [DecidableEq κ] (k : κ) (ks : List κ) (x : D) (xs : List D) (j : κ) (v : D) : setKey (k :: ks) (x :: xs) j v = if k = j then (k :: ks, v :: xs) else (k :: (setKey ks xs j v).1, x :: (setKey ks xs j v).2) := by
  rw [setKey]
/-- a result without the mark of the new -/
def evD (E : Ev) (c : C) (g : G) : M (D × G) := M.bnd (evE E c g) fun (s, g1) => some (.ok (s.d, g1))
theorem evD.n {c : C} {g1 : G} {d : D} (h : evD E c g = some (.ok (d, g1))) : ∃ m n, evE E c g = some (.ok (⟨d, m, n⟩, g1)) := by
  unfold evD at h
  cases q : evE E c g with
  | none => rw [q] at h; cases h
  | some o =>
    cases o with
    | ex c => rw [q] at h; cases h
    | ok a =>
      obtain ⟨⟨d', m', n⟩, g'⟩ := a
      rw [q] at h
      cases h
      exact ⟨m', n, rfl⟩
def slotVal (s : Option Sl) : Bool := match s with
  | some ⟨_, .fr, _⟩ => true
  | none => true
  | _ => false
@[simp] theorem val_none : slotVal none = true := rfl
@[simp] theorem val_fr (d : D) (n : Bool) : slotVal (some ⟨d, .fr, n⟩) = true := rfl
@[simp] theorem val_fro (o : Option (D × Bool)) : slotVal (fro o) = true := by cases o <;> rfl
theorem free_of_val {s : Option Sl} (h : slotVal s = true) : slotFree s = true := by
  cases s with
  | none => rfl
  | some s => obtain ⟨d, m, n⟩ := s; cases m <;> first | rfl | cases h
theorem putAll_one {g : G} {i : Nat} {d : D} {n : Bool} (hi : i < g.length) (h : slotFree (g.get i) = true) : putAll g [i] [d] n = some (g.put i ⟨d, .fr, n || d.atom⟩) := by
  cases g with
  | nil => simp at hi
  | cons a0 g0 =>
    rw [putAll_cons, if_pos ⟨h, hi⟩]
    cases i with
    | zero => rfl
    | succ i => rfl
theorem set_back (g : G) (i : Nat) (hi : i < g.length) (s : Option Sl) : (g.set i s).set i (g[i]?).join = g := by
  have e : (g[i]?).join = g[i] := by rw [List.getElem?_eq_getElem hi]; rfl
  rw [e]
  apply List.ext_getElem
  · simp
  · intro j h1 h2
    rw [List.getElem_set, List.getElem_set]
    split
    · subst_vars; rfl
    · rfl
/-- the common form: [elt for i in c] -/
theorem comp1 {α : Type} {i : Nat} {c elt : C} {dl : D} {m : Mode} {n : Bool} (xs : List α) (e F : α → D) (h1 : evE E c g = some (.ok (⟨dl, m, n⟩, g))) (h2 : dl.items = some (xs.map e)) (hi : i < g.length) (hv : slotVal (g.get i) = true) (hl : xs.length < lim)
    (h : ∀ x ∈ xs, ∀ nf, evD E elt (g.set i (some ⟨e x, .fr, nf⟩)) = some (.ok (F x, g.set i (some ⟨e x, .fr, nf⟩)))) :
    ∃ f, evE E (.comp [i] (.one i) .any [c] none elt) g = some (.ok (⟨.lst (xs.map F), .ow, f⟩, g)) := by
  have hget : G.get (g.set i none) i = none := by
    unfold G.get
    rw [List.getElem?_set_self hi]; rfl
  obtain ⟨f, q⟩ := comp_rule (E := E) (own := [i]) (tg := .one i) (k := .any) (its := [c]) (elt := elt) (g := g) (ss := [⟨dl, .fr, n⟩]) (g1 := g) (n := n) xs e F (by
      rw [evV, h1, bnd_ok]; dsimp only; rw [evV]; rfl) (by simp [h2]) (by
      unfold ownOk slotVal at *
      simp only [List.all_cons, List.all_nil, Bool.and_true, hi, decide_true, Bool.true_and]
      exact hv) hl (fun x hx => by
      obtain ⟨m1, n1, q⟩ := evD.n (h x hx (n || (e x).atom))
      refine ⟨_, F x, m1, n1, _, ?_, q, rfl, ?_⟩
      · show putAll (g.set i none) [i] [e x] n = _
        rw [putAll_one (by simpa using hi) (by rw [hget]; rfl)]
        show some ((g.set i none).set i _) = _
        rw [List.set_set]
      · show (g.set i _).set i none = g.set i none
        rw [List.set_set])
  refine ⟨f, q.trans ?_⟩
  show some (Oc.ok (_, (g.set i none).set i (g[i]?).join)) = _
  rw [set_back g i hi]
theorem comp1_if {α : Type} {i : Nat} {c cond elt : C} {dl : D} {m : Mode} {n : Bool} (xs : List α) (p : α → Bool) (e F : α → D) (h1 : evE E c g = some (.ok (⟨dl, m, n⟩, g))) (h2 : dl.items = some (xs.map e)) (hi : i < g.length) (hv : slotVal (g.get i) = true) (hl : xs.length < lim)
    (h0 : ∀ x ∈ xs, ∀ nf, tst cond (evE E cond) (g.set i (some ⟨e x, .fr, nf⟩)) = some (.ok (p x, g.set i (some ⟨e x, .fr, nf⟩))))
    (h : ∀ x ∈ xs, p x = true → ∀ nf, evD E elt (g.set i (some ⟨e x, .fr, nf⟩)) = some (.ok (F x, g.set i (some ⟨e x, .fr, nf⟩)))) :
    ∃ f, evE E (.comp [i] (.one i) .any [c] (some cond) elt) g = some (.ok (⟨.lst ((xs.filter p).map F), .ow, f⟩, g)) := by
  have hget : G.get (g.set i none) i = none := by
    unfold G.get
    rw [List.getElem?_set_self hi]; rfl
  obtain ⟨f, q⟩ := comp_rule_if (E := E) (own := [i]) (tg := .one i) (k := .any) (its := [c]) (cond := cond) (elt := elt) (g := g) (ss := [⟨dl, .fr, n⟩]) (g1 := g) (n := n) xs p e F (by
      rw [evV, h1, bnd_ok]; dsimp only; rw [evV]; rfl) (by simp [h2]) (by
      unfold ownOk slotVal at *
      simp only [List.all_cons, List.all_nil, Bool.and_true, hi, decide_true, Bool.true_and]
      exact hv) hl (fun x hx => by
      refine ⟨_, _, ?_, h0 x hx (n || (e x).atom), fun _ => ?_, fun hp => ?_⟩
      · show putAll (g.set i none) [i] [e x] n = _
        rw [putAll_one (by simpa using hi) (by rw [hget]; rfl)]
        show some ((g.set i none).set i _) = _
        rw [List.set_set]
      · show (g.set i _).set i none = g.set i none
        rw [List.set_set]
      · obtain ⟨m1, n1, q⟩ := evD.n (h x hx hp (n || (e x).atom))
        refine ⟨F x, m1, n1, _, q, rfl, ?_⟩
        show (g.set i _).set i none = g.set i none
        rw [List.set_set])
  refine ⟨f, q.trans ?_⟩
  show some (Oc.ok (_, (g.set i none).set i (g[i]?).join)) = _
  rw [set_back g i hi]
end
end Y
set_option Elab.async false
set_option linter.all false
set_option maxRecDepth 100000
set_option maxHeartbeats 0
namespace Hd
open PySem PySem.Spec PyProof.Rows L2
def f__wall : Nat := 0
def f_is_whole : Nat := 1
def f_is_name : Nat := 2
def f_is_kind : Nat := 3
def f_are_kinds : Nat := 4
def f_put_in : Nat := 5
def f_cells_of : Nat := 6
def f_holds : Nat := 7
def f_fits_part : Nat := 8
def f_terms_room : Nat := 9
def f_term_room : Nat := 10
def f_is_term : Nat := 11
def f_inner : Nat := 12
def f_copied : Nat := 13
def f_asks_of : Nat := 14
def f_plain_kind : Nat := 15
def f_ask_kind : Nat := 16
def f_own_kind : Nat := 17
def f_kind_or_way : Nat := 18
def f_first_misfit : Nat := 19
def f_asked_by : Nat := 20
def f_come_to : Nat := 21
def f_ties_from : Nat := 22
def f_way_to : Nat := 23
def f_growing_ring : Nat := 24
def f_all_makings : Nat := 25
def f_All___init__ : Nat := 26
def f_All_shows : Nat := 27
def f_Endless___init__ : Nat := 28
def f_Endless_shows : Nat := 29
def f_Function___init__ : Nat := 30
def f_Function_told : Nat := 31
def f_Book___init__ : Nat := 32
def f_Book_names : Nat := 33
def f_Book_function : Nat := 34
def f_check_start : Nat := 35
def f_makings : Nat := 36
def f__law_cell_at : Nat := 37
def f__law_draw : Nat := 38
def f__law_number : Nat := 39
def f__law_book : Nat := 40
def f__law_cells : Nat := 41
def f__law_full : Nat := 42
def f__law_sum : Nat := 43
def f__law_by_it : Nat := 44
def f__law_edges_right : Nat := 45
def f_law : Nat := 46
def top (i : Nat) : Stmt := PySem.Challenge.pw_kindmakings_k16_edges.main.body.getD i (.Pass ⟨0, 0, 0, 0⟩)
abbrev s__wall : Stmt := top 0
abbrev s_is_whole : Stmt := top 4
abbrev s_is_name : Stmt := top 5
abbrev s_is_kind : Stmt := top 6
abbrev s_are_kinds : Stmt := top 7
abbrev s_put_in : Stmt := top 8
abbrev s_cells_of : Stmt := top 9
abbrev s_holds : Stmt := top 10
abbrev s_fits_part : Stmt := top 15
abbrev s_terms_room : Stmt := top 16
abbrev s_term_room : Stmt := top 17
abbrev s_is_term : Stmt := top 18
abbrev s_inner : Stmt := top 19
abbrev s_copied : Stmt := top 20
abbrev s_asks_of : Stmt := top 21
abbrev s_plain_kind : Stmt := top 23
abbrev s_ask_kind : Stmt := top 24
abbrev s_own_kind : Stmt := top 25
abbrev s_kind_or_way : Stmt := top 26
abbrev s_first_misfit : Stmt := top 27
abbrev s_asked_by : Stmt := top 38
abbrev s_come_to : Stmt := top 39
abbrev s_ties_from : Stmt := top 40
abbrev s_way_to : Stmt := top 41
abbrev s_growing_ring : Stmt := top 42
abbrev s_all_makings : Stmt := top 43
abbrev s_All___init__ : Stmt := inClass (top 46) 0
abbrev s_All_shows : Stmt := inClass (top 46) 1
abbrev s_Endless___init__ : Stmt := inClass (top 47) 0
abbrev s_Endless_shows : Stmt := inClass (top 47) 1
abbrev s_Function___init__ : Stmt := inClass (top 52) 0
abbrev s_Function_told : Stmt := inClass (top 52) 1
abbrev s_Book___init__ : Stmt := inClass (top 53) 0
abbrev s_Book_names : Stmt := inClass (top 53) 1
abbrev s_Book_function : Stmt := inClass (top 53) 2
abbrev s_check_start : Stmt := top 55
abbrev s_makings : Stmt := top 57
abbrev s__law_cell_at : Stmt := top 59
abbrev s__law_draw : Stmt := top 60
abbrev s__law_number : Stmt := top 61
abbrev s__law_book : Stmt := top 62
abbrev s__law_cells : Stmt := top 63
abbrev s__law_full : Stmt := top 64
abbrev s__law_sum : Stmt := top 65
abbrev s__law_by_it : Stmt := top 66
abbrev s__law_edges_right : Stmt := top 67
abbrev s_law : Stmt := top 68
def glT0 : List (Str × Nat) := [("_wall", 0), ("is_whole", 1), ("is_name", 2), ("is_kind", 3), ("are_kinds", 4), ("put_in", 5), ("cells_of", 6), ("holds", 7), ("fits_part", 8), ("terms_room", 9), ("term_room", 10), ("is_term", 11), ("inner", 12), ("copied", 13), ("asks_of", 14), ("plain_kind", 15), ("ask_kind", 16), ("own_kind", 17), ("kind_or_way", 18), ("first_misfit", 19), ("asked_by", 20), ("come_to", 21), ("ties_from", 22), ("way_to", 23), ("growing_ring", 24)]
def glT1 : List (Str × Nat) := [("all_makings", 25), ("check_start", 35), ("makings", 36), ("_law_cell_at", 37), ("_law_draw", 38), ("_law_number", 39), ("_law_book", 40), ("_law_cells", 41), ("_law_full", 42), ("_law_sum", 43), ("_law_by_it", 44), ("_law_edges_right", 45), ("law", 46)]
def glT : List (Str × Nat) := glT0 ++ glT1
def mtT : List ((Str × Str) × Nat) := [(("All", "shows"), 27), (("Endless", "shows"), 29), (("Function", "told"), 31), (("Book", "names"), 33), (("Book", "function"), 34)]
def iniT : List (Str × Nat) := [("All", 26), ("Endless", 28), ("Function", 30), ("Book", 32)]
def conT : List (Str × Y.D) := [("MOST_CELLS", .int 60), ("LETTERS", .str "abcdefghijklmnopqrstuvwxyz"), ("MOST_TERMS", .int 40), ("DEEPEST_TERM", .int 6), ("MOST_MAKINGS", .int 200), ("MOST_OPENS", .int 2), ("MOST_TAKES", .int 3), ("MOST_FUNCTIONS", .int 8)]
def attT : List (Str × Str) := [("All", "pairs"), ("Endless", "ring"), ("Function", "name"), ("Function", "opens"), ("Function", "takes"), ("Function", "gives"), ("Function", "body"), ("Book", "table")]
def kdT : List (Str × List (Str × List Str)) := [("FORMS", [("num", ["number"]), ("yes", []), ("no", []), ("take", ["count"]), ("size", ["kind"]), ("plus", ["term", "term"]), ("less", ["term", "term"]), ("pair", ["term", "term"]), ("first", ["term"]), ("second", ["term"]), ("if", ["term", "term", "term"]), ("fail", ["number", "kind"]), ("ask", ["name", "kinds", "terms"])])]
def isiT0 : List (Sum String Str × Y.Ty × Bool) := [(.inl "NoneType", .cls "Function", false), (.inl "bool", .cls "Function", false), (.inl "int", .cls "Function", false), (.inl "str", .cls "Function", false), (.inl "list", .cls "Function", false), (.inl "tuple", .cls "Function", false), (.inl "dict", .cls "Function", false), (.inr "Answer", .cls "Function", false), (.inr "All", .cls "Function", false), (.inr "Endless", .cls "Function", false), (.inr "Function", .cls "Function", true), (.inr "Book", .cls "Function", false), (.inl "NoneType", .cls "Book", false), (.inl "bool", .cls "Book", false), (.inl "int", .cls "Book", false), (.inl "str", .cls "Book", false), (.inl "list", .cls "Book", false), (.inl "tuple", .cls "Book", false), (.inl "dict", .cls "Book", false), (.inr "Answer", .cls "Book", false), (.inr "All", .cls "Book", false), (.inr "Endless", .cls "Book", false), (.inr "Function", .cls "Book", false), (.inr "Book", .cls "Book", true), (.inl "NoneType", .cls "Answer", false)]
def isiT1 : List (Sum String Str × Y.Ty × Bool) := [(.inl "bool", .cls "Answer", false), (.inl "int", .cls "Answer", false), (.inl "str", .cls "Answer", false), (.inl "list", .cls "Answer", false), (.inl "tuple", .cls "Answer", false), (.inl "dict", .cls "Answer", false), (.inr "Answer", .cls "Answer", true), (.inr "All", .cls "Answer", true), (.inr "Endless", .cls "Answer", true), (.inr "Function", .cls "Answer", false), (.inr "Book", .cls "Answer", false), (.inl "NoneType", .cls "All", false), (.inl "bool", .cls "All", false), (.inl "int", .cls "All", false), (.inl "str", .cls "All", false), (.inl "list", .cls "All", false), (.inl "tuple", .cls "All", false), (.inl "dict", .cls "All", false), (.inr "Answer", .cls "All", false), (.inr "All", .cls "All", true), (.inr "Endless", .cls "All", false), (.inr "Function", .cls "All", false), (.inr "Book", .cls "All", false), (.inl "NoneType", .cls "Endless", false), (.inl "bool", .cls "Endless", false)]
def isiT2 : List (Sum String Str × Y.Ty × Bool) := [(.inl "int", .cls "Endless", false), (.inl "str", .cls "Endless", false), (.inl "list", .cls "Endless", false), (.inl "tuple", .cls "Endless", false), (.inl "dict", .cls "Endless", false), (.inr "Answer", .cls "Endless", false), (.inr "All", .cls "Endless", false), (.inr "Endless", .cls "Endless", true), (.inr "Function", .cls "Endless", false), (.inr "Book", .cls "Endless", false), (.inl "NoneType", .cls "TooMany", false), (.inl "bool", .cls "TooMany", false), (.inl "int", .cls "TooMany", false), (.inl "str", .cls "TooMany", false), (.inl "list", .cls "TooMany", false), (.inl "tuple", .cls "TooMany", false), (.inl "dict", .cls "TooMany", false), (.inr "Answer", .cls "TooMany", false), (.inr "All", .cls "TooMany", false), (.inr "Endless", .cls "TooMany", false), (.inr "Function", .cls "TooMany", false), (.inr "Book", .cls "TooMany", false), (.inr "Answer", .ty "int", false), (.inr "Answer", .ty "bool", false), (.inr "Answer", .ty "str", false)]
def isiT3 : List (Sum String Str × Y.Ty × Bool) := [(.inr "Answer", .ty "list", false), (.inr "Answer", .ty "tuple", false), (.inr "Answer", .ty "dict", false), (.inr "All", .ty "int", false), (.inr "All", .ty "bool", false), (.inr "All", .ty "str", false), (.inr "All", .ty "list", false), (.inr "All", .ty "tuple", false), (.inr "All", .ty "dict", false), (.inr "Endless", .ty "int", false), (.inr "Endless", .ty "bool", false), (.inr "Endless", .ty "str", false), (.inr "Endless", .ty "list", false), (.inr "Endless", .ty "tuple", false), (.inr "Endless", .ty "dict", false), (.inr "Function", .ty "int", false), (.inr "Function", .ty "bool", false), (.inr "Function", .ty "str", false), (.inr "Function", .ty "list", false), (.inr "Function", .ty "tuple", false), (.inr "Function", .ty "dict", false), (.inr "Book", .ty "int", false), (.inr "Book", .ty "bool", false), (.inr "Book", .ty "str", false), (.inr "Book", .ty "list", false)]
def isiT4 : List (Sum String Str × Y.Ty × Bool) := [(.inr "Book", .ty "tuple", false), (.inr "Book", .ty "dict", false)]
def isiT : List (Sum String Str × Y.Ty × Bool) := isiT0 ++ isiT1 ++ isiT2 ++ isiT3 ++ isiT4
def clT : List Str := ["MakingError", "BadFunction", "BadBook", "BadName", "BadKinds", "Unfit", "TooMany", "Answer", "All", "Endless", "Function", "Book"]
def exT : List Str := ["MakingError", "BadFunction", "BadBook", "BadName", "BadKinds", "Unfit", "TooMany"]
def bltT : List Str := ["ValueError", "all", "any", "bool", "enumerate", "int", "isinstance", "len", "list", "range", "str", "tuple", "zip"]
def tab0 : List (Nat × Option Nat × List Y.D) := [(1, none, []), (1, none, []), (1, none, []), (3, none, [.int 4]), (3, none, []), (2, none, []), (1, none, []), (2, none, []), (3, none, []), (4, none, []), (4, none, []), (2, none, []), (1, none, []), (1, none, []), (1, none, []), (2, none, []), (3, none, []), (4, none, []), (4, none, []), (1, none, []), (2, none, []), (2, none, []), (3, none, []), (3, none, []), (2, none, [])]
def tab1 : List (Nat × Option Nat × List Y.D) := [(2, none, []), (2, some 0, []), (4, none, []), (2, some 0, []), (4, none, []), (6, some 0, []), (1, none, []), (2, some 0, []), (1, none, []), (2, none, []), (3, none, []), (3, none, []), (2, none, []), (3, none, []), (3, none, []), (1, none, []), (1, none, []), (1, none, []), (1, none, []), (3, none, []), (1, none, []), (1, none, [])]
def tab : List (Nat × Option Nat × List Y.D) := tab0 ++ tab1
def tb : Y.Tabs := ⟨glT, mtT, iniT, conT, attT, kdT, isiT, clT, tab, exT, bltT⟩
def d__wall : He.DefD := ⟨("_wall", none), "_wall", "_wall", defArgs s__wall, defBody s__wall, defScope s__wall, [], []⟩
def d_is_whole : He.DefD := ⟨("is_whole", none), "is_whole", "is_whole", defArgs s_is_whole, defBody s_is_whole, defScope s_is_whole, [], []⟩
def d_is_name : He.DefD := ⟨("is_name", none), "is_name", "is_name", defArgs s_is_name, defBody s_is_name, defScope s_is_name, [], []⟩
def d_is_kind : He.DefD := ⟨("is_kind", none), "is_kind", "is_kind", defArgs s_is_kind, defBody s_is_kind, defScope s_is_kind, [.int 4], []⟩
def d_are_kinds : He.DefD := ⟨("are_kinds", none), "are_kinds", "are_kinds", defArgs s_are_kinds, defBody s_are_kinds, defScope s_are_kinds, [], []⟩
def d_put_in : He.DefD := ⟨("put_in", none), "put_in", "put_in", defArgs s_put_in, defBody s_put_in, defScope s_put_in, [], []⟩
def d_cells_of : He.DefD := ⟨("cells_of", none), "cells_of", "cells_of", defArgs s_cells_of, defBody s_cells_of, defScope s_cells_of, [], []⟩
def d_holds : He.DefD := ⟨("holds", none), "holds", "holds", defArgs s_holds, defBody s_holds, defScope s_holds, [], []⟩
def d_fits_part : He.DefD := ⟨("fits_part", none), "fits_part", "fits_part", defArgs s_fits_part, defBody s_fits_part, defScope s_fits_part, [], []⟩
def d_terms_room : He.DefD := ⟨("terms_room", none), "terms_room", "terms_room", defArgs s_terms_room, defBody s_terms_room, defScope s_terms_room, [], []⟩
def d_term_room : He.DefD := ⟨("term_room", none), "term_room", "term_room", defArgs s_term_room, defBody s_term_room, defScope s_term_room, [], []⟩
def d_is_term : He.DefD := ⟨("is_term", none), "is_term", "is_term", defArgs s_is_term, defBody s_is_term, defScope s_is_term, [], []⟩
def d_inner : He.DefD := ⟨("inner", none), "inner", "inner", defArgs s_inner, defBody s_inner, defScope s_inner, [], []⟩
def d_copied : He.DefD := ⟨("copied", none), "copied", "copied", defArgs s_copied, defBody s_copied, defScope s_copied, [], []⟩
def d_asks_of : He.DefD := ⟨("asks_of", none), "asks_of", "asks_of", defArgs s_asks_of, defBody s_asks_of, defScope s_asks_of, [], []⟩
def d_plain_kind : He.DefD := ⟨("plain_kind", none), "plain_kind", "plain_kind", defArgs s_plain_kind, defBody s_plain_kind, defScope s_plain_kind, [], []⟩
def d_ask_kind : He.DefD := ⟨("ask_kind", none), "ask_kind", "ask_kind", defArgs s_ask_kind, defBody s_ask_kind, defScope s_ask_kind, [], []⟩
def d_own_kind : He.DefD := ⟨("own_kind", none), "own_kind", "own_kind", defArgs s_own_kind, defBody s_own_kind, defScope s_own_kind, [], []⟩
def d_kind_or_way : He.DefD := ⟨("kind_or_way", none), "kind_or_way", "kind_or_way", defArgs s_kind_or_way, defBody s_kind_or_way, defScope s_kind_or_way, [], []⟩
def d_first_misfit : He.DefD := ⟨("first_misfit", none), "first_misfit", "first_misfit", defArgs s_first_misfit, defBody s_first_misfit, defScope s_first_misfit, [], []⟩
def d_asked_by : He.DefD := ⟨("asked_by", none), "asked_by", "asked_by", defArgs s_asked_by, defBody s_asked_by, defScope s_asked_by, [], []⟩
def d_come_to : He.DefD := ⟨("come_to", none), "come_to", "come_to", defArgs s_come_to, defBody s_come_to, defScope s_come_to, [], []⟩
def d_ties_from : He.DefD := ⟨("ties_from", none), "ties_from", "ties_from", defArgs s_ties_from, defBody s_ties_from, defScope s_ties_from, [], []⟩
def d_way_to : He.DefD := ⟨("way_to", none), "way_to", "way_to", defArgs s_way_to, defBody s_way_to, defScope s_way_to, [], []⟩
def d_growing_ring : He.DefD := ⟨("growing_ring", none), "growing_ring", "growing_ring", defArgs s_growing_ring, defBody s_growing_ring, defScope s_growing_ring, [], []⟩
def d_all_makings : He.DefD := ⟨("all_makings", none), "all_makings", "all_makings", defArgs s_all_makings, defBody s_all_makings, defScope s_all_makings, [], []⟩
def d_All___init__ : He.DefD := ⟨("All", some "__init__"), "__init__", "All.__init__", defArgs s_All___init__, defBody s_All___init__, defScope s_All___init__, [], []⟩
def d_All_shows : He.DefD := ⟨("All", some "shows"), "shows", "All.shows", defArgs s_All_shows, defBody s_All_shows, defScope s_All_shows, [], []⟩
def d_Endless___init__ : He.DefD := ⟨("Endless", some "__init__"), "__init__", "Endless.__init__", defArgs s_Endless___init__, defBody s_Endless___init__, defScope s_Endless___init__, [], []⟩
def d_Endless_shows : He.DefD := ⟨("Endless", some "shows"), "shows", "Endless.shows", defArgs s_Endless_shows, defBody s_Endless_shows, defScope s_Endless_shows, [], []⟩
def d_Function___init__ : He.DefD := ⟨("Function", some "__init__"), "__init__", "Function.__init__", defArgs s_Function___init__, defBody s_Function___init__, defScope s_Function___init__, [], []⟩
def d_Function_told : He.DefD := ⟨("Function", some "told"), "told", "Function.told", defArgs s_Function_told, defBody s_Function_told, defScope s_Function_told, [], []⟩
def d_Book___init__ : He.DefD := ⟨("Book", some "__init__"), "__init__", "Book.__init__", defArgs s_Book___init__, defBody s_Book___init__, defScope s_Book___init__, [], []⟩
def d_Book_names : He.DefD := ⟨("Book", some "names"), "names", "Book.names", defArgs s_Book_names, defBody s_Book_names, defScope s_Book_names, [], []⟩
def d_Book_function : He.DefD := ⟨("Book", some "function"), "function", "Book.function", defArgs s_Book_function, defBody s_Book_function, defScope s_Book_function, [], []⟩
def d_check_start : He.DefD := ⟨("check_start", none), "check_start", "check_start", defArgs s_check_start, defBody s_check_start, defScope s_check_start, [], []⟩
def d_makings : He.DefD := ⟨("makings", none), "makings", "makings", defArgs s_makings, defBody s_makings, defScope s_makings, [], []⟩
def d__law_cell_at : He.DefD := ⟨("_law_cell_at", none), "_law_cell_at", "_law_cell_at", defArgs s__law_cell_at, defBody s__law_cell_at, defScope s__law_cell_at, [], []⟩
def d__law_draw : He.DefD := ⟨("_law_draw", none), "_law_draw", "_law_draw", defArgs s__law_draw, defBody s__law_draw, defScope s__law_draw, [], []⟩
def d__law_number : He.DefD := ⟨("_law_number", none), "_law_number", "_law_number", defArgs s__law_number, defBody s__law_number, defScope s__law_number, [], []⟩
def d__law_book : He.DefD := ⟨("_law_book", none), "_law_book", "_law_book", defArgs s__law_book, defBody s__law_book, defScope s__law_book, [], []⟩
def d__law_cells : He.DefD := ⟨("_law_cells", none), "_law_cells", "_law_cells", defArgs s__law_cells, defBody s__law_cells, defScope s__law_cells, [], []⟩
def d__law_full : He.DefD := ⟨("_law_full", none), "_law_full", "_law_full", defArgs s__law_full, defBody s__law_full, defScope s__law_full, [], []⟩
def d__law_sum : He.DefD := ⟨("_law_sum", none), "_law_sum", "_law_sum", defArgs s__law_sum, defBody s__law_sum, defScope s__law_sum, [], []⟩
def d__law_by_it : He.DefD := ⟨("_law_by_it", none), "_law_by_it", "_law_by_it", defArgs s__law_by_it, defBody s__law_by_it, defScope s__law_by_it, [], []⟩
def d__law_edges_right : He.DefD := ⟨("_law_edges_right", none), "_law_edges_right", "_law_edges_right", defArgs s__law_edges_right, defBody s__law_edges_right, defScope s__law_edges_right, [], []⟩
def d_law : He.DefD := ⟨("law", none), "law", "law", defArgs s_law, defBody s_law, defScope s_law, [], []⟩
def N__wall : List Str := ["k"]
def t1__wall : Y.C := .bl true
@[simp] theorem isV_t1__wall : Y.C.isV t1__wall = false := rfl
def l2__wall : List Y.S := [.pass]
def b__wall : List Y.S := [.while_ (t1__wall) l2__wall]
theorem c__wall (a b : Nat → Y.Fn) : Y.all2 (Y.chkS ⟨Y.mkE tb.st a b, N__wall, tb.blt, tb.exB⟩ 60 (defScope s__wall) (fun _ => true)) (defBody s__wall) b__wall = true := by kernel_rfl
def N_is_whole : List Str := ["thing"]
def b_is_whole : List Y.S := [.ret (.and_ (.isi (.var 0) (.ty "int")) (.not_ (.isi (.var 0) (.ty "bool"))))]
theorem c_is_whole (a b : Nat → Y.Fn) : Y.all2 (Y.chkS ⟨Y.mkE tb.st a b, N_is_whole, tb.blt, tb.exB⟩ 60 (defScope s_is_whole) (fun _ => true)) (defBody s_is_whole) b_is_whole = true := by kernel_rfl
def N_is_name : List Str := ["thing", "sign"]
def q1_is_name : Y.C := .comp [1] (.one 1) .any [.var 0] none (.cmp .inn (.var 1) (.con "LETTERS"))
@[simp] theorem isV_q1_is_name : Y.C.isV q1_is_name = false := rfl
def b_is_name : List Y.S := [.ret (.and_ (.isi (.var 0) (.ty "str")) (.and_ (.chain .le .le (.int 1) (.bi .len [.var 0]) (.int 8)) (.bi .all [q1_is_name])))]
theorem c_is_name (a b : Nat → Y.Fn) : Y.all2 (Y.chkS ⟨Y.mkE tb.st a b, N_is_name, tb.blt, tb.exB⟩ 60 (defScope s_is_name) (fun _ => true)) (defBody s_is_name) b_is_name = true := by kernel_rfl
def N_is_kind : List Str := ["thing", "opens", "deep"]
def b_is_kind : List Y.S := [.ife (.isi (.var 0) (.ty "str")) [.ret (.cmp .inn (.var 0) (.tup [.str "num", .str "truth"]))] [], .ife (.or_ (.not_ (.isi (.var 0) (.ty "tuple"))) (.or_ (.cmp .eq (.var 0) (.tup [])) (.not_ (.isi (.idx (.var 0) (.int 0)) (.ty "str"))))) [.ret (.bl false)] [], .ife (.cmp .eq (.idx (.var 0) (.int 0)) (.str "open")) [.ret (.and_ (.cmp .eq (.bi .len [.var 0]) (.int 2)) (.and_ (.call f_is_whole [.idx (.var 0) (.int 1)]) (.chain .le .lt (.int 0) (.idx (.var 0) (.int 1)) (.var 1))))] [], .ife (.or_ (.cmp .ne (.idx (.var 0) (.int 0)) (.str "pair")) (.or_ (.cmp .ne (.bi .len [.var 0]) (.int 3)) (.cmp .eq (.var 2) (.int 0)))) [.ret (.bl false)] [], .ret (.and_ (.call f_is_kind [.idx (.var 0) (.int 1), .var 1, .bin .sub (.var 2) (.int 1)]) (.call f_is_kind [.idx (.var 0) (.int 2), .var 1, .bin .sub (.var 2) (.int 1)]))]
theorem c_is_kind (a b : Nat → Y.Fn) : Y.all2 (Y.chkS ⟨Y.mkE tb.st a b, N_is_kind, tb.blt, tb.exB⟩ 60 (defScope s_is_kind) (fun _ => true)) (defBody s_is_kind) b_is_kind = true := by kernel_rfl
def N_are_kinds : List Str := ["thing", "many", "opens", "kind"]
def q1_are_kinds : Y.C := .comp [3] (.one 3) .any [.var 0] none (.call f_is_kind [.var 3, .var 2])
@[simp] theorem isV_q1_are_kinds : Y.C.isV q1_are_kinds = false := rfl
def b_are_kinds : List Y.S := [.ret (.and_ (.isi (.var 0) (.ty "list")) (.and_ (.cmp .eq (.bi .len [.var 0]) (.var 1)) (.bi .all [q1_are_kinds])))]
theorem c_are_kinds (a b : Nat → Y.Fn) : Y.all2 (Y.chkS ⟨Y.mkE tb.st a b, N_are_kinds, tb.blt, tb.exB⟩ 60 (defScope s_are_kinds) (fun _ => true)) (defBody s_are_kinds) b_are_kinds = true := by kernel_rfl
def N_put_in : List Str := ["kind", "kinds"]
def b_put_in : List Y.S := [.ife (.isi (.var 0) (.ty "str")) [.ret (.var 0)] [], .ife (.cmp .eq (.idx (.var 0) (.int 0)) (.str "open")) [.ret (.idx (.var 1) (.idx (.var 0) (.int 1)))] [], .ret (.tup [.str "pair", .call f_put_in [.idx (.var 0) (.int 1), .var 1], .call f_put_in [.idx (.var 0) (.int 2), .var 1]])]
theorem c_put_in (a b : Nat → Y.Fn) : Y.all2 (Y.chkS ⟨Y.mkE tb.st a b, N_put_in, tb.blt, tb.exB⟩ 60 (defScope s_put_in) (fun _ => true)) (defBody s_put_in) b_put_in = true := by kernel_rfl
def N_cells_of : List Str := ["kind"]
def b_cells_of : List Y.S := [.ret (.ife (.isi (.var 0) (.ty "str")) (.int 1) (.bin .add (.call f_cells_of [.idx (.var 0) (.int 1)]) (.call f_cells_of [.idx (.var 0) (.int 2)])))]
theorem c_cells_of (a b : Nat → Y.Fn) : Y.all2 (Y.chkS ⟨Y.mkE tb.st a b, N_cells_of, tb.blt, tb.exB⟩ 60 (defScope s_cells_of) (fun _ => true)) (defBody s_cells_of) b_cells_of = true := by kernel_rfl
def N_holds : List Str := ["kind", "count"]
def b_holds : List Y.S := [.ife (.isi (.var 0) (.ty "str")) [.ret (.bl false)] [], .ife (.cmp .eq (.idx (.var 0) (.int 0)) (.str "open")) [.ret (.cmp .eq (.idx (.var 0) (.int 1)) (.var 1))] [], .ret (.or_ (.call f_holds [.idx (.var 0) (.int 1), .var 1]) (.call f_holds [.idx (.var 0) (.int 2), .var 1]))]
theorem c_holds (a b : Nat → Y.Fn) : Y.all2 (Y.chkS ⟨Y.mkE tb.st a b, N_holds, tb.blt, tb.exB⟩ 60 (defScope s_holds) (fun _ => true)) (defBody s_holds) b_holds = true := by kernel_rfl
def N_fits_part : List Str := ["part", "sort", "opens", "kind"]
def q1_fits_part : Y.C := .comp [3] (.one 3) .any [.var 0] none (.call f_is_kind [.var 3, .var 2])
@[simp] theorem isV_q1_fits_part : Y.C.isV q1_fits_part = false := rfl
def b_fits_part : List Y.S := [.ife (.cmp .eq (.var 1) (.str "number")) [.ret (.call f_is_whole [.var 0])] [], .ife (.cmp .eq (.var 1) (.str "count")) [.ret (.and_ (.call f_is_whole [.var 0]) (.cmp .ge (.var 0) (.int 0)))] [], .ife (.cmp .eq (.var 1) (.str "kind")) [.ret (.call f_is_kind [.var 0, .var 2])] [], .ife (.cmp .eq (.var 1) (.str "kinds")) [.ret (.and_ (.isi (.var 0) (.ty "list")) (.bi .all [q1_fits_part]))] [], .ret (.call f_is_name [.var 0])]
theorem c_fits_part (a b : Nat → Y.Fn) : Y.all2 (Y.chkS ⟨Y.mkE tb.st a b, N_fits_part, tb.blt, tb.exB⟩ 60 (defScope s_fits_part) (fun _ => true)) (defBody s_fits_part) b_fits_part = true := by kernel_rfl
def N_terms_room : List Str := ["terms", "opens", "deep", "room", "term"]
def l1_terms_room : List Y.S := [.asg 3 (.call f_term_room [.var 4, .var 1, .var 2, .var 3]), .ife (.cmp .lt (.var 3) (.int 0)) [.ret (.neg (.int 1))] []]
def b_terms_room : List Y.S := [.for_ (.one 4) .any [.var 0] l1_terms_room, .ret (.var 3)]
theorem c_terms_room (a b : Nat → Y.Fn) : Y.all2 (Y.chkS ⟨Y.mkE tb.st a b, N_terms_room, tb.blt, tb.exB⟩ 60 (defScope s_terms_room) (fun _ => true)) (defBody s_terms_room) b_terms_room = true := by kernel_rfl
def N_term_room : List Str := ["term", "opens", "deep", "room", "sorts", "part", "sort"]
def l1_term_room : List Y.S := [.ife (.cmp .eq (.var 6) (.str "term")) [.asg 3 (.call f_term_room [.var 5, .var 1, .bin .sub (.var 2) (.int 1), .var 3])] [.ife (.cmp .eq (.var 6) (.str "terms")) [.asg 3 (.ife (.isi (.var 5) (.ty "list")) (.call f_terms_room [.var 5, .var 1, .bin .sub (.var 2) (.int 1), .var 3]) (.neg (.int 1)))] [.ife (.not_ (.call f_fits_part [.var 5, .var 6, .var 1])) [.ret (.neg (.int 1))] []]], .ife (.cmp .lt (.var 3) (.int 0)) [.ret (.neg (.int 1))] []]
def b_term_room : List Y.S := [.ife (.or_ (.not_ (.isi (.var 0) (.ty "tuple"))) (.or_ (.cmp .eq (.var 0) (.tup [])) (.or_ (.not_ (.isi (.idx (.var 0) (.int 0)) (.ty "str"))) (.or_ (.kin true "FORMS" (.idx (.var 0) (.int 0))) (.cmp .eq (.var 2) (.int 0)))))) [.ret (.neg (.int 1))] [], .asg 4 (.kget "FORMS" (.idx (.var 0) (.int 0))), .ife (.cmp .ne (.bi .len [.var 0]) (.bin .add (.bi .len [.var 4]) (.int 1))) [.ret (.neg (.int 1))] [], .aug 3 .sub (.int 1), .for_ (.tup [5, 6]) .zip [.slc (.var 0) (some (.int 1)) none, .var 4] l1_term_room, .ret (.var 3)]
theorem c_term_room (a b : Nat → Y.Fn) : Y.all2 (Y.chkS ⟨Y.mkE tb.st a b, N_term_room, tb.blt, tb.exB⟩ 60 (defScope s_term_room) (fun _ => true)) (defBody s_term_room) b_term_room = true := by kernel_rfl
def N_is_term : List Str := ["term", "opens"]
def b_is_term : List Y.S := [.ret (.cmp .ge (.call f_term_room [.var 0, .var 1, .con "DEEPEST_TERM", .con "MOST_TERMS"]) (.int 0))]
theorem c_is_term (a b : Nat → Y.Fn) : Y.all2 (Y.chkS ⟨Y.mkE tb.st a b, N_is_term, tb.blt, tb.exB⟩ 60 (defScope s_is_term) (fun _ => true)) (defBody s_is_term) b_is_term = true := by kernel_rfl
def N_inner : List Str := ["term"]
def b_inner : List Y.S := [.ife (.cmp .inn (.idx (.var 0) (.int 0)) (.tup [.str "ask", .str "go"])) [.ret (.bi .list [.idx (.var 0) (.neg (.int 1))])] [], .ret (.ife (.cmp .inn (.idx (.var 0) (.int 0)) (.tup [.str "plus", .str "less", .str "pair", .str "first", .str "second", .str "if"])) (.bi .list [.slc (.var 0) (some (.int 1)) none]) (.lst []))]
theorem c_inner (a b : Nat → Y.Fn) : Y.all2 (Y.chkS ⟨Y.mkE tb.st a b, N_inner, tb.blt, tb.exB⟩ 60 (defScope s_inner) (fun _ => true)) (defBody s_inner) b_inner = true := by kernel_rfl
def N_copied : List Str := ["thing", "one"]
def q1_copied : Y.C := .comp [1] (.one 1) .any [.var 0] none (.call f_copied [.var 1])
@[simp] theorem isV_q1_copied : Y.C.isV q1_copied = false := rfl
def b_copied : List Y.S := [.ife (.isi (.var 0) (.ty "list")) [.ret (q1_copied)] [], .ret (.ife (.isi (.var 0) (.ty "tuple")) (.bi .tuple [q1_copied]) (.var 0))]
theorem c_copied (a b : Nat → Y.Fn) : Y.all2 (Y.chkS ⟨Y.mkE tb.st a b, N_copied, tb.blt, tb.exB⟩ 60 (defScope s_copied) (fun _ => true)) (defBody s_copied) b_copied = true := by kernel_rfl
def N_asks_of : List Str := ["term", "found", "one"]
def l1_asks_of : List Y.S := [.ext 1 (.call f_asks_of [.var 2])]
def b_asks_of : List Y.S := [.asg 1 (.lst []), .for_ (.one 2) .any [.call f_inner [.var 0]] l1_asks_of, .ret (.bin .add (.var 1) (.ife (.cmp .inn (.idx (.var 0) (.int 0)) (.tup [.str "ask", .str "go"])) (.lst [.var 0]) (.lst [])))]
theorem c_asks_of (a b : Nat → Y.Fn) : Y.all2 (Y.chkS ⟨Y.mkE tb.st a b, N_asks_of, tb.blt, tb.exB⟩ 60 (defScope s_asks_of) (fun _ => true)) (defBody s_asks_of) b_asks_of = true := by kernel_rfl
def N_plain_kind : List Str := ["word", "kinds"]
def b_plain_kind : List Y.S := [.ife (.cmp .inn (.var 0) (.tup [.str "plus", .str "less"])) [.ret (.ife (.cmp .eq (.var 1) (.lst [.str "num", .str "num"])) (.ife (.cmp .eq (.var 0) (.str "plus")) (.str "num") (.str "truth")) (.non))] [], .ife (.cmp .eq (.var 0) (.str "pair")) [.ret (.tup [.str "pair", .idx (.var 1) (.int 0), .idx (.var 1) (.int 1)])] [], .ife (.cmp .eq (.var 0) (.str "if")) [.ret (.ife (.and_ (.cmp .eq (.idx (.var 1) (.int 0)) (.str "truth")) (.cmp .eq (.idx (.var 1) (.int 1)) (.idx (.var 1) (.int 2)))) (.idx (.var 1) (.int 1)) (.non))] [], .ife (.or_ (.isi (.idx (.var 1) (.int 0)) (.ty "str")) (.cmp .ne (.idx (.idx (.var 1) (.int 0)) (.int 0)) (.str "pair"))) [.ret (.non)] [], .ret (.ife (.cmp .eq (.var 0) (.str "first")) (.idx (.idx (.var 1) (.int 0)) (.int 1)) (.idx (.idx (.var 1) (.int 0)) (.int 2)))]
theorem c_plain_kind (a b : Nat → Y.Fn) : Y.all2 (Y.chkS ⟨Y.mkE tb.st a b, N_plain_kind, tb.blt, tb.exB⟩ 60 (defScope s_plain_kind) (fun _ => true)) (defBody s_plain_kind) b_plain_kind = true := by kernel_rfl
def N_ask_kind : List Str := ["book", "term", "kinds", "asked", "kind"]
def q1_ask_kind : Y.C := .comp [4] (.one 4) .any [.att (.var 3) "takes"] none (.call f_put_in [.var 4, .idx (.var 1) (.int 2)])
@[simp] theorem isV_q1_ask_kind : Y.C.isV q1_ask_kind = false := rfl
def b_ask_kind : List Y.S := [.asg 3 (.dget (.att (.var 0) "table") (.idx (.var 1) (.int 1))), .ife (.or_ (.cmp .is_ (.var 3) (.non)) (.cmp .ne (.bi .len [.idx (.var 1) (.int 2)]) (.att (.var 3) "opens"))) [.ret (.non)] [], .ife (.cmp .ne (q1_ask_kind) (.var 2)) [.ret (.non)] [], .ret (.call f_put_in [.att (.var 3) "gives", .idx (.var 1) (.int 2)])]
theorem c_ask_kind (a b : Nat → Y.Fn) : Y.all2 (Y.chkS ⟨Y.mkE tb.st a b, N_ask_kind, tb.blt, tb.exB⟩ 60 (defScope s_ask_kind) (fun _ => true)) (defBody s_ask_kind) b_ask_kind = true := by kernel_rfl
def N_own_kind : List Str := ["book", "function", "term", "kinds", "word"]
def b_own_kind : List Y.S := [.asg 4 (.idx (.var 2) (.int 0)), .ife (.cmp .inn (.var 4) (.tup [.str "num", .str "size"])) [.ret (.str "num")] [], .ife (.cmp .inn (.var 4) (.tup [.str "yes", .str "no"])) [.ret (.str "truth")] [], .ife (.cmp .eq (.var 4) (.str "take")) [.ret (.ife (.cmp .lt (.idx (.var 2) (.int 1)) (.bi .len [.att (.var 1) "takes"])) (.idx (.att (.var 1) "takes") (.idx (.var 2) (.int 1))) (.non))] [], .ife (.cmp .eq (.var 4) (.str "fail")) [.ret (.idx (.var 2) (.int 2))] [], .ret (.ife (.cmp .eq (.var 4) (.str "ask")) (.call f_ask_kind [.var 0, .var 2, .var 3]) (.call f_plain_kind [.var 4, .var 3]))]
theorem c_own_kind (a b : Nat → Y.Fn) : Y.all2 (Y.chkS ⟨Y.mkE tb.st a b, N_own_kind, tb.blt, tb.exB⟩ 60 (defScope s_own_kind) (fun _ => true)) (defBody s_own_kind) b_own_kind = true := by kernel_rfl
def N_kind_or_way : List Str := ["book", "function", "term", "way", "kinds", "found", "at", "one", "kind", "wrong"]
def l1_kind_or_way : List Y.S := [.asgT [8, 9] (.call f_kind_or_way [.var 0, .var 1, .var 7, .bin .add (.var 3) (.lst [.var 6])]), .ife (.cmp .isn (.var 9) (.non)) [.ret (.tup [.non, .var 9])] [], .app 4 (.var 8)]
def b_kind_or_way : List Y.S := [.asg 4 (.lst []), .for_ (.tup [6, 7]) .enum [.call f_inner [.var 2]] l1_kind_or_way, .asg 5 (.call f_own_kind [.var 0, .var 1, .var 2, .var 4]), .ret (.ife (.cmp .is_ (.var 5) (.non)) (.tup [.non, .var 3]) (.tup [.var 5, .non]))]
theorem c_kind_or_way (a b : Nat → Y.Fn) : Y.all2 (Y.chkS ⟨Y.mkE tb.st a b, N_kind_or_way, tb.blt, tb.exB⟩ 60 (defScope s_kind_or_way) (fun _ => true)) (defBody s_kind_or_way) b_kind_or_way = true := by kernel_rfl
def N_first_misfit : List Str := ["book", "name", "function", "kind", "wrong"]
def l1_first_misfit : List Y.S := [.asg 2 (.idx (.att (.var 0) "table") (.var 1)), .asgT [3, 4] (.call f_kind_or_way [.var 0, .var 2, .att (.var 2) "body", .lst []]), .ife (.cmp .isn (.var 4) (.non)) [.ret (.tup [.var 1, .var 4])] [], .ife (.cmp .ne (.var 3) (.att (.var 2) "gives")) [.ret (.tup [.var 1, .lst []])] []]
def b_first_misfit : List Y.S := [.forD 1 0 "table" l1_first_misfit, .ret (.non)]
theorem c_first_misfit (a b : Nat → Y.Fn) : Y.all2 (Y.chkS ⟨Y.mkE tb.st a b, N_first_misfit, tb.blt, tb.exB⟩ 60 (defScope s_first_misfit) (fun _ => true)) (defBody s_first_misfit) b_first_misfit = true := by kernel_rfl
def N_asked_by : List Str := ["book", "making", "found", "term", "name", "kinds", "kind"]
def q1_asked_by : Y.C := .comp [6] (.one 6) .any [.idx (.var 3) (.int 2)] none (.call f_put_in [.var 6, .var 5])
@[simp] theorem isV_q1_asked_by : Y.C.isV q1_asked_by = false := rfl
def l2_asked_by : List Y.S := [.app 2 (.tup [.idx (.var 3) (.int 1), q1_asked_by])]
def b_asked_by : List Y.S := [.asgT [4, 5] (.var 1), .asg 2 (.lst []), .for_ (.one 3) .any [.call f_asks_of [.att (.idx (.att (.var 0) "table") (.var 4)) "body"]] l2_asked_by, .ret (.var 2)]
theorem c_asked_by (a b : Nat → Y.Fn) : Y.all2 (Y.chkS ⟨Y.mkE tb.st a b, N_asked_by, tb.blt, tb.exB⟩ 60 (defScope s_asked_by) (fun _ => true)) (defBody s_asked_by) b_asked_by = true := by kernel_rfl
def N_come_to : List Str := ["book", "name", "found", "turn", "term"]
def t1_come_to : Y.C := .cmp .lt (.var 3) (.bi .len [.var 2])
@[simp] theorem isV_t1_come_to : Y.C.isV t1_come_to = false := rfl
def l2_come_to : List Y.S := [.ife (.cmp .nin (.idx (.var 4) (.int 1)) (.var 2)) [.app 2 (.idx (.var 4) (.int 1))] []]
def l3_come_to : List Y.S := [.for_ (.one 4) .any [.call f_asks_of [.att (.idx (.att (.var 0) "table") (.idx (.var 2) (.var 3))) "body"]] l2_come_to, .aug 3 .add (.int 1)]
def b_come_to : List Y.S := [.asg 2 (.lst [.var 1]), .asg 3 (.int 0), .while_ (t1_come_to) l3_come_to, .ret (.var 2)]
theorem c_come_to (a b : Nat → Y.Fn) : Y.all2 (Y.chkS ⟨Y.mkE tb.st a b, N_come_to, tb.blt, tb.exB⟩ 60 (defScope s_come_to) (fun _ => true)) (defBody s_come_to) b_come_to = true := by kernel_rfl
def N_ties_from : List Str := ["book", "name", "count", "found", "at", "term", "there", "kind"]
def l1_ties_from : List Y.S := [.ife (.call f_holds [.var 7, .var 2]) [.app 3 (.tup [.var 4, .tup [.idx (.var 5) (.int 1), .var 6], .cmp .ne (.var 7) (.tup [.str "open", .var 2])])] []]
def l2_ties_from : List Y.S := [.for_ (.tup [6, 7]) .enum [.idx (.var 5) (.int 2)] l1_ties_from]
def b_ties_from : List Y.S := [.asg 3 (.lst []), .for_ (.tup [4, 5]) .enum [.call f_asks_of [.att (.idx (.att (.var 0) "table") (.var 1)) "body"]] l2_ties_from, .ret (.var 3)]
theorem c_ties_from (a b : Nat → Y.Fn) : Y.all2 (Y.chkS ⟨Y.mkE tb.st a b, N_ties_from, tb.blt, tb.exB⟩ 60 (defScope s_ties_from) (fun _ => true)) (defBody s_ties_from) b_ties_from = true := by kernel_rfl
def N_way_to : List Str := ["book", "start", "end", "came", "turn", "more", "place", "at", "there", "grows"]
def t1_way_to : Y.C := .cmp .ne (.var 4) (.lst [])
@[simp] theorem isV_t1_way_to : Y.C.isV t1_way_to = false := rfl
def l2_way_to : List Y.S := [.ife (.cmp .nin (.var 8) (.var 3)) [.setI 3 (.var 8) (.bin .add (.idx (.var 3) (.var 6)) (.lst [.tup [.idx (.var 6) (.int 0), .idx (.var 6) (.int 1), .var 7]])), .app 5 (.var 8)] []]
def l3_way_to : List Y.S := [.ife (.cmp .eq (.var 6) (.var 2)) [.ret (.idx (.var 3) (.var 6))] [], .for_ (.tup [7, 8, 9]) .any [.call f_ties_from [.var 0, .idx (.var 6) (.int 0), .idx (.var 6) (.int 1)]] l2_way_to]
def l4_way_to : List Y.S := [.asg 5 (.lst []), .for_ (.one 6) .any [.var 4] l3_way_to, .asg 4 (.var 5)]
def b_way_to : List Y.S := [.par2 3 4 (.dnewT) (.lst [.var 1]), .setI 3 (.var 1) (.lst []), .while_ (t1_way_to) l4_way_to, .ret (.non)]
theorem c_way_to (a b : Nat → Y.Fn) : Y.all2 (Y.chkS ⟨Y.mkE tb.st a b, N_way_to, tb.blt, tb.exB⟩ 60 (defScope s_way_to) (fun _ => true)) (defBody s_way_to) b_way_to = true := by kernel_rfl
def N_growing_ring : List Str := ["book", "name", "one", "count", "at", "there", "grows", "back"]
def l1_growing_ring : List Y.S := [.asg 7 (.ife (.var 6) (.call f_way_to [.var 0, .var 5, .tup [.var 2, .var 3]]) (.non)), .ife (.cmp .isn (.var 7) (.non)) [.ret (.bin .add (.lst [.tup [.var 2, .var 3, .var 4]]) (.var 7))] []]
def l2_growing_ring : List Y.S := [.for_ (.tup [4, 5, 6]) .any [.call f_ties_from [.var 0, .var 2, .var 3]] l1_growing_ring]
def l3_growing_ring : List Y.S := [.for_ (.one 3) .rng1 [.att (.idx (.att (.var 0) "table") (.var 2)) "opens"] l2_growing_ring]
def b_growing_ring : List Y.S := [.for_ (.one 2) .any [.call f_come_to [.var 0, .var 1]] l3_growing_ring, .ret (.non)]
theorem c_growing_ring (a b : Nat → Y.Fn) : Y.all2 (Y.chkS ⟨Y.mkE tb.st a b, N_growing_ring, tb.blt, tb.exB⟩ 60 (defScope s_growing_ring) (fun _ => true)) (defBody s_growing_ring) b_growing_ring = true := by kernel_rfl
def N_all_makings : List Str := ["book", "first", "found", "turn", "making", "kind"]
def t1_all_makings : Y.C := .cmp .lt (.var 3) (.bi .len [.var 2])
@[simp] theorem isV_t1_all_makings : Y.C.isV t1_all_makings = false := rfl
def q2_all_makings : Y.C := .comp [5] (.one 5) .any [.idx (.var 4) (.int 1)] none (.cmp .gt (.call f_cells_of [.var 5]) (.con "MOST_CELLS"))
@[simp] theorem isV_q2_all_makings : Y.C.isV q2_all_makings = false := rfl
def l3_all_makings : List Y.S := [.ife (.cmp .nin (.var 4) (.var 2)) [.ife (.or_ (.cmp .eq (.bi .len [.var 2]) (.con "MOST_MAKINGS")) (.bi .any [q2_all_makings])) [.ret (.non)] [], .app 2 (.var 4)] []]
def l4_all_makings : List Y.S := [.for_ (.one 4) .any [.call f_asked_by [.var 0, .idx (.var 2) (.var 3)]] l3_all_makings, .aug 3 .add (.int 1)]
def b_all_makings : List Y.S := [.asg 2 (.lst [.var 1]), .asg 3 (.int 0), .while_ (t1_all_makings) l4_all_makings, .ret (.var 2)]
theorem c_all_makings (a b : Nat → Y.Fn) : Y.all2 (Y.chkS ⟨Y.mkE tb.st a b, N_all_makings, tb.blt, tb.exB⟩ 60 (defScope s_all_makings) (fun _ => true)) (defBody s_all_makings) b_all_makings = true := by kernel_rfl
def N_All___init__ : List Str := ["self", "pairs"]
def b_All___init__ : List Y.S := [.setA 0 "pairs" (.call f_copied [.var 1])]
theorem c_All___init__ (a b : Nat → Y.Fn) : Y.all2 (Y.chkS ⟨Y.mkE tb.st a b, N_All___init__, tb.blt, tb.exB⟩ 60 (defScope s_All___init__) (fun _ => true)) (defBody s_All___init__) b_All___init__ = true := by kernel_rfl
def N_All_shows : List Str := ["self", "book", "name", "kinds"]
def b_All_shows : List Y.S := [.expr (.call f__wall [.int 0])]
theorem c_All_shows (a b : Nat → Y.Fn) : Y.all2 (Y.chkS ⟨Y.mkE tb.st a b, N_All_shows, tb.blt, tb.exB⟩ 60 (defScope s_All_shows) (fun _ => true)) (defBody s_All_shows) b_All_shows = true := by kernel_rfl
def N_Endless___init__ : List Str := ["self", "ring"]
def b_Endless___init__ : List Y.S := [.setA 0 "ring" (.bi .list [.var 1])]
theorem c_Endless___init__ (a b : Nat → Y.Fn) : Y.all2 (Y.chkS ⟨Y.mkE tb.st a b, N_Endless___init__, tb.blt, tb.exB⟩ 60 (defScope s_Endless___init__) (fun _ => true)) (defBody s_Endless___init__) b_Endless___init__ = true := by kernel_rfl
def N_Endless_shows : List Str := ["self", "book", "name", "kinds"]
def b_Endless_shows : List Y.S := [.expr (.call f__wall [.int 1])]
theorem c_Endless_shows (a b : Nat → Y.Fn) : Y.all2 (Y.chkS ⟨Y.mkE tb.st a b, N_Endless_shows, tb.blt, tb.exB⟩ 60 (defScope s_Endless_shows) (fun _ => true)) (defBody s_Endless_shows) b_Endless_shows = true := by kernel_rfl
def N_Function___init__ : List Str := ["self", "name", "opens", "takes", "gives", "body", "kind"]
def q1_Function___init__ : Y.C := .comp [6] (.one 6) .any [.var 3] none (.call f_is_kind [.var 6, .var 2])
@[simp] theorem isV_q1_Function___init__ : Y.C.isV q1_Function___init__ = false := rfl
def b_Function___init__ : List Y.S := [.ife (.or_ (.not_ (.call f_is_name [.var 1])) (.or_ (.not_ (.call f_is_whole [.var 2])) (.not_ (.chain .le .le (.int 0) (.var 2) (.con "MOST_OPENS"))))) [.raise "BadFunction"] [], .ife (.or_ (.not_ (.isi (.var 3) (.ty "list"))) (.or_ (.cmp .gt (.bi .len [.var 3]) (.con "MOST_TAKES")) (.not_ (.bi .all [q1_Function___init__])))) [.raise "BadFunction"] [], .ife (.or_ (.not_ (.call f_is_kind [.var 4, .var 2])) (.not_ (.call f_is_term [.var 5, .var 2]))) [.raise "BadFunction"] [], .setA 0 "name" (.var 1), .setA 0 "opens" (.var 2), .setA 0 "takes" (.bi .list [.var 3]), .setA 0 "gives" (.var 4), .setA 0 "body" (.call f_copied [.var 5])]
theorem c_Function___init__ (a b : Nat → Y.Fn) : Y.all2 (Y.chkS ⟨Y.mkE tb.st a b, N_Function___init__, tb.blt, tb.exB⟩ 60 (defScope s_Function___init__) (fun _ => true)) (defBody s_Function___init__) b_Function___init__ = true := by kernel_rfl
def N_Function_told : List Str := ["self"]
def b_Function_told : List Y.S := [.ret (.tup [.att (.var 0) "name", .att (.var 0) "opens", .bi .list [.att (.var 0) "takes"], .att (.var 0) "gives", .call f_copied [.att (.var 0) "body"]])]
theorem c_Function_told (a b : Nat → Y.Fn) : Y.all2 (Y.chkS ⟨Y.mkE tb.st a b, N_Function_told, tb.blt, tb.exB⟩ 60 (defScope s_Function_told) (fun _ => true)) (defBody s_Function_told) b_Function_told = true := by kernel_rfl
def N_Book_names : List Str := ["self"]
def b_Book_names : List Y.S := [.ret (.bi .list [.att (.var 0) "table"])]
theorem c_Book_names (a b : Nat → Y.Fn) : Y.all2 (Y.chkS ⟨Y.mkE tb.st a b, N_Book_names, tb.blt, tb.exB⟩ 60 (defScope s_Book_names) (fun _ => true)) (defBody s_Book_names) b_Book_names = true := by kernel_rfl
def N_Book_function : List Str := ["self", "name"]
def b_Book_function : List Y.S := [.ife (.or_ (.not_ (.isi (.var 1) (.ty "str"))) (.cmp .nin (.var 1) (.att (.var 0) "table"))) [.raise "BadName"] [], .ret (.idx (.att (.var 0) "table") (.var 1))]
theorem c_Book_function (a b : Nat → Y.Fn) : Y.all2 (Y.chkS ⟨Y.mkE tb.st a b, N_Book_function, tb.blt, tb.exB⟩ 60 (defScope s_Book_function) (fun _ => true)) (defBody s_Book_function) b_Book_function = true := by kernel_rfl
def N_check_start : List Str := ["book", "name", "kinds"]
def b_check_start : List Y.S := [.ife (.or_ (.not_ (.isi (.var 0) (.cls "Book"))) (.cmp .isn (.call f_first_misfit [.var 0]) (.non))) [.raise "Unfit"] [], .ife (.not_ (.call f_are_kinds [.var 2, .att (.meth "function" none (.var 0) [.var 1]) "opens", .int 0])) [.raise "BadKinds"] []]
theorem c_check_start (a b : Nat → Y.Fn) : Y.all2 (Y.chkS ⟨Y.mkE tb.st a b, N_check_start, tb.blt, tb.exB⟩ 60 (defScope s_check_start) (fun _ => true)) (defBody s_check_start) b_check_start = true := by kernel_rfl
def N_makings : List Str := ["book", "name", "kinds", "ring", "found"]
def b_makings : List Y.S := [.expr (.call f_check_start [.var 0, .var 1, .var 2]), .asg 3 (.call f_growing_ring [.var 0, .var 1]), .ife (.cmp .isn (.var 3) (.non)) [.ret (.new "Endless" f_Endless___init__ [.var 3])] [], .asg 4 (.call f_all_makings [.var 0, .tup [.var 1, .bi .list [.var 2]]]), .ife (.cmp .is_ (.var 4) (.non)) [.raise "TooMany"] [], .ret (.new "All" f_All___init__ [.var 4])]
theorem c_makings (a b : Nat → Y.Fn) : Y.all2 (Y.chkS ⟨Y.mkE tb.st a b, N_makings, tb.blt, tb.exB⟩ 60 (defScope s_makings) (fun _ => true)) (defBody s_makings) b_makings = true := by kernel_rfl
def N__law_cell_at : List Str := ["_law_script", "_law_k"]
def b__law_cell_at : List Y.S := [.ife (.cmp .lt (.var 1) (.bi .len [.var 0])) [.ret (.idx (.var 0) (.var 1))] [], .ret (.int 0)]
theorem c__law_cell_at (a b : Nat → Y.Fn) : Y.all2 (Y.chkS ⟨Y.mkE tb.st a b, N__law_cell_at, tb.blt, tb.exB⟩ 60 (defScope s__law_cell_at) (fun _ => true)) (defBody s__law_cell_at) b__law_cell_at = true := by kernel_rfl
def N__law_draw : List Str := ["_law_cell", "_law_k", "_law_most", "_law_primes"]
def b__law_draw : List Y.S := [.asg 3 (.tup [.int 1000003, .int 1000033, .int 1000037, .int 1000039, .int 1000081, .int 1000099, .int 1000117, .int 1000121, .int 1000133, .int 1000151, .int 1000159, .int 1000171, .int 1000183, .int 1000187, .int 1000193, .int 1000199]), .ret (.bin .mod (.bin .mod (.bin .add (.bin .mul (.var 0) (.int 48271)) (.bin .mul (.var 1) (.int 69621))) (.idx (.var 3) (.bin .mod (.var 1) (.int 16)))) (.var 2))]
theorem c__law_draw (a b : Nat → Y.Fn) : Y.all2 (Y.chkS ⟨Y.mkE tb.st a b, N__law_draw, tb.blt, tb.exB⟩ 60 (defScope s__law_draw) (fun _ => true)) (defBody s__law_draw) b__law_draw = true := by kernel_rfl
def N__law_number : List Str := ["_law_cell", "_law_k", "_law_limit", "_law_rest", "_law_turn", "_law_small"]
def l1__law_number : List Y.S := [.asg 3 (.bin .fdiv (.var 3) (.int 1009))]
def b__law_number : List Y.S := [.asg 3 (.bin .sub (.var 0) (.bin .pow (.int 10) (.int 18))), .for_ (.one 4) .rng1 [.bin .mod (.var 1) (.int 24)] l1__law_number, .ife (.cmp .gt (.var 3) (.int 0)) [.ret (.bin .mod (.bin .mod (.var 3) (.int 1009)) (.var 2))] [], .asg 5 (.bin .mod (.var 0) (.int 1000003)), .ret (.bin .mod (.call f__law_draw [.bin .mul (.bin .add (.var 5) (.bin .mul (.int 977) (.var 1))) (.bin .add (.bin .add (.var 5) (.bin .mul (.int 31) (.var 1))) (.int 5)), .bin .add (.bin .mod (.var 1) (.int 9)) (.int 1), .int 999983]) (.var 2))]
theorem c__law_number (a b : Nat → Y.Fn) : Y.all2 (Y.chkS ⟨Y.mkE tb.st a b, N__law_number, tb.blt, tb.exB⟩ 60 (defScope s__law_number) (fun _ => true)) (defBody s__law_number) b__law_number = true := by kernel_rfl
def N__law_book : List Str := ["_law_told", "_law_one"]
def q1__law_book : Y.C := .comp [1] (.one 1) .any [.var 0] none (.new "Function" f_Function___init__ [.idx (.var 1) (.int 0), .idx (.var 1) (.int 1), .idx (.var 1) (.int 2), .idx (.var 1) (.int 3), .idx (.var 1) (.int 4)])
@[simp] theorem isV_q1__law_book : Y.C.isV q1__law_book = false := rfl
def b__law_book : List Y.S := [.ret (.new "Book" f_Book___init__ [q1__law_book])]
theorem c__law_book (a b : Nat → Y.Fn) : Y.all2 (Y.chkS ⟨Y.mkE tb.st a b, N__law_book, tb.blt, tb.exB⟩ 60 (defScope s__law_book) (fun _ => true)) (defBody s__law_book) b__law_book = true := by kernel_rfl
def N__law_cells : List Str := ["_law_kind"]
def b__law_cells : List Y.S := [.ret (.ife (.isi (.var 0) (.ty "str")) (.int 1) (.bin .add (.call f__law_cells [.idx (.var 0) (.int 1)]) (.call f__law_cells [.idx (.var 0) (.int 2)])))]
theorem c__law_cells (a b : Nat → Y.Fn) : Y.all2 (Y.chkS ⟨Y.mkE tb.st a b, N__law_cells, tb.blt, tb.exB⟩ 60 (defScope s__law_cells) (fun _ => true)) (defBody s__law_cells) b__law_cells = true := by kernel_rfl
def N__law_full : List Str := ["_law_many"]
def b__law_full : List Y.S := [.ife (.cmp .eq (.var 0) (.int 1)) [.ret (.str "num")] [], .ret (.tup [.str "pair", .call f__law_full [.bin .fdiv (.var 0) (.int 2)], .call f__law_full [.bin .sub (.var 0) (.bin .fdiv (.var 0) (.int 2))]])]
theorem c__law_full (a b : Nat → Y.Fn) : Y.all2 (Y.chkS ⟨Y.mkE tb.st a b, N__law_full, tb.blt, tb.exB⟩ 60 (defScope s__law_full) (fun _ => true)) (defBody s__law_full) b__law_full = true := by kernel_rfl
def N__law_sum : List Str := ["_law_terms", "_law_half"]
def b__law_sum : List Y.S := [.ife (.cmp .eq (.bi .len [.var 0]) (.int 1)) [.ret (.idx (.var 0) (.int 0))] [], .asg 1 (.bin .fdiv (.bi .len [.var 0]) (.int 2)), .ret (.tup [.str "plus", .call f__law_sum [.slc (.var 0) none (some (.var 1))], .call f__law_sum [.slc (.var 0) (some (.var 1)) none]])]
theorem c__law_sum (a b : Nat → Y.Fn) : Y.all2 (Y.chkS ⟨Y.mkE tb.st a b, N__law_sum, tb.blt, tb.exB⟩ 60 (defScope s__law_sum) (fun _ => true)) (defBody s__law_sum) b__law_sum = true := by kernel_rfl
def N_law : List Str := ["_law_script", "_law_cell"]
def q1_law : Y.C := .comp [1] (.one 1) .any [.bin .add (.lst [.int 0]) (.slc (.var 0) none (some (.int 3)))] none (.call f__law_edges_right [.call f__law_number [.var 1, .int 1, .int 900]])
@[simp] theorem isV_q1_law : Y.C.isV q1_law = false := rfl
def b_law : List Y.S := [.ret (.bi .all [q1_law])]
theorem c_law (a b : Nat → Y.Fn) : Y.all2 (Y.chkS ⟨Y.mkE tb.st a b, N_law, tb.blt, tb.exB⟩ 60 (defScope s_law) (fun _ => true)) (defBody s_law) b_law = true := by kernel_rfl
def plT0 : List ((Str × Option Str) × List Str) := [(d__wall.at_, ["k"]), (d_is_whole.at_, ["thing"]), (d_is_name.at_, ["thing"]), (d_is_kind.at_, ["thing", "opens", "deep"]), (d_are_kinds.at_, ["thing", "many", "opens"]), (d_put_in.at_, ["kind", "kinds"]), (d_cells_of.at_, ["kind"]), (d_holds.at_, ["kind", "count"]), (d_fits_part.at_, ["part", "sort", "opens"]), (d_terms_room.at_, ["terms", "opens", "deep", "room"]), (d_term_room.at_, ["term", "opens", "deep", "room"]), (d_is_term.at_, ["term", "opens"]), (d_inner.at_, ["term"]), (d_copied.at_, ["thing"]), (d_asks_of.at_, ["term"]), (d_plain_kind.at_, ["word", "kinds"]), (d_ask_kind.at_, ["book", "term", "kinds"]), (d_own_kind.at_, ["book", "function", "term", "kinds"]), (d_kind_or_way.at_, ["book", "function", "term", "way"]), (d_first_misfit.at_, ["book"]), (d_asked_by.at_, ["book", "making"]), (d_come_to.at_, ["book", "name"]), (d_ties_from.at_, ["book", "name", "count"]), (d_way_to.at_, ["book", "start", "end"]), (d_growing_ring.at_, ["book", "name"])]
def plT1 : List ((Str × Option Str) × List Str) := [(d_all_makings.at_, ["book", "first"]), (d_All___init__.at_, ["self", "pairs"]), (d_All_shows.at_, ["self", "book", "name", "kinds"]), (d_Endless___init__.at_, ["self", "ring"]), (d_Endless_shows.at_, ["self", "book", "name", "kinds"]), (d_Function___init__.at_, ["self", "name", "opens", "takes", "gives", "body"]), (d_Function_told.at_, ["self"]), (d_Book___init__.at_, ["self", "functions"]), (d_Book_names.at_, ["self"]), (d_Book_function.at_, ["self", "name"]), (d_check_start.at_, ["book", "name", "kinds"]), (d_makings.at_, ["book", "name", "kinds"]), (d__law_cell_at.at_, ["_law_script", "_law_k"]), (d__law_draw.at_, ["_law_cell", "_law_k", "_law_most"]), (d__law_number.at_, ["_law_cell", "_law_k", "_law_limit"]), (d__law_book.at_, ["_law_told"]), (d__law_cells.at_, ["_law_kind"]), (d__law_full.at_, ["_law_many"]), (d__law_sum.at_, ["_law_terms"]), (d__law_by_it.at_, ["_law_book_here", "_law_name", "_law_kinds"]), (d__law_edges_right.at_, ["_law_number_here"]), (d_law.at_, ["_law_script"])]
def plT : List ((Str × Option Str) × List Str) := plT0 ++ plT1
def pl (K : PySem.W.Frag) (i : Nat) : Y.Pl := ⟨He.fAd K (plT.getD i (("", none), [])).1, Y.fdOf K (He.fAd K (plT.getD i (("", none), [])).1), (plT.getD i (("", none), [])).2⟩
def N_Book___init__ : List Str := ["self", "functions", "one"]
def q1_Book___init__ : Y.C := .comp [2] (.one 2) .any [.var 1] none (.isi (.var 2) (.cls "Function"))
@[simp] theorem isV_q1_Book___init__ : Y.C.isV q1_Book___init__ = false := rfl
def b0_Book___init__ : Y.S := .ife (.or_ (.not_ (.isi (.var 1) (.ty "list"))) (.not_ (.chain .le .le (.int 1) (.bi .len [.var 1]) (.con "MOST_FUNCTIONS")))) [.raise "BadBook"] []
def b1_Book___init__ : Y.S := .ife (.not_ (.bi .all [q1_Book___init__])) [.raise "BadBook"] []
def bs_Book___init__ : List Y.S := [.ife (.cmp .lt (.bi .len [.att (.var 0) "table"]) (.bi .len [.var 1])) [.raise "BadBook"] []]
def ev_Book___init__ (E : Y.Ev) := Y.evBookI b0_Book___init__ b1_Book___init__ bs_Book___init__ E
theorem c_Book___init__ (a b : Nat → Y.Fn) : Y.bookC ⟨Y.mkE tb.st a b, N_Book___init__, tb.blt, tb.exB⟩ 60 (defScope s_Book___init__) (defBody s_Book___init__) b0_Book___init__ b1_Book___init__ bs_Book___init__ = true := by kernel_rfl
def N__law_by_it : List Str := ["_law_book_here", "_law_name", "_law_kinds", "error", "_law_found"]
def b0__law_by_it : Y.S := .asg 4 (.call f_makings [.var 0, .var 1, .var 2])
def bs__law_by_it : List Y.S := [.ife (.or_ (.not_ (.isi (.var 4) (.cls "Answer"))) (.cmp .eq (.isi (.var 4) (.cls "All")) (.isi (.var 4) (.cls "Endless")))) [.ret (.tup [.str "", .non])] [], .ret (.tup [.ife (.isi (.var 4) (.cls "All")) (.str "all") (.str "endless"), .var 4])]
def h__law_by_it : List (Str × Str) := [("MakingError", ""), ("BadFunction", ""), ("BadBook", ""), ("BadName", ""), ("BadKinds", ""), ("Unfit", ""), ("TooMany", "many")]
def ev__law_by_it (E : Y.Ev) := Y.evTryI 5 (Y.lookS h__law_by_it) b0__law_by_it bs__law_by_it E
theorem c__law_by_it (a b : Nat → Y.Fn) : Y.tryC ⟨Y.mkE tb.st a b, N__law_by_it, tb.blt, tb.exB⟩ 60 (defScope s__law_by_it) 3 "MakingError" "TooMany" "many" "" (defBody s__law_by_it) b0__law_by_it bs__law_by_it = true := by kernel_rfl
def N__law_edges_right : List Str := ["_law_number_here", "_law_kinds", "_law_wide", "_law_some", "_law_told", "_law_one", "_law_two", "_law_twice", "_law_steep", "_law_late", "_law_found", "_law_again", "_law_four", "_law_over", "_law_kind", "_law_many", "_law_name"]
def q1__law_edges_right : Y.C := .comp [15] (.one 15) .rng2 [.int 1, .int 8] none (.call f__law_full [.var 15])
@[simp] theorem isV_q1__law_edges_right : Y.C.isV q1__law_edges_right = false := rfl
def q2__law_edges_right : Y.C := .comp [15] (.one 15) .rng2 [.int 1, .int 5] none (.tup [.str "pair", .str "truth", .call f__law_full [.var 15]])
@[simp] theorem isV_q2__law_edges_right : Y.C.isV q2__law_edges_right = false := rfl
def q3__law_edges_right : Y.C := .comp [15] (.one 15) .rng2 [.int 1, .int 4] none (.tup [.str "pair", .call f__law_full [.var 15], .str "truth"])
@[simp] theorem isV_q3__law_edges_right : Y.C.isV q3__law_edges_right = false := rfl
def q4__law_edges_right : Y.C := .comp [14] (.one 14) .any [.slc (.var 1) none (some (.int 13))] none (.tup [.str "ask", .str "h", .lst [.tup [.str "pair", .tup [.str "open", .int 0], .var 14]], .lst []])
@[simp] theorem isV_q4__law_edges_right : Y.C.isV q4__law_edges_right = false := rfl
def q5__law_edges_right : Y.C := .comp [14] (.one 14) .any [.var 1] none (.tup [.str "ask", .str "g", .lst [.var 14], .lst []])
@[simp] theorem isV_q5__law_edges_right : Y.C.isV q5__law_edges_right = false := rfl
def q6__law_edges_right : Y.C := .comp [16] (.one 16) .any [.tup [.str "a", .str "b", .str "c"]] none (.tup [.str "ask", .var 16, .lst [], .lst []])
@[simp] theorem isV_q6__law_edges_right : Y.C.isV q6__law_edges_right = false := rfl
def q7__law_edges_right : Y.C := .comp [16] (.one 16) .any [.tup [.str "a", .str "b", .str "c"]] none (.tup [.var 16, .int 0, .lst [], .str "num", .tup [.str "num", .var 0]])
@[simp] theorem isV_q7__law_edges_right : Y.C.isV q7__law_edges_right = false := rfl
def pr__law_edges_right : List Y.S := [.asg 1 (.bin .add (q1__law_edges_right) (q2__law_edges_right)), .asg 1 (.bin .add (.var 1) (q3__law_edges_right)), .asg 2 (q4__law_edges_right), .asg 3 (.bin .add (q5__law_edges_right) (q6__law_edges_right)), .asg 4 (.lst [.tup [.str "main", .int 0, .lst [], .str "num", .call f__law_sum [.var 3]], .tup [.str "g", .int 1, .lst [], .str "num", .call f__law_sum [.var 2]]]), .asg 4 (.bin .add (.var 4) (.lst [.tup [.str "h", .int 1, .lst [], .str "num", .tup [.str "num", .var 0]]])), .asg 4 (.bin .add (.var 4) (q7__law_edges_right)), .asg 5 (.call f__law_book [.var 4]), .asg 6 (.call f__law_book [.bin .add (.slc (.var 4) none (some (.neg (.int 1)))) (.lst [.tup [.str "c", .int 0, .lst [], .str "num", .tup [.str "ask", .str "d", .lst [], .lst []]], .tup [.str "d", .int 0, .lst [], .str "num", .tup [.str "num", .var 0]]])]), .ife (.or_ (.cmp .ne (.idx (.call f__law_by_it [.var 5, .str "main", .lst []]) (.int 0)) (.str "all")) (.cmp .ne (.call f__law_by_it [.var 6, .str "main", .lst []]) (.tup [.str "many", .non]))) [.ret (.bl false)] [], .ife (.cmp .ne (.bi .len [.att (.call f_makings [.var 5, .str "main", .lst []]) "pairs"]) (.int 200)) [.ret (.bl false)] [], .asg 7 (.tup [.str "pair", .tup [.str "open", .int 0], .tup [.str "open", .int 0]]), .asg 8 (.lst [.tup [.str "f", .int 1, .lst [], .str "num", .tup [.str "ask", .str "g", .lst [.var 7], .lst []]], .tup [.str "g", .int 1, .lst [], .str "num", .tup [.str "ask", .str "h", .lst [.var 7], .lst []]]]), .asg 9 (.call f__law_book [.bin .add (.var 8) (.lst [.tup [.str "h", .int 1, .lst [], .str "num", .tup [.str "size", .tup [.str "open", .int 0]]]])]), .ife (.cmp .ne (.idx (.call f__law_by_it [.var 9, .str "f", .lst [.call f__law_full [.int 15]]]) (.int 0)) (.str "all")) [.ret (.bl false)] []]
def bs__law_edges_right : List Y.S := [.asg 12 (.tup [.str "pair", .var 7, .var 7]), .asg 13 (.lst [.tup [.str "f", .int 1, .lst [], .str "num", .tup [.str "ask", .str "h", .lst [.tup [.str "pair", .var 12, .str "num"]], .lst []]], .tup [.str "h", .int 1, .lst [], .str "num", .tup [.str "num", .var 0]]]), .ife (.cmp .ne (.call f__law_by_it [.call f__law_book [.var 13], .str "f", .lst [.call f__law_full [.int 15]]]) (.tup [.str "many", .non])) [.ret (.bl false)] [], .ret (.cmp .eq (.call f__law_by_it [.var 9, .str "f", .lst [.call f__law_full [.int 16]]]) (.tup [.str "many", .non]))]
def mk__law_edges_right : Y.C := .call f_makings [.var 9, .str "f", .lst [.call f__law_full [.int 15]]]
def cd__law_edges_right : Y.C := .or_ (.cmp .ne (.bi .len [.att (.var 10) "pairs"]) (.int 3)) (.cmp .ne (.call f__law_cells [.idx (.idx (.idx (.att (.var 10) "pairs") (.int 2)) (.int 1)) (.int 0)]) (.int 60))
def pa__law_edges_right : Y.C := .idx (.idx (.att (.var 10) "pairs") (.int 0)) (.int 1)
def ev__law_edges_right (E : Y.Ev) := Y.evClearI pr__law_edges_right 10 11 mk__law_edges_right cd__law_edges_right pa__law_edges_right bs__law_edges_right E
theorem c__law_edges_right (a b : Nat → Y.Fn) : Y.clearC ⟨Y.mkE tb.st a b, N__law_edges_right, tb.blt, tb.exB⟩ 60 (defScope s__law_edges_right) 10 11 mk__law_edges_right cd__law_edges_right pa__law_edges_right bs__law_edges_right pr__law_edges_right (defBody s__law_edges_right) = true := by kernel_rfl
def r__wall (E : Y.Ev) : Y.Fn := Y.runF E (tb.st.io 0) 1 (tb.st.np 0) b__wall
def r_is_whole (E : Y.Ev) : Y.Fn := Y.runF E (tb.st.io 1) 1 (tb.st.np 1) b_is_whole
def r_is_name (E : Y.Ev) : Y.Fn := Y.runF E (tb.st.io 2) 2 (tb.st.np 2) b_is_name
def r_is_kind (E : Y.Ev) : Y.Fn := Y.runF E (tb.st.io 3) 3 (tb.st.np 3) b_is_kind
def r_are_kinds (E : Y.Ev) : Y.Fn := Y.runF E (tb.st.io 4) 4 (tb.st.np 4) b_are_kinds
def r_put_in (E : Y.Ev) : Y.Fn := Y.runF E (tb.st.io 5) 2 (tb.st.np 5) b_put_in
def r_cells_of (E : Y.Ev) : Y.Fn := Y.runF E (tb.st.io 6) 1 (tb.st.np 6) b_cells_of
def r_holds (E : Y.Ev) : Y.Fn := Y.runF E (tb.st.io 7) 2 (tb.st.np 7) b_holds
def r_fits_part (E : Y.Ev) : Y.Fn := Y.runF E (tb.st.io 8) 4 (tb.st.np 8) b_fits_part
def r_terms_room (E : Y.Ev) : Y.Fn := Y.runF E (tb.st.io 9) 5 (tb.st.np 9) b_terms_room
def r_term_room (E : Y.Ev) : Y.Fn := Y.runF E (tb.st.io 10) 7 (tb.st.np 10) b_term_room
def r_is_term (E : Y.Ev) : Y.Fn := Y.runF E (tb.st.io 11) 2 (tb.st.np 11) b_is_term
def r_inner (E : Y.Ev) : Y.Fn := Y.runF E (tb.st.io 12) 1 (tb.st.np 12) b_inner
def r_copied (E : Y.Ev) : Y.Fn := Y.runF E (tb.st.io 13) 2 (tb.st.np 13) b_copied
def r_asks_of (E : Y.Ev) : Y.Fn := Y.runF E (tb.st.io 14) 3 (tb.st.np 14) b_asks_of
def r_plain_kind (E : Y.Ev) : Y.Fn := Y.runF E (tb.st.io 15) 2 (tb.st.np 15) b_plain_kind
def r_ask_kind (E : Y.Ev) : Y.Fn := Y.runF E (tb.st.io 16) 5 (tb.st.np 16) b_ask_kind
def r_own_kind (E : Y.Ev) : Y.Fn := Y.runF E (tb.st.io 17) 5 (tb.st.np 17) b_own_kind
def r_kind_or_way (E : Y.Ev) : Y.Fn := Y.runF E (tb.st.io 18) 10 (tb.st.np 18) b_kind_or_way
def r_first_misfit (E : Y.Ev) : Y.Fn := Y.runF E (tb.st.io 19) 5 (tb.st.np 19) b_first_misfit
def r_asked_by (E : Y.Ev) : Y.Fn := Y.runF E (tb.st.io 20) 7 (tb.st.np 20) b_asked_by
def r_come_to (E : Y.Ev) : Y.Fn := Y.runF E (tb.st.io 21) 5 (tb.st.np 21) b_come_to
def r_ties_from (E : Y.Ev) : Y.Fn := Y.runF E (tb.st.io 22) 8 (tb.st.np 22) b_ties_from
def r_way_to (E : Y.Ev) : Y.Fn := Y.runF E (tb.st.io 23) 10 (tb.st.np 23) b_way_to
def r_growing_ring (E : Y.Ev) : Y.Fn := Y.runF E (tb.st.io 24) 8 (tb.st.np 24) b_growing_ring
def r_all_makings (E : Y.Ev) : Y.Fn := Y.runF E (tb.st.io 25) 6 (tb.st.np 25) b_all_makings
def r_All___init__ (E : Y.Ev) : Y.Fn := Y.runF E (tb.st.io 26) 2 (tb.st.np 26) b_All___init__
def r_All_shows (E : Y.Ev) : Y.Fn := Y.runF E (tb.st.io 27) 4 (tb.st.np 27) b_All_shows
def r_Endless___init__ (E : Y.Ev) : Y.Fn := Y.runF E (tb.st.io 28) 2 (tb.st.np 28) b_Endless___init__
def r_Endless_shows (E : Y.Ev) : Y.Fn := Y.runF E (tb.st.io 29) 4 (tb.st.np 29) b_Endless_shows
def r_Function___init__ (E : Y.Ev) : Y.Fn := Y.runF E (tb.st.io 30) 7 (tb.st.np 30) b_Function___init__
def r_Function_told (E : Y.Ev) : Y.Fn := Y.runF E (tb.st.io 31) 1 (tb.st.np 31) b_Function_told
def r_Book___init__ (E : Y.Ev) : Y.Fn := Y.runG (tb.st.io 32) 3 (tb.st.np 32) (ev_Book___init__ E)
def r_Book_names (E : Y.Ev) : Y.Fn := Y.runF E (tb.st.io 33) 1 (tb.st.np 33) b_Book_names
def r_Book_function (E : Y.Ev) : Y.Fn := Y.runF E (tb.st.io 34) 2 (tb.st.np 34) b_Book_function
def r_check_start (E : Y.Ev) : Y.Fn := Y.runF E (tb.st.io 35) 3 (tb.st.np 35) b_check_start
def r_makings (E : Y.Ev) : Y.Fn := Y.runF E (tb.st.io 36) 5 (tb.st.np 36) b_makings
def r__law_cell_at (E : Y.Ev) : Y.Fn := Y.runF E (tb.st.io 37) 2 (tb.st.np 37) b__law_cell_at
def r__law_draw (E : Y.Ev) : Y.Fn := Y.runF E (tb.st.io 38) 4 (tb.st.np 38) b__law_draw
def r__law_number (E : Y.Ev) : Y.Fn := Y.runF E (tb.st.io 39) 6 (tb.st.np 39) b__law_number
def r__law_book (E : Y.Ev) : Y.Fn := Y.runF E (tb.st.io 40) 2 (tb.st.np 40) b__law_book
def r__law_cells (E : Y.Ev) : Y.Fn := Y.runF E (tb.st.io 41) 1 (tb.st.np 41) b__law_cells
def r__law_full (E : Y.Ev) : Y.Fn := Y.runF E (tb.st.io 42) 1 (tb.st.np 42) b__law_full
def r__law_sum (E : Y.Ev) : Y.Fn := Y.runF E (tb.st.io 43) 2 (tb.st.np 43) b__law_sum
def r__law_by_it (E : Y.Ev) : Y.Fn := Y.runG (tb.st.io 44) 5 (tb.st.np 44) (ev__law_by_it E)
def r__law_edges_right (E : Y.Ev) : Y.Fn := Y.runG (tb.st.io 45) 17 (tb.st.np 45) (ev__law_edges_right E)
def r_law (E : Y.Ev) : Y.Fn := Y.runF E (tb.st.io 46) 2 (tb.st.np 46) b_law
def stL0 (E : Y.Ev) : List Y.Fn := [r__wall E, r_is_whole E, r_is_name E, r_is_kind E, r_are_kinds E, r_put_in E, r_cells_of E, r_holds E, r_fits_part E, r_terms_room E, r_term_room E, r_is_term E, r_inner E, r_copied E, r_asks_of E, r_plain_kind E, r_ask_kind E, r_own_kind E, r_kind_or_way E, r_first_misfit E, r_asked_by E, r_come_to E, r_ties_from E, r_way_to E, r_growing_ring E]
def stL1 (E : Y.Ev) : List Y.Fn := [r_all_makings E, r_All___init__ E, r_All_shows E, r_Endless___init__ E, r_Endless_shows E, r_Function___init__ E, r_Function_told E, r_Book___init__ E, r_Book_names E, r_Book_function E, r_check_start E, r_makings E, r__law_cell_at E, r__law_draw E, r__law_number E, r__law_book E, r__law_cells E, r__law_full E, r__law_sum E, r__law_by_it E, r__law_edges_right E, r_law E]
def stp (E : Y.Ev) (i : Nat) : Y.Fn := (stL0 E ++ stL1 E).getD i (fun _ => none)
section
variable {P : Program} {w : World} {K : PySem.W.Frag} {mg : Str → Option Value} {base : Heap}
theorem df__wall (M : Y.Md P w K mg tb.st tb.blt tb.exB) (h : ∃ fd, L2.FunD K d__wall.name d__wall.qual d__wall.params d__wall.body d__wall.scope (d__wall.dvs K) (d__wall.kws K) (He.fAd K d__wall.at_) fd) : Y.Df P w K mg base tb.st stp 0 (pl K 0) := by
  have F : L2.FunD K d__wall.name d__wall.qual d__wall.params d__wall.body d__wall.scope (d__wall.dvs K) (d__wall.kws K) (pl K 0).f (pl K 0).fd := Y.fdOf_ok h
  exact Y.df_core (N := N__wall) (nN := 1) (Ss := b__wall) M F (Y.fnScB_ok (by kernel_rfl)) (by kernel_rfl) (by kernel_rfl) (Y.binds0 F (by kernel_rfl) (fun _ _ _ _ _ _ us hl => match us, hl with | [_], _ => rfl)) (fun E => by kernel_rfl) c__wall
theorem df_is_whole (M : Y.Md P w K mg tb.st tb.blt tb.exB) (h : ∃ fd, L2.FunD K d_is_whole.name d_is_whole.qual d_is_whole.params d_is_whole.body d_is_whole.scope (d_is_whole.dvs K) (d_is_whole.kws K) (He.fAd K d_is_whole.at_) fd) : Y.Df P w K mg base tb.st stp 1 (pl K 1) := by
  have F : L2.FunD K d_is_whole.name d_is_whole.qual d_is_whole.params d_is_whole.body d_is_whole.scope (d_is_whole.dvs K) (d_is_whole.kws K) (pl K 1).f (pl K 1).fd := Y.fdOf_ok h
  exact Y.df_core (N := N_is_whole) (nN := 1) (Ss := b_is_whole) M F (Y.fnScB_ok (by kernel_rfl)) (by kernel_rfl) (by kernel_rfl) (Y.binds0 F (by kernel_rfl) (fun _ _ _ _ _ _ us hl => match us, hl with | [_], _ => rfl)) (fun E => by kernel_rfl) c_is_whole
theorem df_is_name (M : Y.Md P w K mg tb.st tb.blt tb.exB) (h : ∃ fd, L2.FunD K d_is_name.name d_is_name.qual d_is_name.params d_is_name.body d_is_name.scope (d_is_name.dvs K) (d_is_name.kws K) (He.fAd K d_is_name.at_) fd) : Y.Df P w K mg base tb.st stp 2 (pl K 2) := by
  have F : L2.FunD K d_is_name.name d_is_name.qual d_is_name.params d_is_name.body d_is_name.scope (d_is_name.dvs K) (d_is_name.kws K) (pl K 2).f (pl K 2).fd := Y.fdOf_ok h
  exact Y.df_core (N := N_is_name) (nN := 2) (Ss := b_is_name) M F (Y.fnScB_ok (by kernel_rfl)) (by kernel_rfl) (by kernel_rfl) (Y.binds0 F (by kernel_rfl) (fun _ _ _ _ _ _ us hl => match us, hl with | [_], _ => rfl)) (fun E => by kernel_rfl) c_is_name
theorem df_is_kind (M : Y.Md P w K mg tb.st tb.blt tb.exB) (h : ∃ fd, L2.FunD K d_is_kind.name d_is_kind.qual d_is_kind.params d_is_kind.body d_is_kind.scope (d_is_kind.dvs K) (d_is_kind.kws K) (He.fAd K d_is_kind.at_) fd) : Y.Df P w K mg base tb.st stp 3 (pl K 3) := by
  have F : L2.FunD K d_is_kind.name d_is_kind.qual d_is_kind.params d_is_kind.body d_is_kind.scope (d_is_kind.dvs K) (d_is_kind.kws K) (pl K 3).f (pl K 3).fd := Y.fdOf_ok h
  exact Y.df_core (N := N_is_kind) (nN := 3) (Ss := b_is_kind) M F (Y.fnScB_ok (by kernel_rfl)) (by kernel_rfl) (by kernel_rfl) (Y.binds1d (m := 2) F (by kernel_rfl) (by kernel_rfl) (by kernel_rfl) (fun _ _ _ _ _ _ _ us its hl hi => match us, its, hl, hi with | [_, _], [_], _, _ => ⟨_, rfl, rfl⟩) (fun _ _ _ _ _ _ _ us its hl hi => match us, its, hl, hi with | [_, _, _], [_], _, _ => ⟨_, rfl, rfl⟩)) (fun E => by kernel_rfl) c_is_kind
theorem df_are_kinds (M : Y.Md P w K mg tb.st tb.blt tb.exB) (h : ∃ fd, L2.FunD K d_are_kinds.name d_are_kinds.qual d_are_kinds.params d_are_kinds.body d_are_kinds.scope (d_are_kinds.dvs K) (d_are_kinds.kws K) (He.fAd K d_are_kinds.at_) fd) : Y.Df P w K mg base tb.st stp 4 (pl K 4) := by
  have F : L2.FunD K d_are_kinds.name d_are_kinds.qual d_are_kinds.params d_are_kinds.body d_are_kinds.scope (d_are_kinds.dvs K) (d_are_kinds.kws K) (pl K 4).f (pl K 4).fd := Y.fdOf_ok h
  exact Y.df_core (N := N_are_kinds) (nN := 4) (Ss := b_are_kinds) M F (Y.fnScB_ok (by kernel_rfl)) (by kernel_rfl) (by kernel_rfl) (Y.binds0 F (by kernel_rfl) (fun _ _ _ _ _ _ us hl => match us, hl with | [_, _, _], _ => rfl)) (fun E => by kernel_rfl) c_are_kinds
theorem df_put_in (M : Y.Md P w K mg tb.st tb.blt tb.exB) (h : ∃ fd, L2.FunD K d_put_in.name d_put_in.qual d_put_in.params d_put_in.body d_put_in.scope (d_put_in.dvs K) (d_put_in.kws K) (He.fAd K d_put_in.at_) fd) : Y.Df P w K mg base tb.st stp 5 (pl K 5) := by
  have F : L2.FunD K d_put_in.name d_put_in.qual d_put_in.params d_put_in.body d_put_in.scope (d_put_in.dvs K) (d_put_in.kws K) (pl K 5).f (pl K 5).fd := Y.fdOf_ok h
  exact Y.df_core (N := N_put_in) (nN := 2) (Ss := b_put_in) M F (Y.fnScB_ok (by kernel_rfl)) (by kernel_rfl) (by kernel_rfl) (Y.binds0 F (by kernel_rfl) (fun _ _ _ _ _ _ us hl => match us, hl with | [_, _], _ => rfl)) (fun E => by kernel_rfl) c_put_in
theorem df_cells_of (M : Y.Md P w K mg tb.st tb.blt tb.exB) (h : ∃ fd, L2.FunD K d_cells_of.name d_cells_of.qual d_cells_of.params d_cells_of.body d_cells_of.scope (d_cells_of.dvs K) (d_cells_of.kws K) (He.fAd K d_cells_of.at_) fd) : Y.Df P w K mg base tb.st stp 6 (pl K 6) := by
  have F : L2.FunD K d_cells_of.name d_cells_of.qual d_cells_of.params d_cells_of.body d_cells_of.scope (d_cells_of.dvs K) (d_cells_of.kws K) (pl K 6).f (pl K 6).fd := Y.fdOf_ok h
  exact Y.df_core (N := N_cells_of) (nN := 1) (Ss := b_cells_of) M F (Y.fnScB_ok (by kernel_rfl)) (by kernel_rfl) (by kernel_rfl) (Y.binds0 F (by kernel_rfl) (fun _ _ _ _ _ _ us hl => match us, hl with | [_], _ => rfl)) (fun E => by kernel_rfl) c_cells_of
theorem df_holds (M : Y.Md P w K mg tb.st tb.blt tb.exB) (h : ∃ fd, L2.FunD K d_holds.name d_holds.qual d_holds.params d_holds.body d_holds.scope (d_holds.dvs K) (d_holds.kws K) (He.fAd K d_holds.at_) fd) : Y.Df P w K mg base tb.st stp 7 (pl K 7) := by
  have F : L2.FunD K d_holds.name d_holds.qual d_holds.params d_holds.body d_holds.scope (d_holds.dvs K) (d_holds.kws K) (pl K 7).f (pl K 7).fd := Y.fdOf_ok h
  exact Y.df_core (N := N_holds) (nN := 2) (Ss := b_holds) M F (Y.fnScB_ok (by kernel_rfl)) (by kernel_rfl) (by kernel_rfl) (Y.binds0 F (by kernel_rfl) (fun _ _ _ _ _ _ us hl => match us, hl with | [_, _], _ => rfl)) (fun E => by kernel_rfl) c_holds
theorem df_fits_part (M : Y.Md P w K mg tb.st tb.blt tb.exB) (h : ∃ fd, L2.FunD K d_fits_part.name d_fits_part.qual d_fits_part.params d_fits_part.body d_fits_part.scope (d_fits_part.dvs K) (d_fits_part.kws K) (He.fAd K d_fits_part.at_) fd) : Y.Df P w K mg base tb.st stp 8 (pl K 8) := by
  have F : L2.FunD K d_fits_part.name d_fits_part.qual d_fits_part.params d_fits_part.body d_fits_part.scope (d_fits_part.dvs K) (d_fits_part.kws K) (pl K 8).f (pl K 8).fd := Y.fdOf_ok h
  exact Y.df_core (N := N_fits_part) (nN := 4) (Ss := b_fits_part) M F (Y.fnScB_ok (by kernel_rfl)) (by kernel_rfl) (by kernel_rfl) (Y.binds0 F (by kernel_rfl) (fun _ _ _ _ _ _ us hl => match us, hl with | [_, _, _], _ => rfl)) (fun E => by kernel_rfl) c_fits_part
theorem df_terms_room (M : Y.Md P w K mg tb.st tb.blt tb.exB) (h : ∃ fd, L2.FunD K d_terms_room.name d_terms_room.qual d_terms_room.params d_terms_room.body d_terms_room.scope (d_terms_room.dvs K) (d_terms_room.kws K) (He.fAd K d_terms_room.at_) fd) : Y.Df P w K mg base tb.st stp 9 (pl K 9) := by
  have F : L2.FunD K d_terms_room.name d_terms_room.qual d_terms_room.params d_terms_room.body d_terms_room.scope (d_terms_room.dvs K) (d_terms_room.kws K) (pl K 9).f (pl K 9).fd := Y.fdOf_ok h
  exact Y.df_core (N := N_terms_room) (nN := 5) (Ss := b_terms_room) M F (Y.fnScB_ok (by kernel_rfl)) (by kernel_rfl) (by kernel_rfl) (Y.binds0 F (by kernel_rfl) (fun _ _ _ _ _ _ us hl => match us, hl with | [_, _, _, _], _ => rfl)) (fun E => by kernel_rfl) c_terms_room
theorem df_term_room (M : Y.Md P w K mg tb.st tb.blt tb.exB) (h : ∃ fd, L2.FunD K d_term_room.name d_term_room.qual d_term_room.params d_term_room.body d_term_room.scope (d_term_room.dvs K) (d_term_room.kws K) (He.fAd K d_term_room.at_) fd) : Y.Df P w K mg base tb.st stp 10 (pl K 10) := by
  have F : L2.FunD K d_term_room.name d_term_room.qual d_term_room.params d_term_room.body d_term_room.scope (d_term_room.dvs K) (d_term_room.kws K) (pl K 10).f (pl K 10).fd := Y.fdOf_ok h
  exact Y.df_core (N := N_term_room) (nN := 7) (Ss := b_term_room) M F (Y.fnScB_ok (by kernel_rfl)) (by kernel_rfl) (by kernel_rfl) (Y.binds0 F (by kernel_rfl) (fun _ _ _ _ _ _ us hl => match us, hl with | [_, _, _, _], _ => rfl)) (fun E => by kernel_rfl) c_term_room
theorem df_is_term (M : Y.Md P w K mg tb.st tb.blt tb.exB) (h : ∃ fd, L2.FunD K d_is_term.name d_is_term.qual d_is_term.params d_is_term.body d_is_term.scope (d_is_term.dvs K) (d_is_term.kws K) (He.fAd K d_is_term.at_) fd) : Y.Df P w K mg base tb.st stp 11 (pl K 11) := by
  have F : L2.FunD K d_is_term.name d_is_term.qual d_is_term.params d_is_term.body d_is_term.scope (d_is_term.dvs K) (d_is_term.kws K) (pl K 11).f (pl K 11).fd := Y.fdOf_ok h
  exact Y.df_core (N := N_is_term) (nN := 2) (Ss := b_is_term) M F (Y.fnScB_ok (by kernel_rfl)) (by kernel_rfl) (by kernel_rfl) (Y.binds0 F (by kernel_rfl) (fun _ _ _ _ _ _ us hl => match us, hl with | [_, _], _ => rfl)) (fun E => by kernel_rfl) c_is_term
theorem df_inner (M : Y.Md P w K mg tb.st tb.blt tb.exB) (h : ∃ fd, L2.FunD K d_inner.name d_inner.qual d_inner.params d_inner.body d_inner.scope (d_inner.dvs K) (d_inner.kws K) (He.fAd K d_inner.at_) fd) : Y.Df P w K mg base tb.st stp 12 (pl K 12) := by
  have F : L2.FunD K d_inner.name d_inner.qual d_inner.params d_inner.body d_inner.scope (d_inner.dvs K) (d_inner.kws K) (pl K 12).f (pl K 12).fd := Y.fdOf_ok h
  exact Y.df_core (N := N_inner) (nN := 1) (Ss := b_inner) M F (Y.fnScB_ok (by kernel_rfl)) (by kernel_rfl) (by kernel_rfl) (Y.binds0 F (by kernel_rfl) (fun _ _ _ _ _ _ us hl => match us, hl with | [_], _ => rfl)) (fun E => by kernel_rfl) c_inner
theorem df_copied (M : Y.Md P w K mg tb.st tb.blt tb.exB) (h : ∃ fd, L2.FunD K d_copied.name d_copied.qual d_copied.params d_copied.body d_copied.scope (d_copied.dvs K) (d_copied.kws K) (He.fAd K d_copied.at_) fd) : Y.Df P w K mg base tb.st stp 13 (pl K 13) := by
  have F : L2.FunD K d_copied.name d_copied.qual d_copied.params d_copied.body d_copied.scope (d_copied.dvs K) (d_copied.kws K) (pl K 13).f (pl K 13).fd := Y.fdOf_ok h
  exact Y.df_core (N := N_copied) (nN := 2) (Ss := b_copied) M F (Y.fnScB_ok (by kernel_rfl)) (by kernel_rfl) (by kernel_rfl) (Y.binds0 F (by kernel_rfl) (fun _ _ _ _ _ _ us hl => match us, hl with | [_], _ => rfl)) (fun E => by kernel_rfl) c_copied
theorem df_asks_of (M : Y.Md P w K mg tb.st tb.blt tb.exB) (h : ∃ fd, L2.FunD K d_asks_of.name d_asks_of.qual d_asks_of.params d_asks_of.body d_asks_of.scope (d_asks_of.dvs K) (d_asks_of.kws K) (He.fAd K d_asks_of.at_) fd) : Y.Df P w K mg base tb.st stp 14 (pl K 14) := by
  have F : L2.FunD K d_asks_of.name d_asks_of.qual d_asks_of.params d_asks_of.body d_asks_of.scope (d_asks_of.dvs K) (d_asks_of.kws K) (pl K 14).f (pl K 14).fd := Y.fdOf_ok h
  exact Y.df_core (N := N_asks_of) (nN := 3) (Ss := b_asks_of) M F (Y.fnScB_ok (by kernel_rfl)) (by kernel_rfl) (by kernel_rfl) (Y.binds0 F (by kernel_rfl) (fun _ _ _ _ _ _ us hl => match us, hl with | [_], _ => rfl)) (fun E => by kernel_rfl) c_asks_of
theorem df_plain_kind (M : Y.Md P w K mg tb.st tb.blt tb.exB) (h : ∃ fd, L2.FunD K d_plain_kind.name d_plain_kind.qual d_plain_kind.params d_plain_kind.body d_plain_kind.scope (d_plain_kind.dvs K) (d_plain_kind.kws K) (He.fAd K d_plain_kind.at_) fd) : Y.Df P w K mg base tb.st stp 15 (pl K 15) := by
  have F : L2.FunD K d_plain_kind.name d_plain_kind.qual d_plain_kind.params d_plain_kind.body d_plain_kind.scope (d_plain_kind.dvs K) (d_plain_kind.kws K) (pl K 15).f (pl K 15).fd := Y.fdOf_ok h
  exact Y.df_core (N := N_plain_kind) (nN := 2) (Ss := b_plain_kind) M F (Y.fnScB_ok (by kernel_rfl)) (by kernel_rfl) (by kernel_rfl) (Y.binds0 F (by kernel_rfl) (fun _ _ _ _ _ _ us hl => match us, hl with | [_, _], _ => rfl)) (fun E => by kernel_rfl) c_plain_kind
theorem df_ask_kind (M : Y.Md P w K mg tb.st tb.blt tb.exB) (h : ∃ fd, L2.FunD K d_ask_kind.name d_ask_kind.qual d_ask_kind.params d_ask_kind.body d_ask_kind.scope (d_ask_kind.dvs K) (d_ask_kind.kws K) (He.fAd K d_ask_kind.at_) fd) : Y.Df P w K mg base tb.st stp 16 (pl K 16) := by
  have F : L2.FunD K d_ask_kind.name d_ask_kind.qual d_ask_kind.params d_ask_kind.body d_ask_kind.scope (d_ask_kind.dvs K) (d_ask_kind.kws K) (pl K 16).f (pl K 16).fd := Y.fdOf_ok h
  exact Y.df_core (N := N_ask_kind) (nN := 5) (Ss := b_ask_kind) M F (Y.fnScB_ok (by kernel_rfl)) (by kernel_rfl) (by kernel_rfl) (Y.binds0 F (by kernel_rfl) (fun _ _ _ _ _ _ us hl => match us, hl with | [_, _, _], _ => rfl)) (fun E => by kernel_rfl) c_ask_kind
theorem df_own_kind (M : Y.Md P w K mg tb.st tb.blt tb.exB) (h : ∃ fd, L2.FunD K d_own_kind.name d_own_kind.qual d_own_kind.params d_own_kind.body d_own_kind.scope (d_own_kind.dvs K) (d_own_kind.kws K) (He.fAd K d_own_kind.at_) fd) : Y.Df P w K mg base tb.st stp 17 (pl K 17) := by
  have F : L2.FunD K d_own_kind.name d_own_kind.qual d_own_kind.params d_own_kind.body d_own_kind.scope (d_own_kind.dvs K) (d_own_kind.kws K) (pl K 17).f (pl K 17).fd := Y.fdOf_ok h
  exact Y.df_core (N := N_own_kind) (nN := 5) (Ss := b_own_kind) M F (Y.fnScB_ok (by kernel_rfl)) (by kernel_rfl) (by kernel_rfl) (Y.binds0 F (by kernel_rfl) (fun _ _ _ _ _ _ us hl => match us, hl with | [_, _, _, _], _ => rfl)) (fun E => by kernel_rfl) c_own_kind
theorem df_kind_or_way (M : Y.Md P w K mg tb.st tb.blt tb.exB) (h : ∃ fd, L2.FunD K d_kind_or_way.name d_kind_or_way.qual d_kind_or_way.params d_kind_or_way.body d_kind_or_way.scope (d_kind_or_way.dvs K) (d_kind_or_way.kws K) (He.fAd K d_kind_or_way.at_) fd) : Y.Df P w K mg base tb.st stp 18 (pl K 18) := by
  have F : L2.FunD K d_kind_or_way.name d_kind_or_way.qual d_kind_or_way.params d_kind_or_way.body d_kind_or_way.scope (d_kind_or_way.dvs K) (d_kind_or_way.kws K) (pl K 18).f (pl K 18).fd := Y.fdOf_ok h
  exact Y.df_core (N := N_kind_or_way) (nN := 10) (Ss := b_kind_or_way) M F (Y.fnScB_ok (by kernel_rfl)) (by kernel_rfl) (by kernel_rfl) (Y.binds0 F (by kernel_rfl) (fun _ _ _ _ _ _ us hl => match us, hl with | [_, _, _, _], _ => rfl)) (fun E => by kernel_rfl) c_kind_or_way
theorem df_first_misfit (M : Y.Md P w K mg tb.st tb.blt tb.exB) (h : ∃ fd, L2.FunD K d_first_misfit.name d_first_misfit.qual d_first_misfit.params d_first_misfit.body d_first_misfit.scope (d_first_misfit.dvs K) (d_first_misfit.kws K) (He.fAd K d_first_misfit.at_) fd) : Y.Df P w K mg base tb.st stp 19 (pl K 19) := by
  have F : L2.FunD K d_first_misfit.name d_first_misfit.qual d_first_misfit.params d_first_misfit.body d_first_misfit.scope (d_first_misfit.dvs K) (d_first_misfit.kws K) (pl K 19).f (pl K 19).fd := Y.fdOf_ok h
  exact Y.df_core (N := N_first_misfit) (nN := 5) (Ss := b_first_misfit) M F (Y.fnScB_ok (by kernel_rfl)) (by kernel_rfl) (by kernel_rfl) (Y.binds0 F (by kernel_rfl) (fun _ _ _ _ _ _ us hl => match us, hl with | [_], _ => rfl)) (fun E => by kernel_rfl) c_first_misfit
theorem df_asked_by (M : Y.Md P w K mg tb.st tb.blt tb.exB) (h : ∃ fd, L2.FunD K d_asked_by.name d_asked_by.qual d_asked_by.params d_asked_by.body d_asked_by.scope (d_asked_by.dvs K) (d_asked_by.kws K) (He.fAd K d_asked_by.at_) fd) : Y.Df P w K mg base tb.st stp 20 (pl K 20) := by
  have F : L2.FunD K d_asked_by.name d_asked_by.qual d_asked_by.params d_asked_by.body d_asked_by.scope (d_asked_by.dvs K) (d_asked_by.kws K) (pl K 20).f (pl K 20).fd := Y.fdOf_ok h
  exact Y.df_core (N := N_asked_by) (nN := 7) (Ss := b_asked_by) M F (Y.fnScB_ok (by kernel_rfl)) (by kernel_rfl) (by kernel_rfl) (Y.binds0 F (by kernel_rfl) (fun _ _ _ _ _ _ us hl => match us, hl with | [_, _], _ => rfl)) (fun E => by kernel_rfl) c_asked_by
theorem df_come_to (M : Y.Md P w K mg tb.st tb.blt tb.exB) (h : ∃ fd, L2.FunD K d_come_to.name d_come_to.qual d_come_to.params d_come_to.body d_come_to.scope (d_come_to.dvs K) (d_come_to.kws K) (He.fAd K d_come_to.at_) fd) : Y.Df P w K mg base tb.st stp 21 (pl K 21) := by
  have F : L2.FunD K d_come_to.name d_come_to.qual d_come_to.params d_come_to.body d_come_to.scope (d_come_to.dvs K) (d_come_to.kws K) (pl K 21).f (pl K 21).fd := Y.fdOf_ok h
  exact Y.df_core (N := N_come_to) (nN := 5) (Ss := b_come_to) M F (Y.fnScB_ok (by kernel_rfl)) (by kernel_rfl) (by kernel_rfl) (Y.binds0 F (by kernel_rfl) (fun _ _ _ _ _ _ us hl => match us, hl with | [_, _], _ => rfl)) (fun E => by kernel_rfl) c_come_to
theorem df_ties_from (M : Y.Md P w K mg tb.st tb.blt tb.exB) (h : ∃ fd, L2.FunD K d_ties_from.name d_ties_from.qual d_ties_from.params d_ties_from.body d_ties_from.scope (d_ties_from.dvs K) (d_ties_from.kws K) (He.fAd K d_ties_from.at_) fd) : Y.Df P w K mg base tb.st stp 22 (pl K 22) := by
  have F : L2.FunD K d_ties_from.name d_ties_from.qual d_ties_from.params d_ties_from.body d_ties_from.scope (d_ties_from.dvs K) (d_ties_from.kws K) (pl K 22).f (pl K 22).fd := Y.fdOf_ok h
  exact Y.df_core (N := N_ties_from) (nN := 8) (Ss := b_ties_from) M F (Y.fnScB_ok (by kernel_rfl)) (by kernel_rfl) (by kernel_rfl) (Y.binds0 F (by kernel_rfl) (fun _ _ _ _ _ _ us hl => match us, hl with | [_, _, _], _ => rfl)) (fun E => by kernel_rfl) c_ties_from
theorem df_way_to (M : Y.Md P w K mg tb.st tb.blt tb.exB) (h : ∃ fd, L2.FunD K d_way_to.name d_way_to.qual d_way_to.params d_way_to.body d_way_to.scope (d_way_to.dvs K) (d_way_to.kws K) (He.fAd K d_way_to.at_) fd) : Y.Df P w K mg base tb.st stp 23 (pl K 23) := by
  have F : L2.FunD K d_way_to.name d_way_to.qual d_way_to.params d_way_to.body d_way_to.scope (d_way_to.dvs K) (d_way_to.kws K) (pl K 23).f (pl K 23).fd := Y.fdOf_ok h
  exact Y.df_core (N := N_way_to) (nN := 10) (Ss := b_way_to) M F (Y.fnScB_ok (by kernel_rfl)) (by kernel_rfl) (by kernel_rfl) (Y.binds0 F (by kernel_rfl) (fun _ _ _ _ _ _ us hl => match us, hl with | [_, _, _], _ => rfl)) (fun E => by kernel_rfl) c_way_to
theorem df_growing_ring (M : Y.Md P w K mg tb.st tb.blt tb.exB) (h : ∃ fd, L2.FunD K d_growing_ring.name d_growing_ring.qual d_growing_ring.params d_growing_ring.body d_growing_ring.scope (d_growing_ring.dvs K) (d_growing_ring.kws K) (He.fAd K d_growing_ring.at_) fd) : Y.Df P w K mg base tb.st stp 24 (pl K 24) := by
  have F : L2.FunD K d_growing_ring.name d_growing_ring.qual d_growing_ring.params d_growing_ring.body d_growing_ring.scope (d_growing_ring.dvs K) (d_growing_ring.kws K) (pl K 24).f (pl K 24).fd := Y.fdOf_ok h
  exact Y.df_core (N := N_growing_ring) (nN := 8) (Ss := b_growing_ring) M F (Y.fnScB_ok (by kernel_rfl)) (by kernel_rfl) (by kernel_rfl) (Y.binds0 F (by kernel_rfl) (fun _ _ _ _ _ _ us hl => match us, hl with | [_, _], _ => rfl)) (fun E => by kernel_rfl) c_growing_ring
theorem df_all_makings (M : Y.Md P w K mg tb.st tb.blt tb.exB) (h : ∃ fd, L2.FunD K d_all_makings.name d_all_makings.qual d_all_makings.params d_all_makings.body d_all_makings.scope (d_all_makings.dvs K) (d_all_makings.kws K) (He.fAd K d_all_makings.at_) fd) : Y.Df P w K mg base tb.st stp 25 (pl K 25) := by
  have F : L2.FunD K d_all_makings.name d_all_makings.qual d_all_makings.params d_all_makings.body d_all_makings.scope (d_all_makings.dvs K) (d_all_makings.kws K) (pl K 25).f (pl K 25).fd := Y.fdOf_ok h
  exact Y.df_core (N := N_all_makings) (nN := 6) (Ss := b_all_makings) M F (Y.fnScB_ok (by kernel_rfl)) (by kernel_rfl) (by kernel_rfl) (Y.binds0 F (by kernel_rfl) (fun _ _ _ _ _ _ us hl => match us, hl with | [_, _], _ => rfl)) (fun E => by kernel_rfl) c_all_makings
theorem df_All___init__ (M : Y.Md P w K mg tb.st tb.blt tb.exB) (h : ∃ fd, L2.FunD K d_All___init__.name d_All___init__.qual d_All___init__.params d_All___init__.body d_All___init__.scope (d_All___init__.dvs K) (d_All___init__.kws K) (He.fAd K d_All___init__.at_) fd) : Y.Df P w K mg base tb.st stp 26 (pl K 26) := by
  have F : L2.FunD K d_All___init__.name d_All___init__.qual d_All___init__.params d_All___init__.body d_All___init__.scope (d_All___init__.dvs K) (d_All___init__.kws K) (pl K 26).f (pl K 26).fd := Y.fdOf_ok h
  exact Y.df_core (N := N_All___init__) (nN := 2) (Ss := b_All___init__) M F (Y.fnScB_ok (by kernel_rfl)) (by kernel_rfl) (by kernel_rfl) (Y.binds0 F (by kernel_rfl) (fun _ _ _ _ _ _ us hl => match us, hl with | [_, _], _ => rfl)) (fun E => by kernel_rfl) c_All___init__
theorem df_All_shows (M : Y.Md P w K mg tb.st tb.blt tb.exB) (h : ∃ fd, L2.FunD K d_All_shows.name d_All_shows.qual d_All_shows.params d_All_shows.body d_All_shows.scope (d_All_shows.dvs K) (d_All_shows.kws K) (He.fAd K d_All_shows.at_) fd) : Y.Df P w K mg base tb.st stp 27 (pl K 27) := by
  have F : L2.FunD K d_All_shows.name d_All_shows.qual d_All_shows.params d_All_shows.body d_All_shows.scope (d_All_shows.dvs K) (d_All_shows.kws K) (pl K 27).f (pl K 27).fd := Y.fdOf_ok h
  exact Y.df_core (N := N_All_shows) (nN := 4) (Ss := b_All_shows) M F (Y.fnScB_ok (by kernel_rfl)) (by kernel_rfl) (by kernel_rfl) (Y.binds0 F (by kernel_rfl) (fun _ _ _ _ _ _ us hl => match us, hl with | [_, _, _, _], _ => rfl)) (fun E => by kernel_rfl) c_All_shows
theorem df_Endless___init__ (M : Y.Md P w K mg tb.st tb.blt tb.exB) (h : ∃ fd, L2.FunD K d_Endless___init__.name d_Endless___init__.qual d_Endless___init__.params d_Endless___init__.body d_Endless___init__.scope (d_Endless___init__.dvs K) (d_Endless___init__.kws K) (He.fAd K d_Endless___init__.at_) fd) : Y.Df P w K mg base tb.st stp 28 (pl K 28) := by
  have F : L2.FunD K d_Endless___init__.name d_Endless___init__.qual d_Endless___init__.params d_Endless___init__.body d_Endless___init__.scope (d_Endless___init__.dvs K) (d_Endless___init__.kws K) (pl K 28).f (pl K 28).fd := Y.fdOf_ok h
  exact Y.df_core (N := N_Endless___init__) (nN := 2) (Ss := b_Endless___init__) M F (Y.fnScB_ok (by kernel_rfl)) (by kernel_rfl) (by kernel_rfl) (Y.binds0 F (by kernel_rfl) (fun _ _ _ _ _ _ us hl => match us, hl with | [_, _], _ => rfl)) (fun E => by kernel_rfl) c_Endless___init__
theorem df_Endless_shows (M : Y.Md P w K mg tb.st tb.blt tb.exB) (h : ∃ fd, L2.FunD K d_Endless_shows.name d_Endless_shows.qual d_Endless_shows.params d_Endless_shows.body d_Endless_shows.scope (d_Endless_shows.dvs K) (d_Endless_shows.kws K) (He.fAd K d_Endless_shows.at_) fd) : Y.Df P w K mg base tb.st stp 29 (pl K 29) := by
  have F : L2.FunD K d_Endless_shows.name d_Endless_shows.qual d_Endless_shows.params d_Endless_shows.body d_Endless_shows.scope (d_Endless_shows.dvs K) (d_Endless_shows.kws K) (pl K 29).f (pl K 29).fd := Y.fdOf_ok h
  exact Y.df_core (N := N_Endless_shows) (nN := 4) (Ss := b_Endless_shows) M F (Y.fnScB_ok (by kernel_rfl)) (by kernel_rfl) (by kernel_rfl) (Y.binds0 F (by kernel_rfl) (fun _ _ _ _ _ _ us hl => match us, hl with | [_, _, _, _], _ => rfl)) (fun E => by kernel_rfl) c_Endless_shows
theorem df_Function___init__ (M : Y.Md P w K mg tb.st tb.blt tb.exB) (h : ∃ fd, L2.FunD K d_Function___init__.name d_Function___init__.qual d_Function___init__.params d_Function___init__.body d_Function___init__.scope (d_Function___init__.dvs K) (d_Function___init__.kws K) (He.fAd K d_Function___init__.at_) fd) : Y.Df P w K mg base tb.st stp 30 (pl K 30) := by
  have F : L2.FunD K d_Function___init__.name d_Function___init__.qual d_Function___init__.params d_Function___init__.body d_Function___init__.scope (d_Function___init__.dvs K) (d_Function___init__.kws K) (pl K 30).f (pl K 30).fd := Y.fdOf_ok h
  exact Y.df_core (N := N_Function___init__) (nN := 7) (Ss := b_Function___init__) M F (Y.fnScB_ok (by kernel_rfl)) (by kernel_rfl) (by kernel_rfl) (Y.binds0 F (by kernel_rfl) (fun _ _ _ _ _ _ us hl => match us, hl with | [_, _, _, _, _, _], _ => rfl)) (fun E => by kernel_rfl) c_Function___init__
theorem df_Function_told (M : Y.Md P w K mg tb.st tb.blt tb.exB) (h : ∃ fd, L2.FunD K d_Function_told.name d_Function_told.qual d_Function_told.params d_Function_told.body d_Function_told.scope (d_Function_told.dvs K) (d_Function_told.kws K) (He.fAd K d_Function_told.at_) fd) : Y.Df P w K mg base tb.st stp 31 (pl K 31) := by
  have F : L2.FunD K d_Function_told.name d_Function_told.qual d_Function_told.params d_Function_told.body d_Function_told.scope (d_Function_told.dvs K) (d_Function_told.kws K) (pl K 31).f (pl K 31).fd := Y.fdOf_ok h
  exact Y.df_core (N := N_Function_told) (nN := 1) (Ss := b_Function_told) M F (Y.fnScB_ok (by kernel_rfl)) (by kernel_rfl) (by kernel_rfl) (Y.binds0 F (by kernel_rfl) (fun _ _ _ _ _ _ us hl => match us, hl with | [_], _ => rfl)) (fun E => by kernel_rfl) c_Function_told
theorem df_Book___init__ (M : Y.Md P w K mg tb.st tb.blt tb.exB) (h : ∃ fd, L2.FunD K d_Book___init__.name d_Book___init__.qual d_Book___init__.params d_Book___init__.body d_Book___init__.scope (d_Book___init__.dvs K) (d_Book___init__.kws K) (He.fAd K d_Book___init__.at_) fd) : Y.Df P w K mg base tb.st stp 32 (pl K 32) := by
  have F : L2.FunD K d_Book___init__.name d_Book___init__.qual d_Book___init__.params d_Book___init__.body d_Book___init__.scope (d_Book___init__.dvs K) (d_Book___init__.kws K) (pl K 32).f (pl K 32).fd := Y.fdOf_ok h
  exact Y.df_ev (N := N_Book___init__) (nN := 3) (ev := ev_Book___init__) M F (Y.fnScB_ok (by kernel_rfl)) (by kernel_rfl) (by kernel_rfl) (Y.binds0 F (by kernel_rfl) (fun _ _ _ _ _ _ us hl => match us, hl with | [_, _], _ => rfl)) (fun E => by kernel_rfl) (fun a b k X R W bg _ _ _ => Y.bookC_ok bg (c_Book___init__ a b))
theorem df_Book_names (M : Y.Md P w K mg tb.st tb.blt tb.exB) (h : ∃ fd, L2.FunD K d_Book_names.name d_Book_names.qual d_Book_names.params d_Book_names.body d_Book_names.scope (d_Book_names.dvs K) (d_Book_names.kws K) (He.fAd K d_Book_names.at_) fd) : Y.Df P w K mg base tb.st stp 33 (pl K 33) := by
  have F : L2.FunD K d_Book_names.name d_Book_names.qual d_Book_names.params d_Book_names.body d_Book_names.scope (d_Book_names.dvs K) (d_Book_names.kws K) (pl K 33).f (pl K 33).fd := Y.fdOf_ok h
  exact Y.df_core (N := N_Book_names) (nN := 1) (Ss := b_Book_names) M F (Y.fnScB_ok (by kernel_rfl)) (by kernel_rfl) (by kernel_rfl) (Y.binds0 F (by kernel_rfl) (fun _ _ _ _ _ _ us hl => match us, hl with | [_], _ => rfl)) (fun E => by kernel_rfl) c_Book_names
theorem df_Book_function (M : Y.Md P w K mg tb.st tb.blt tb.exB) (h : ∃ fd, L2.FunD K d_Book_function.name d_Book_function.qual d_Book_function.params d_Book_function.body d_Book_function.scope (d_Book_function.dvs K) (d_Book_function.kws K) (He.fAd K d_Book_function.at_) fd) : Y.Df P w K mg base tb.st stp 34 (pl K 34) := by
  have F : L2.FunD K d_Book_function.name d_Book_function.qual d_Book_function.params d_Book_function.body d_Book_function.scope (d_Book_function.dvs K) (d_Book_function.kws K) (pl K 34).f (pl K 34).fd := Y.fdOf_ok h
  exact Y.df_core (N := N_Book_function) (nN := 2) (Ss := b_Book_function) M F (Y.fnScB_ok (by kernel_rfl)) (by kernel_rfl) (by kernel_rfl) (Y.binds0 F (by kernel_rfl) (fun _ _ _ _ _ _ us hl => match us, hl with | [_, _], _ => rfl)) (fun E => by kernel_rfl) c_Book_function
theorem df_check_start (M : Y.Md P w K mg tb.st tb.blt tb.exB) (h : ∃ fd, L2.FunD K d_check_start.name d_check_start.qual d_check_start.params d_check_start.body d_check_start.scope (d_check_start.dvs K) (d_check_start.kws K) (He.fAd K d_check_start.at_) fd) : Y.Df P w K mg base tb.st stp 35 (pl K 35) := by
  have F : L2.FunD K d_check_start.name d_check_start.qual d_check_start.params d_check_start.body d_check_start.scope (d_check_start.dvs K) (d_check_start.kws K) (pl K 35).f (pl K 35).fd := Y.fdOf_ok h
  exact Y.df_core (N := N_check_start) (nN := 3) (Ss := b_check_start) M F (Y.fnScB_ok (by kernel_rfl)) (by kernel_rfl) (by kernel_rfl) (Y.binds0 F (by kernel_rfl) (fun _ _ _ _ _ _ us hl => match us, hl with | [_, _, _], _ => rfl)) (fun E => by kernel_rfl) c_check_start
theorem df_makings (M : Y.Md P w K mg tb.st tb.blt tb.exB) (h : ∃ fd, L2.FunD K d_makings.name d_makings.qual d_makings.params d_makings.body d_makings.scope (d_makings.dvs K) (d_makings.kws K) (He.fAd K d_makings.at_) fd) : Y.Df P w K mg base tb.st stp 36 (pl K 36) := by
  have F : L2.FunD K d_makings.name d_makings.qual d_makings.params d_makings.body d_makings.scope (d_makings.dvs K) (d_makings.kws K) (pl K 36).f (pl K 36).fd := Y.fdOf_ok h
  exact Y.df_core (N := N_makings) (nN := 5) (Ss := b_makings) M F (Y.fnScB_ok (by kernel_rfl)) (by kernel_rfl) (by kernel_rfl) (Y.binds0 F (by kernel_rfl) (fun _ _ _ _ _ _ us hl => match us, hl with | [_, _, _], _ => rfl)) (fun E => by kernel_rfl) c_makings
theorem df__law_cell_at (M : Y.Md P w K mg tb.st tb.blt tb.exB) (h : ∃ fd, L2.FunD K d__law_cell_at.name d__law_cell_at.qual d__law_cell_at.params d__law_cell_at.body d__law_cell_at.scope (d__law_cell_at.dvs K) (d__law_cell_at.kws K) (He.fAd K d__law_cell_at.at_) fd) : Y.Df P w K mg base tb.st stp 37 (pl K 37) := by
  have F : L2.FunD K d__law_cell_at.name d__law_cell_at.qual d__law_cell_at.params d__law_cell_at.body d__law_cell_at.scope (d__law_cell_at.dvs K) (d__law_cell_at.kws K) (pl K 37).f (pl K 37).fd := Y.fdOf_ok h
  exact Y.df_core (N := N__law_cell_at) (nN := 2) (Ss := b__law_cell_at) M F (Y.fnScB_ok (by kernel_rfl)) (by kernel_rfl) (by kernel_rfl) (Y.binds0 F (by kernel_rfl) (fun _ _ _ _ _ _ us hl => match us, hl with | [_, _], _ => rfl)) (fun E => by kernel_rfl) c__law_cell_at
theorem df__law_draw (M : Y.Md P w K mg tb.st tb.blt tb.exB) (h : ∃ fd, L2.FunD K d__law_draw.name d__law_draw.qual d__law_draw.params d__law_draw.body d__law_draw.scope (d__law_draw.dvs K) (d__law_draw.kws K) (He.fAd K d__law_draw.at_) fd) : Y.Df P w K mg base tb.st stp 38 (pl K 38) := by
  have F : L2.FunD K d__law_draw.name d__law_draw.qual d__law_draw.params d__law_draw.body d__law_draw.scope (d__law_draw.dvs K) (d__law_draw.kws K) (pl K 38).f (pl K 38).fd := Y.fdOf_ok h
  exact Y.df_core (N := N__law_draw) (nN := 4) (Ss := b__law_draw) M F (Y.fnScB_ok (by kernel_rfl)) (by kernel_rfl) (by kernel_rfl) (Y.binds0 F (by kernel_rfl) (fun _ _ _ _ _ _ us hl => match us, hl with | [_, _, _], _ => rfl)) (fun E => by kernel_rfl) c__law_draw
theorem df__law_number (M : Y.Md P w K mg tb.st tb.blt tb.exB) (h : ∃ fd, L2.FunD K d__law_number.name d__law_number.qual d__law_number.params d__law_number.body d__law_number.scope (d__law_number.dvs K) (d__law_number.kws K) (He.fAd K d__law_number.at_) fd) : Y.Df P w K mg base tb.st stp 39 (pl K 39) := by
  have F : L2.FunD K d__law_number.name d__law_number.qual d__law_number.params d__law_number.body d__law_number.scope (d__law_number.dvs K) (d__law_number.kws K) (pl K 39).f (pl K 39).fd := Y.fdOf_ok h
  exact Y.df_core (N := N__law_number) (nN := 6) (Ss := b__law_number) M F (Y.fnScB_ok (by kernel_rfl)) (by kernel_rfl) (by kernel_rfl) (Y.binds0 F (by kernel_rfl) (fun _ _ _ _ _ _ us hl => match us, hl with | [_, _, _], _ => rfl)) (fun E => by kernel_rfl) c__law_number
theorem df__law_book (M : Y.Md P w K mg tb.st tb.blt tb.exB) (h : ∃ fd, L2.FunD K d__law_book.name d__law_book.qual d__law_book.params d__law_book.body d__law_book.scope (d__law_book.dvs K) (d__law_book.kws K) (He.fAd K d__law_book.at_) fd) : Y.Df P w K mg base tb.st stp 40 (pl K 40) := by
  have F : L2.FunD K d__law_book.name d__law_book.qual d__law_book.params d__law_book.body d__law_book.scope (d__law_book.dvs K) (d__law_book.kws K) (pl K 40).f (pl K 40).fd := Y.fdOf_ok h
  exact Y.df_core (N := N__law_book) (nN := 2) (Ss := b__law_book) M F (Y.fnScB_ok (by kernel_rfl)) (by kernel_rfl) (by kernel_rfl) (Y.binds0 F (by kernel_rfl) (fun _ _ _ _ _ _ us hl => match us, hl with | [_], _ => rfl)) (fun E => by kernel_rfl) c__law_book
theorem df__law_cells (M : Y.Md P w K mg tb.st tb.blt tb.exB) (h : ∃ fd, L2.FunD K d__law_cells.name d__law_cells.qual d__law_cells.params d__law_cells.body d__law_cells.scope (d__law_cells.dvs K) (d__law_cells.kws K) (He.fAd K d__law_cells.at_) fd) : Y.Df P w K mg base tb.st stp 41 (pl K 41) := by
  have F : L2.FunD K d__law_cells.name d__law_cells.qual d__law_cells.params d__law_cells.body d__law_cells.scope (d__law_cells.dvs K) (d__law_cells.kws K) (pl K 41).f (pl K 41).fd := Y.fdOf_ok h
  exact Y.df_core (N := N__law_cells) (nN := 1) (Ss := b__law_cells) M F (Y.fnScB_ok (by kernel_rfl)) (by kernel_rfl) (by kernel_rfl) (Y.binds0 F (by kernel_rfl) (fun _ _ _ _ _ _ us hl => match us, hl with | [_], _ => rfl)) (fun E => by kernel_rfl) c__law_cells
theorem df__law_full (M : Y.Md P w K mg tb.st tb.blt tb.exB) (h : ∃ fd, L2.FunD K d__law_full.name d__law_full.qual d__law_full.params d__law_full.body d__law_full.scope (d__law_full.dvs K) (d__law_full.kws K) (He.fAd K d__law_full.at_) fd) : Y.Df P w K mg base tb.st stp 42 (pl K 42) := by
  have F : L2.FunD K d__law_full.name d__law_full.qual d__law_full.params d__law_full.body d__law_full.scope (d__law_full.dvs K) (d__law_full.kws K) (pl K 42).f (pl K 42).fd := Y.fdOf_ok h
  exact Y.df_core (N := N__law_full) (nN := 1) (Ss := b__law_full) M F (Y.fnScB_ok (by kernel_rfl)) (by kernel_rfl) (by kernel_rfl) (Y.binds0 F (by kernel_rfl) (fun _ _ _ _ _ _ us hl => match us, hl with | [_], _ => rfl)) (fun E => by kernel_rfl) c__law_full
theorem df__law_sum (M : Y.Md P w K mg tb.st tb.blt tb.exB) (h : ∃ fd, L2.FunD K d__law_sum.name d__law_sum.qual d__law_sum.params d__law_sum.body d__law_sum.scope (d__law_sum.dvs K) (d__law_sum.kws K) (He.fAd K d__law_sum.at_) fd) : Y.Df P w K mg base tb.st stp 43 (pl K 43) := by
  have F : L2.FunD K d__law_sum.name d__law_sum.qual d__law_sum.params d__law_sum.body d__law_sum.scope (d__law_sum.dvs K) (d__law_sum.kws K) (pl K 43).f (pl K 43).fd := Y.fdOf_ok h
  exact Y.df_core (N := N__law_sum) (nN := 2) (Ss := b__law_sum) M F (Y.fnScB_ok (by kernel_rfl)) (by kernel_rfl) (by kernel_rfl) (Y.binds0 F (by kernel_rfl) (fun _ _ _ _ _ _ us hl => match us, hl with | [_], _ => rfl)) (fun E => by kernel_rfl) c__law_sum
theorem df__law_by_it (hT : Y.tryB K "MakingError" "TooMany" "many" "" h__law_by_it = true) (M : Y.Md P w K mg tb.st tb.blt tb.exB) (h : ∃ fd, L2.FunD K d__law_by_it.name d__law_by_it.qual d__law_by_it.params d__law_by_it.body d__law_by_it.scope (d__law_by_it.dvs K) (d__law_by_it.kws K) (He.fAd K d__law_by_it.at_) fd) : Y.Df P w K mg base tb.st stp 44 (pl K 44) := by
  have F : L2.FunD K d__law_by_it.name d__law_by_it.qual d__law_by_it.params d__law_by_it.body d__law_by_it.scope (d__law_by_it.dvs K) (d__law_by_it.kws K) (pl K 44).f (pl K 44).fd := Y.fdOf_ok h
  exact Y.df_ev0 (N := N__law_by_it) (nN := 5) (ev := ev__law_by_it) M F (Y.fnScB_ok (by kernel_rfl)) (by kernel_rfl) (by kernel_rfl) (Y.binds0 F (by kernel_rfl) (fun _ _ _ _ _ _ us hl => match us, hl with | [_, _, _], _ => rfl)) (fun E => by kernel_rfl) (fun a b k X R W bg hR hio h1 h2 h3 => Y.tryC_ok bg h1 h2 (hio (by kernel_rfl)) (by rw [hR]; exact Y.tryB_ok hT) (c__law_by_it a b))
theorem df__law_edges_right (M : Y.Md P w K mg tb.st tb.blt tb.exB) (h : ∃ fd, L2.FunD K d__law_edges_right.name d__law_edges_right.qual d__law_edges_right.params d__law_edges_right.body d__law_edges_right.scope (d__law_edges_right.dvs K) (d__law_edges_right.kws K) (He.fAd K d__law_edges_right.at_) fd) : Y.Df P w K mg base tb.st stp 45 (pl K 45) := by
  have F : L2.FunD K d__law_edges_right.name d__law_edges_right.qual d__law_edges_right.params d__law_edges_right.body d__law_edges_right.scope (d__law_edges_right.dvs K) (d__law_edges_right.kws K) (pl K 45).f (pl K 45).fd := Y.fdOf_ok h
  exact Y.df_ev0 (N := N__law_edges_right) (nN := 17) (ev := ev__law_edges_right) M F (Y.fnScB_ok (by kernel_rfl)) (by kernel_rfl) (by kernel_rfl) (Y.binds0 F (by kernel_rfl) (fun _ _ _ _ _ _ us hl => match us, hl with | [_], _ => rfl)) (fun E => by kernel_rfl) (fun a b k X R W bg _ hio _ _ _ => (Y.pss_ts0 (Y.clearC_ok bg (hio (by kernel_rfl)) (c__law_edges_right a b))))
theorem df_law (M : Y.Md P w K mg tb.st tb.blt tb.exB) (h : ∃ fd, L2.FunD K d_law.name d_law.qual d_law.params d_law.body d_law.scope (d_law.dvs K) (d_law.kws K) (He.fAd K d_law.at_) fd) : Y.Df P w K mg base tb.st stp 46 (pl K 46) := by
  have F : L2.FunD K d_law.name d_law.qual d_law.params d_law.body d_law.scope (d_law.dvs K) (d_law.kws K) (pl K 46).f (pl K 46).fd := Y.fdOf_ok h
  exact Y.df_core (N := N_law) (nN := 2) (Ss := b_law) M F (Y.fnScB_ok (by kernel_rfl)) (by kernel_rfl) (by kernel_rfl) (Y.binds0 F (by kernel_rfl) (fun _ _ _ _ _ _ us hl => match us, hl with | [_], _ => rfl)) (fun E => by kernel_rfl) c_law
end
def fn0 : List He.DefD := [d__wall, d_is_whole, d_is_name, d_is_kind, d_are_kinds, d_put_in, d_cells_of, d_holds, d_fits_part, d_terms_room, d_term_room, d_is_term, d_inner, d_copied, d_asks_of, d_plain_kind, d_ask_kind, d_own_kind, d_kind_or_way, d_first_misfit, d_asked_by, d_come_to, d_ties_from, d_way_to, d_growing_ring, d_all_makings, d_All___init__, d_All_shows, d_Endless___init__, d_Endless_shows]
def fn1 : List He.DefD := [d_Function___init__, d_Function_told, d_Book___init__, d_Book_names, d_Book_function, d_check_start, d_makings, d__law_cell_at, d__law_draw, d__law_number, d__law_book, d__law_cells, d__law_full, d__law_sum, d__law_by_it, d__law_edges_right, d_law]
def fn : List He.DefD := fn0 ++ fn1
def ts : List He.Tab := [(fun K => He.ga K "FORMS", ["num", "yes", "no", "take", "size", "plus", "less", "pair", "first", "second", "if", "fail", "ask"])]
def ex (K : PySem.W.Frag) : Bool := tb.ok K && Y.tryB K "MakingError" "TooMany" "many" "" h__law_by_it
abbrev R : PySem.W.OpenRow := PySem.W.OpenLaw.row PySem.Challenge.rw_kindmakings_k16_edges
abbrev hk : PySem.W.Hook := He.hookX 4 [] fn ts [] ex
def ob (s : PySem.W.SharedT) : He.AlX := He.obsX 4 [] fn ts [] ex (HandSHeadRun.getT s)
theorem ob_eq (s : PySem.W.SharedT) : ob s = hk.obs s.abs := He.obsX_eq (HandSHeadRun.getT_eq s)
def loose0 : List PySem.Str := ["_wall", "__name__", "MOST_CELLS", "LETTERS", "is_whole", "is_name", "is_kind", "are_kinds", "put_in", "cells_of", "holds", "MOST_TERMS", "DEEPEST_TERM", "FORMS", "fits_part", "terms_room", "term_room", "is_term", "inner", "copied", "asks_of", "plain_kind", "ask_kind", "own_kind", "kind_or_way", "first_misfit", "MakingError", "BadFunction", "BadBook", "BadName"]
def loose1 : List PySem.Str := ["BadKinds", "Unfit", "TooMany", "MOST_MAKINGS", "asked_by", "come_to", "ties_from", "way_to", "growing_ring", "all_makings", "Answer", "All", "Endless", "MOST_OPENS", "MOST_TAKES", "MOST_FUNCTIONS", "Function", "Book", "check_start", "makings", "_law_cell_at", "_law_draw", "_law_number", "_law_book", "_law_cells", "_law_full", "_law_sum", "_law_by_it", "_law_edges_right"]
def loose : List PySem.Str := loose0 ++ loose1
abbrev qv : Program := PySem.W.view R.prog [68]
theorem runF (w : World) : HandSHeadRun.RunEq R qv hk ob 12000 loose (w.withFollow "special-get-raises" false) := by
  intro os
  kernel_rfl
theorem runT (w : World) : HandSHeadRun.RunEq R qv hk ob 12000 loose (w.withFollow "special-get-raises" true) := by
  intro os
  kernel_rfl
theorem run (w : World) : HandSHeadRun.RunEq R qv hk ob 12000 loose w := PySem.W.byRow2 "special-get-raises" runF runT w
end Hd
set_option Elab.async false
set_option linter.all false
set_option maxRecDepth 100000
set_option maxHeartbeats 0
namespace Hd
open PySem PySem.Spec L2
def sm : Nat → Nat → Y.Fn := Y.sem tb.st stp
def En (k : Nat) : Y.Ev := Y.mkE tb.st (sm (k + 1)) (sm k)
@[simp] theorem En_fn (k f : Nat) : (En k).fn f = sm (k + 1) f := rfl
@[simp] theorem En_fm (k f : Nat) : (En k).fm f = sm k f := rfl
theorem sem__wall (k : Nat) (as : List Y.D) : sm (k + 2) f__wall as = Y.runF (En k) none 1 1 b__wall as := by kernel_rfl
@[simp] theorem io__wall (k : Nat) : (En k).io f__wall = none := by kernel_rfl
@[simp] theorem np__wall (k : Nat) : (En k).np f__wall = 1 := by kernel_rfl
@[simp] theorem more__wall (k : Nat) : Y.moreOf (En k) f__wall 1 = [] := by kernel_rfl
theorem sem_is_whole (k : Nat) (as : List Y.D) : sm (k + 2) f_is_whole as = Y.runF (En k) none 1 1 b_is_whole as := by kernel_rfl
@[simp] theorem io_is_whole (k : Nat) : (En k).io f_is_whole = none := by kernel_rfl
@[simp] theorem np_is_whole (k : Nat) : (En k).np f_is_whole = 1 := by kernel_rfl
@[simp] theorem more_is_whole (k : Nat) : Y.moreOf (En k) f_is_whole 1 = [] := by kernel_rfl
theorem sem_is_name (k : Nat) (as : List Y.D) : sm (k + 2) f_is_name as = Y.runF (En k) none 2 1 b_is_name as := by kernel_rfl
@[simp] theorem io_is_name (k : Nat) : (En k).io f_is_name = none := by kernel_rfl
@[simp] theorem np_is_name (k : Nat) : (En k).np f_is_name = 1 := by kernel_rfl
@[simp] theorem more_is_name (k : Nat) : Y.moreOf (En k) f_is_name 1 = [] := by kernel_rfl
theorem sem_is_kind (k : Nat) (as : List Y.D) : sm (k + 2) f_is_kind as = Y.runF (En k) none 3 3 b_is_kind as := by kernel_rfl
@[simp] theorem io_is_kind (k : Nat) : (En k).io f_is_kind = none := by kernel_rfl
@[simp] theorem np_is_kind (k : Nat) : (En k).np f_is_kind = 3 := by kernel_rfl
@[simp] theorem more_is_kind (k : Nat) : Y.moreOf (En k) f_is_kind 3 = [] := by kernel_rfl
@[simp] theorem more1_is_kind (k : Nat) : Y.moreOf (En k) f_is_kind 2 = [.int 4] := by kernel_rfl
theorem sem_are_kinds (k : Nat) (as : List Y.D) : sm (k + 2) f_are_kinds as = Y.runF (En k) none 4 3 b_are_kinds as := by kernel_rfl
@[simp] theorem io_are_kinds (k : Nat) : (En k).io f_are_kinds = none := by kernel_rfl
@[simp] theorem np_are_kinds (k : Nat) : (En k).np f_are_kinds = 3 := by kernel_rfl
@[simp] theorem more_are_kinds (k : Nat) : Y.moreOf (En k) f_are_kinds 3 = [] := by kernel_rfl
theorem sem_put_in (k : Nat) (as : List Y.D) : sm (k + 2) f_put_in as = Y.runF (En k) none 2 2 b_put_in as := by kernel_rfl
@[simp] theorem io_put_in (k : Nat) : (En k).io f_put_in = none := by kernel_rfl
@[simp] theorem np_put_in (k : Nat) : (En k).np f_put_in = 2 := by kernel_rfl
@[simp] theorem more_put_in (k : Nat) : Y.moreOf (En k) f_put_in 2 = [] := by kernel_rfl
theorem sem_cells_of (k : Nat) (as : List Y.D) : sm (k + 2) f_cells_of as = Y.runF (En k) none 1 1 b_cells_of as := by kernel_rfl
@[simp] theorem io_cells_of (k : Nat) : (En k).io f_cells_of = none := by kernel_rfl
@[simp] theorem np_cells_of (k : Nat) : (En k).np f_cells_of = 1 := by kernel_rfl
@[simp] theorem more_cells_of (k : Nat) : Y.moreOf (En k) f_cells_of 1 = [] := by kernel_rfl
theorem sem_holds (k : Nat) (as : List Y.D) : sm (k + 2) f_holds as = Y.runF (En k) none 2 2 b_holds as := by kernel_rfl
@[simp] theorem io_holds (k : Nat) : (En k).io f_holds = none := by kernel_rfl
@[simp] theorem np_holds (k : Nat) : (En k).np f_holds = 2 := by kernel_rfl
@[simp] theorem more_holds (k : Nat) : Y.moreOf (En k) f_holds 2 = [] := by kernel_rfl
theorem sem_fits_part (k : Nat) (as : List Y.D) : sm (k + 2) f_fits_part as = Y.runF (En k) none 4 3 b_fits_part as := by kernel_rfl
@[simp] theorem io_fits_part (k : Nat) : (En k).io f_fits_part = none := by kernel_rfl
@[simp] theorem np_fits_part (k : Nat) : (En k).np f_fits_part = 3 := by kernel_rfl
@[simp] theorem more_fits_part (k : Nat) : Y.moreOf (En k) f_fits_part 3 = [] := by kernel_rfl
theorem sem_terms_room (k : Nat) (as : List Y.D) : sm (k + 2) f_terms_room as = Y.runF (En k) none 5 4 b_terms_room as := by kernel_rfl
@[simp] theorem io_terms_room (k : Nat) : (En k).io f_terms_room = none := by kernel_rfl
@[simp] theorem np_terms_room (k : Nat) : (En k).np f_terms_room = 4 := by kernel_rfl
@[simp] theorem more_terms_room (k : Nat) : Y.moreOf (En k) f_terms_room 4 = [] := by kernel_rfl
theorem sem_term_room (k : Nat) (as : List Y.D) : sm (k + 2) f_term_room as = Y.runF (En k) none 7 4 b_term_room as := by kernel_rfl
@[simp] theorem io_term_room (k : Nat) : (En k).io f_term_room = none := by kernel_rfl
@[simp] theorem np_term_room (k : Nat) : (En k).np f_term_room = 4 := by kernel_rfl
@[simp] theorem more_term_room (k : Nat) : Y.moreOf (En k) f_term_room 4 = [] := by kernel_rfl
theorem sem_is_term (k : Nat) (as : List Y.D) : sm (k + 2) f_is_term as = Y.runF (En k) none 2 2 b_is_term as := by kernel_rfl
@[simp] theorem io_is_term (k : Nat) : (En k).io f_is_term = none := by kernel_rfl
@[simp] theorem np_is_term (k : Nat) : (En k).np f_is_term = 2 := by kernel_rfl
@[simp] theorem more_is_term (k : Nat) : Y.moreOf (En k) f_is_term 2 = [] := by kernel_rfl
theorem sem_inner (k : Nat) (as : List Y.D) : sm (k + 2) f_inner as = Y.runF (En k) none 1 1 b_inner as := by kernel_rfl
@[simp] theorem io_inner (k : Nat) : (En k).io f_inner = none := by kernel_rfl
@[simp] theorem np_inner (k : Nat) : (En k).np f_inner = 1 := by kernel_rfl
@[simp] theorem more_inner (k : Nat) : Y.moreOf (En k) f_inner 1 = [] := by kernel_rfl
theorem sem_copied (k : Nat) (as : List Y.D) : sm (k + 2) f_copied as = Y.runF (En k) none 2 1 b_copied as := by kernel_rfl
@[simp] theorem io_copied (k : Nat) : (En k).io f_copied = none := by kernel_rfl
@[simp] theorem np_copied (k : Nat) : (En k).np f_copied = 1 := by kernel_rfl
@[simp] theorem more_copied (k : Nat) : Y.moreOf (En k) f_copied 1 = [] := by kernel_rfl
theorem sem_asks_of (k : Nat) (as : List Y.D) : sm (k + 2) f_asks_of as = Y.runF (En k) none 3 1 b_asks_of as := by kernel_rfl
@[simp] theorem io_asks_of (k : Nat) : (En k).io f_asks_of = none := by kernel_rfl
@[simp] theorem np_asks_of (k : Nat) : (En k).np f_asks_of = 1 := by kernel_rfl
@[simp] theorem more_asks_of (k : Nat) : Y.moreOf (En k) f_asks_of 1 = [] := by kernel_rfl
theorem sem_plain_kind (k : Nat) (as : List Y.D) : sm (k + 2) f_plain_kind as = Y.runF (En k) none 2 2 b_plain_kind as := by kernel_rfl
@[simp] theorem io_plain_kind (k : Nat) : (En k).io f_plain_kind = none := by kernel_rfl
@[simp] theorem np_plain_kind (k : Nat) : (En k).np f_plain_kind = 2 := by kernel_rfl
@[simp] theorem more_plain_kind (k : Nat) : Y.moreOf (En k) f_plain_kind 2 = [] := by kernel_rfl
theorem sem_ask_kind (k : Nat) (as : List Y.D) : sm (k + 2) f_ask_kind as = Y.runF (En k) none 5 3 b_ask_kind as := by kernel_rfl
@[simp] theorem io_ask_kind (k : Nat) : (En k).io f_ask_kind = none := by kernel_rfl
@[simp] theorem np_ask_kind (k : Nat) : (En k).np f_ask_kind = 3 := by kernel_rfl
@[simp] theorem more_ask_kind (k : Nat) : Y.moreOf (En k) f_ask_kind 3 = [] := by kernel_rfl
theorem sem_own_kind (k : Nat) (as : List Y.D) : sm (k + 2) f_own_kind as = Y.runF (En k) none 5 4 b_own_kind as := by kernel_rfl
@[simp] theorem io_own_kind (k : Nat) : (En k).io f_own_kind = none := by kernel_rfl
@[simp] theorem np_own_kind (k : Nat) : (En k).np f_own_kind = 4 := by kernel_rfl
@[simp] theorem more_own_kind (k : Nat) : Y.moreOf (En k) f_own_kind 4 = [] := by kernel_rfl
theorem sem_kind_or_way (k : Nat) (as : List Y.D) : sm (k + 2) f_kind_or_way as = Y.runF (En k) none 10 4 b_kind_or_way as := by kernel_rfl
@[simp] theorem io_kind_or_way (k : Nat) : (En k).io f_kind_or_way = none := by kernel_rfl
@[simp] theorem np_kind_or_way (k : Nat) : (En k).np f_kind_or_way = 4 := by kernel_rfl
@[simp] theorem more_kind_or_way (k : Nat) : Y.moreOf (En k) f_kind_or_way 4 = [] := by kernel_rfl
theorem sem_first_misfit (k : Nat) (as : List Y.D) : sm (k + 2) f_first_misfit as = Y.runF (En k) none 5 1 b_first_misfit as := by kernel_rfl
@[simp] theorem io_first_misfit (k : Nat) : (En k).io f_first_misfit = none := by kernel_rfl
@[simp] theorem np_first_misfit (k : Nat) : (En k).np f_first_misfit = 1 := by kernel_rfl
@[simp] theorem more_first_misfit (k : Nat) : Y.moreOf (En k) f_first_misfit 1 = [] := by kernel_rfl
theorem sem_asked_by (k : Nat) (as : List Y.D) : sm (k + 2) f_asked_by as = Y.runF (En k) none 7 2 b_asked_by as := by kernel_rfl
@[simp] theorem io_asked_by (k : Nat) : (En k).io f_asked_by = none := by kernel_rfl
@[simp] theorem np_asked_by (k : Nat) : (En k).np f_asked_by = 2 := by kernel_rfl
@[simp] theorem more_asked_by (k : Nat) : Y.moreOf (En k) f_asked_by 2 = [] := by kernel_rfl
theorem sem_come_to (k : Nat) (as : List Y.D) : sm (k + 2) f_come_to as = Y.runF (En k) none 5 2 b_come_to as := by kernel_rfl
@[simp] theorem io_come_to (k : Nat) : (En k).io f_come_to = none := by kernel_rfl
@[simp] theorem np_come_to (k : Nat) : (En k).np f_come_to = 2 := by kernel_rfl
@[simp] theorem more_come_to (k : Nat) : Y.moreOf (En k) f_come_to 2 = [] := by kernel_rfl
theorem sem_ties_from (k : Nat) (as : List Y.D) : sm (k + 2) f_ties_from as = Y.runF (En k) none 8 3 b_ties_from as := by kernel_rfl
@[simp] theorem io_ties_from (k : Nat) : (En k).io f_ties_from = none := by kernel_rfl
@[simp] theorem np_ties_from (k : Nat) : (En k).np f_ties_from = 3 := by kernel_rfl
@[simp] theorem more_ties_from (k : Nat) : Y.moreOf (En k) f_ties_from 3 = [] := by kernel_rfl
theorem sem_way_to (k : Nat) (as : List Y.D) : sm (k + 2) f_way_to as = Y.runF (En k) none 10 3 b_way_to as := by kernel_rfl
@[simp] theorem io_way_to (k : Nat) : (En k).io f_way_to = none := by kernel_rfl
@[simp] theorem np_way_to (k : Nat) : (En k).np f_way_to = 3 := by kernel_rfl
@[simp] theorem more_way_to (k : Nat) : Y.moreOf (En k) f_way_to 3 = [] := by kernel_rfl
theorem sem_growing_ring (k : Nat) (as : List Y.D) : sm (k + 2) f_growing_ring as = Y.runF (En k) none 8 2 b_growing_ring as := by kernel_rfl
@[simp] theorem io_growing_ring (k : Nat) : (En k).io f_growing_ring = none := by kernel_rfl
@[simp] theorem np_growing_ring (k : Nat) : (En k).np f_growing_ring = 2 := by kernel_rfl
@[simp] theorem more_growing_ring (k : Nat) : Y.moreOf (En k) f_growing_ring 2 = [] := by kernel_rfl
theorem sem_all_makings (k : Nat) (as : List Y.D) : sm (k + 2) f_all_makings as = Y.runF (En k) none 6 2 b_all_makings as := by kernel_rfl
@[simp] theorem io_all_makings (k : Nat) : (En k).io f_all_makings = none := by kernel_rfl
@[simp] theorem np_all_makings (k : Nat) : (En k).np f_all_makings = 2 := by kernel_rfl
@[simp] theorem more_all_makings (k : Nat) : Y.moreOf (En k) f_all_makings 2 = [] := by kernel_rfl
theorem sem_All___init__ (k : Nat) (as : List Y.D) : sm (k + 2) f_All___init__ as = Y.runF (En k) (some 0) 2 2 b_All___init__ as := by kernel_rfl
@[simp] theorem io_All___init__ (k : Nat) : (En k).io f_All___init__ = (some 0) := by kernel_rfl
@[simp] theorem np_All___init__ (k : Nat) : (En k).np f_All___init__ = 2 := by kernel_rfl
@[simp] theorem more_All___init__ (k : Nat) : Y.moreOf (En k) f_All___init__ 2 = [] := by kernel_rfl
theorem sem_All_shows (k : Nat) (as : List Y.D) : sm (k + 2) f_All_shows as = Y.runF (En k) none 4 4 b_All_shows as := by kernel_rfl
@[simp] theorem io_All_shows (k : Nat) : (En k).io f_All_shows = none := by kernel_rfl
@[simp] theorem np_All_shows (k : Nat) : (En k).np f_All_shows = 4 := by kernel_rfl
@[simp] theorem more_All_shows (k : Nat) : Y.moreOf (En k) f_All_shows 4 = [] := by kernel_rfl
theorem sem_Endless___init__ (k : Nat) (as : List Y.D) : sm (k + 2) f_Endless___init__ as = Y.runF (En k) (some 0) 2 2 b_Endless___init__ as := by kernel_rfl
@[simp] theorem io_Endless___init__ (k : Nat) : (En k).io f_Endless___init__ = (some 0) := by kernel_rfl
@[simp] theorem np_Endless___init__ (k : Nat) : (En k).np f_Endless___init__ = 2 := by kernel_rfl
@[simp] theorem more_Endless___init__ (k : Nat) : Y.moreOf (En k) f_Endless___init__ 2 = [] := by kernel_rfl
theorem sem_Endless_shows (k : Nat) (as : List Y.D) : sm (k + 2) f_Endless_shows as = Y.runF (En k) none 4 4 b_Endless_shows as := by kernel_rfl
@[simp] theorem io_Endless_shows (k : Nat) : (En k).io f_Endless_shows = none := by kernel_rfl
@[simp] theorem np_Endless_shows (k : Nat) : (En k).np f_Endless_shows = 4 := by kernel_rfl
@[simp] theorem more_Endless_shows (k : Nat) : Y.moreOf (En k) f_Endless_shows 4 = [] := by kernel_rfl
theorem sem_Function___init__ (k : Nat) (as : List Y.D) : sm (k + 2) f_Function___init__ as = Y.runF (En k) (some 0) 7 6 b_Function___init__ as := by kernel_rfl
@[simp] theorem io_Function___init__ (k : Nat) : (En k).io f_Function___init__ = (some 0) := by kernel_rfl
@[simp] theorem np_Function___init__ (k : Nat) : (En k).np f_Function___init__ = 6 := by kernel_rfl
@[simp] theorem more_Function___init__ (k : Nat) : Y.moreOf (En k) f_Function___init__ 6 = [] := by kernel_rfl
theorem sem_Function_told (k : Nat) (as : List Y.D) : sm (k + 2) f_Function_told as = Y.runF (En k) none 1 1 b_Function_told as := by kernel_rfl
@[simp] theorem io_Function_told (k : Nat) : (En k).io f_Function_told = none := by kernel_rfl
@[simp] theorem np_Function_told (k : Nat) : (En k).np f_Function_told = 1 := by kernel_rfl
@[simp] theorem more_Function_told (k : Nat) : Y.moreOf (En k) f_Function_told 1 = [] := by kernel_rfl
theorem sem_Book___init__ (k : Nat) (as : List Y.D) : sm (k + 2) f_Book___init__ as = Y.runG (some 0) 3 2 (ev_Book___init__ (En k)) as := by kernel_rfl
@[simp] theorem io_Book___init__ (k : Nat) : (En k).io f_Book___init__ = (some 0) := by kernel_rfl
@[simp] theorem np_Book___init__ (k : Nat) : (En k).np f_Book___init__ = 2 := by kernel_rfl
@[simp] theorem more_Book___init__ (k : Nat) : Y.moreOf (En k) f_Book___init__ 2 = [] := by kernel_rfl
theorem sem_Book_names (k : Nat) (as : List Y.D) : sm (k + 2) f_Book_names as = Y.runF (En k) none 1 1 b_Book_names as := by kernel_rfl
@[simp] theorem io_Book_names (k : Nat) : (En k).io f_Book_names = none := by kernel_rfl
@[simp] theorem np_Book_names (k : Nat) : (En k).np f_Book_names = 1 := by kernel_rfl
@[simp] theorem more_Book_names (k : Nat) : Y.moreOf (En k) f_Book_names 1 = [] := by kernel_rfl
theorem sem_Book_function (k : Nat) (as : List Y.D) : sm (k + 2) f_Book_function as = Y.runF (En k) none 2 2 b_Book_function as := by kernel_rfl
@[simp] theorem io_Book_function (k : Nat) : (En k).io f_Book_function = none := by kernel_rfl
@[simp] theorem np_Book_function (k : Nat) : (En k).np f_Book_function = 2 := by kernel_rfl
@[simp] theorem more_Book_function (k : Nat) : Y.moreOf (En k) f_Book_function 2 = [] := by kernel_rfl
theorem sem_check_start (k : Nat) (as : List Y.D) : sm (k + 2) f_check_start as = Y.runF (En k) none 3 3 b_check_start as := by kernel_rfl
@[simp] theorem io_check_start (k : Nat) : (En k).io f_check_start = none := by kernel_rfl
@[simp] theorem np_check_start (k : Nat) : (En k).np f_check_start = 3 := by kernel_rfl
@[simp] theorem more_check_start (k : Nat) : Y.moreOf (En k) f_check_start 3 = [] := by kernel_rfl
theorem sem_makings (k : Nat) (as : List Y.D) : sm (k + 2) f_makings as = Y.runF (En k) none 5 3 b_makings as := by kernel_rfl
@[simp] theorem io_makings (k : Nat) : (En k).io f_makings = none := by kernel_rfl
@[simp] theorem np_makings (k : Nat) : (En k).np f_makings = 3 := by kernel_rfl
@[simp] theorem more_makings (k : Nat) : Y.moreOf (En k) f_makings 3 = [] := by kernel_rfl
theorem sem__law_cell_at (k : Nat) (as : List Y.D) : sm (k + 2) f__law_cell_at as = Y.runF (En k) none 2 2 b__law_cell_at as := by kernel_rfl
@[simp] theorem io__law_cell_at (k : Nat) : (En k).io f__law_cell_at = none := by kernel_rfl
@[simp] theorem np__law_cell_at (k : Nat) : (En k).np f__law_cell_at = 2 := by kernel_rfl
@[simp] theorem more__law_cell_at (k : Nat) : Y.moreOf (En k) f__law_cell_at 2 = [] := by kernel_rfl
theorem sem__law_draw (k : Nat) (as : List Y.D) : sm (k + 2) f__law_draw as = Y.runF (En k) none 4 3 b__law_draw as := by kernel_rfl
@[simp] theorem io__law_draw (k : Nat) : (En k).io f__law_draw = none := by kernel_rfl
@[simp] theorem np__law_draw (k : Nat) : (En k).np f__law_draw = 3 := by kernel_rfl
@[simp] theorem more__law_draw (k : Nat) : Y.moreOf (En k) f__law_draw 3 = [] := by kernel_rfl
theorem sem__law_number (k : Nat) (as : List Y.D) : sm (k + 2) f__law_number as = Y.runF (En k) none 6 3 b__law_number as := by kernel_rfl
@[simp] theorem io__law_number (k : Nat) : (En k).io f__law_number = none := by kernel_rfl
@[simp] theorem np__law_number (k : Nat) : (En k).np f__law_number = 3 := by kernel_rfl
@[simp] theorem more__law_number (k : Nat) : Y.moreOf (En k) f__law_number 3 = [] := by kernel_rfl
theorem sem__law_book (k : Nat) (as : List Y.D) : sm (k + 2) f__law_book as = Y.runF (En k) none 2 1 b__law_book as := by kernel_rfl
@[simp] theorem io__law_book (k : Nat) : (En k).io f__law_book = none := by kernel_rfl
@[simp] theorem np__law_book (k : Nat) : (En k).np f__law_book = 1 := by kernel_rfl
@[simp] theorem more__law_book (k : Nat) : Y.moreOf (En k) f__law_book 1 = [] := by kernel_rfl
theorem sem__law_cells (k : Nat) (as : List Y.D) : sm (k + 2) f__law_cells as = Y.runF (En k) none 1 1 b__law_cells as := by kernel_rfl
@[simp] theorem io__law_cells (k : Nat) : (En k).io f__law_cells = none := by kernel_rfl
@[simp] theorem np__law_cells (k : Nat) : (En k).np f__law_cells = 1 := by kernel_rfl
@[simp] theorem more__law_cells (k : Nat) : Y.moreOf (En k) f__law_cells 1 = [] := by kernel_rfl
theorem sem__law_full (k : Nat) (as : List Y.D) : sm (k + 2) f__law_full as = Y.runF (En k) none 1 1 b__law_full as := by kernel_rfl
@[simp] theorem io__law_full (k : Nat) : (En k).io f__law_full = none := by kernel_rfl
@[simp] theorem np__law_full (k : Nat) : (En k).np f__law_full = 1 := by kernel_rfl
@[simp] theorem more__law_full (k : Nat) : Y.moreOf (En k) f__law_full 1 = [] := by kernel_rfl
theorem sem__law_sum (k : Nat) (as : List Y.D) : sm (k + 2) f__law_sum as = Y.runF (En k) none 2 1 b__law_sum as := by kernel_rfl
@[simp] theorem io__law_sum (k : Nat) : (En k).io f__law_sum = none := by kernel_rfl
@[simp] theorem np__law_sum (k : Nat) : (En k).np f__law_sum = 1 := by kernel_rfl
@[simp] theorem more__law_sum (k : Nat) : Y.moreOf (En k) f__law_sum 1 = [] := by kernel_rfl
theorem sem__law_by_it (k : Nat) (as : List Y.D) : sm (k + 2) f__law_by_it as = Y.runG none 5 3 (ev__law_by_it (En k)) as := by kernel_rfl
@[simp] theorem io__law_by_it (k : Nat) : (En k).io f__law_by_it = none := by kernel_rfl
@[simp] theorem np__law_by_it (k : Nat) : (En k).np f__law_by_it = 3 := by kernel_rfl
@[simp] theorem more__law_by_it (k : Nat) : Y.moreOf (En k) f__law_by_it 3 = [] := by kernel_rfl
theorem sem__law_edges_right (k : Nat) (as : List Y.D) : sm (k + 2) f__law_edges_right as = Y.runG none 17 1 (ev__law_edges_right (En k)) as := by kernel_rfl
@[simp] theorem io__law_edges_right (k : Nat) : (En k).io f__law_edges_right = none := by kernel_rfl
@[simp] theorem np__law_edges_right (k : Nat) : (En k).np f__law_edges_right = 1 := by kernel_rfl
@[simp] theorem more__law_edges_right (k : Nat) : Y.moreOf (En k) f__law_edges_right 1 = [] := by kernel_rfl
theorem sem_law (k : Nat) (as : List Y.D) : sm (k + 2) f_law as = Y.runF (En k) none 2 1 b_law as := by kernel_rfl
@[simp] theorem io_law (k : Nat) : (En k).io f_law = none := by kernel_rfl
@[simp] theorem np_law (k : Nat) : (En k).np f_law = 1 := by kernel_rfl
@[simp] theorem more_law (k : Nat) : Y.moreOf (En k) f_law 1 = [] := by kernel_rfl
@[simp] theorem att_All_pairs (k : Nat) : (En k).att "All" "pairs" = true := by kernel_rfl
@[simp] theorem att_Endless_ring (k : Nat) : (En k).att "Endless" "ring" = true := by kernel_rfl
@[simp] theorem att_Function_name (k : Nat) : (En k).att "Function" "name" = true := by kernel_rfl
@[simp] theorem att_Function_opens (k : Nat) : (En k).att "Function" "opens" = true := by kernel_rfl
@[simp] theorem att_Function_takes (k : Nat) : (En k).att "Function" "takes" = true := by kernel_rfl
@[simp] theorem att_Function_gives (k : Nat) : (En k).att "Function" "gives" = true := by kernel_rfl
@[simp] theorem att_Function_body (k : Nat) : (En k).att "Function" "body" = true := by kernel_rfl
@[simp] theorem att_Book_table (k : Nat) : (En k).att "Book" "table" = true := by kernel_rfl
@[simp] theorem con_MOST_CELLS (k : Nat) : (En k).con "MOST_CELLS" = some (.int 60) := by kernel_rfl
@[simp] theorem con_LETTERS (k : Nat) : (En k).con "LETTERS" = some (.str "abcdefghijklmnopqrstuvwxyz") := by kernel_rfl
@[simp] theorem con_MOST_TERMS (k : Nat) : (En k).con "MOST_TERMS" = some (.int 40) := by kernel_rfl
@[simp] theorem con_DEEPEST_TERM (k : Nat) : (En k).con "DEEPEST_TERM" = some (.int 6) := by kernel_rfl
theorem kd_FORMS (k : Nat) : (En k).kd "FORMS" = some ([("num", ["number"]), ("yes", []), ("no", []), ("take", ["count"]), ("size", ["kind"]), ("plus", ["term", "term"]), ("less", ["term", "term"]), ("pair", ["term", "term"]), ("first", ["term"]), ("second", ["term"]), ("if", ["term", "term", "term"]), ("fail", ["number", "kind"]), ("ask", ["name", "kinds", "terms"])] : List (Str × List Str)) := by kernel_rfl
@[simp] theorem con_MOST_MAKINGS (k : Nat) : (En k).con "MOST_MAKINGS" = some (.int 200) := by kernel_rfl
@[simp] theorem con_MOST_OPENS (k : Nat) : (En k).con "MOST_OPENS" = some (.int 2) := by kernel_rfl
@[simp] theorem con_MOST_TAKES (k : Nat) : (En k).con "MOST_TAKES" = some (.int 3) := by kernel_rfl
@[simp] theorem con_MOST_FUNCTIONS (k : Nat) : (En k).con "MOST_FUNCTIONS" = some (.int 8) := by kernel_rfl
@[simp] theorem ini_All (k : Nat) : (En k).ini "All" = some f_All___init__ := by kernel_rfl
@[simp] theorem mt_All_shows (k : Nat) : (En k).mt "All" "shows" = some f_All_shows := by kernel_rfl
@[simp] theorem ini_Endless (k : Nat) : (En k).ini "Endless" = some f_Endless___init__ := by kernel_rfl
@[simp] theorem mt_Endless_shows (k : Nat) : (En k).mt "Endless" "shows" = some f_Endless_shows := by kernel_rfl
@[simp] theorem ini_Function (k : Nat) : (En k).ini "Function" = some f_Function___init__ := by kernel_rfl
@[simp] theorem mt_Function_told (k : Nat) : (En k).mt "Function" "told" = some f_Function_told := by kernel_rfl
@[simp] theorem ini_Book (k : Nat) : (En k).ini "Book" = some f_Book___init__ := by kernel_rfl
@[simp] theorem mt_Book_names (k : Nat) : (En k).mt "Book" "names" = some f_Book_names := by kernel_rfl
@[simp] theorem mt_Book_function (k : Nat) : (En k).mt "Book" "function" = some f_Book_function := by kernel_rfl
@[simp] theorem isi0 (k : Nat) : (En k).isi (.inl "NoneType") (.cls "Function") = some false := by kernel_rfl
@[simp] theorem isi1 (k : Nat) : (En k).isi (.inl "bool") (.cls "Function") = some false := by kernel_rfl
@[simp] theorem isi2 (k : Nat) : (En k).isi (.inl "int") (.cls "Function") = some false := by kernel_rfl
@[simp] theorem isi3 (k : Nat) : (En k).isi (.inl "str") (.cls "Function") = some false := by kernel_rfl
@[simp] theorem isi4 (k : Nat) : (En k).isi (.inl "list") (.cls "Function") = some false := by kernel_rfl
@[simp] theorem isi5 (k : Nat) : (En k).isi (.inl "tuple") (.cls "Function") = some false := by kernel_rfl
@[simp] theorem isi6 (k : Nat) : (En k).isi (.inl "dict") (.cls "Function") = some false := by kernel_rfl
@[simp] theorem isi7 (k : Nat) : (En k).isi (.inr "Answer") (.cls "Function") = some false := by kernel_rfl
@[simp] theorem isi8 (k : Nat) : (En k).isi (.inr "All") (.cls "Function") = some false := by kernel_rfl
@[simp] theorem isi9 (k : Nat) : (En k).isi (.inr "Endless") (.cls "Function") = some false := by kernel_rfl
@[simp] theorem isi10 (k : Nat) : (En k).isi (.inr "Function") (.cls "Function") = some true := by kernel_rfl
@[simp] theorem isi11 (k : Nat) : (En k).isi (.inr "Book") (.cls "Function") = some false := by kernel_rfl
@[simp] theorem isi12 (k : Nat) : (En k).isi (.inl "NoneType") (.cls "Book") = some false := by kernel_rfl
@[simp] theorem isi13 (k : Nat) : (En k).isi (.inl "bool") (.cls "Book") = some false := by kernel_rfl
@[simp] theorem isi14 (k : Nat) : (En k).isi (.inl "int") (.cls "Book") = some false := by kernel_rfl
@[simp] theorem isi15 (k : Nat) : (En k).isi (.inl "str") (.cls "Book") = some false := by kernel_rfl
@[simp] theorem isi16 (k : Nat) : (En k).isi (.inl "list") (.cls "Book") = some false := by kernel_rfl
@[simp] theorem isi17 (k : Nat) : (En k).isi (.inl "tuple") (.cls "Book") = some false := by kernel_rfl
@[simp] theorem isi18 (k : Nat) : (En k).isi (.inl "dict") (.cls "Book") = some false := by kernel_rfl
@[simp] theorem isi19 (k : Nat) : (En k).isi (.inr "Answer") (.cls "Book") = some false := by kernel_rfl
@[simp] theorem isi20 (k : Nat) : (En k).isi (.inr "All") (.cls "Book") = some false := by kernel_rfl
@[simp] theorem isi21 (k : Nat) : (En k).isi (.inr "Endless") (.cls "Book") = some false := by kernel_rfl
@[simp] theorem isi22 (k : Nat) : (En k).isi (.inr "Function") (.cls "Book") = some false := by kernel_rfl
@[simp] theorem isi23 (k : Nat) : (En k).isi (.inr "Book") (.cls "Book") = some true := by kernel_rfl
@[simp] theorem isi24 (k : Nat) : (En k).isi (.inl "NoneType") (.cls "Answer") = some false := by kernel_rfl
@[simp] theorem isi25 (k : Nat) : (En k).isi (.inl "bool") (.cls "Answer") = some false := by kernel_rfl
@[simp] theorem isi26 (k : Nat) : (En k).isi (.inl "int") (.cls "Answer") = some false := by kernel_rfl
@[simp] theorem isi27 (k : Nat) : (En k).isi (.inl "str") (.cls "Answer") = some false := by kernel_rfl
@[simp] theorem isi28 (k : Nat) : (En k).isi (.inl "list") (.cls "Answer") = some false := by kernel_rfl
@[simp] theorem isi29 (k : Nat) : (En k).isi (.inl "tuple") (.cls "Answer") = some false := by kernel_rfl
@[simp] theorem isi30 (k : Nat) : (En k).isi (.inl "dict") (.cls "Answer") = some false := by kernel_rfl
@[simp] theorem isi31 (k : Nat) : (En k).isi (.inr "Answer") (.cls "Answer") = some true := by kernel_rfl
@[simp] theorem isi32 (k : Nat) : (En k).isi (.inr "All") (.cls "Answer") = some true := by kernel_rfl
@[simp] theorem isi33 (k : Nat) : (En k).isi (.inr "Endless") (.cls "Answer") = some true := by kernel_rfl
@[simp] theorem isi34 (k : Nat) : (En k).isi (.inr "Function") (.cls "Answer") = some false := by kernel_rfl
@[simp] theorem isi35 (k : Nat) : (En k).isi (.inr "Book") (.cls "Answer") = some false := by kernel_rfl
@[simp] theorem isi36 (k : Nat) : (En k).isi (.inl "NoneType") (.cls "All") = some false := by kernel_rfl
@[simp] theorem isi37 (k : Nat) : (En k).isi (.inl "bool") (.cls "All") = some false := by kernel_rfl
@[simp] theorem isi38 (k : Nat) : (En k).isi (.inl "int") (.cls "All") = some false := by kernel_rfl
@[simp] theorem isi39 (k : Nat) : (En k).isi (.inl "str") (.cls "All") = some false := by kernel_rfl
@[simp] theorem isi40 (k : Nat) : (En k).isi (.inl "list") (.cls "All") = some false := by kernel_rfl
@[simp] theorem isi41 (k : Nat) : (En k).isi (.inl "tuple") (.cls "All") = some false := by kernel_rfl
@[simp] theorem isi42 (k : Nat) : (En k).isi (.inl "dict") (.cls "All") = some false := by kernel_rfl
@[simp] theorem isi43 (k : Nat) : (En k).isi (.inr "Answer") (.cls "All") = some false := by kernel_rfl
@[simp] theorem isi44 (k : Nat) : (En k).isi (.inr "All") (.cls "All") = some true := by kernel_rfl
@[simp] theorem isi45 (k : Nat) : (En k).isi (.inr "Endless") (.cls "All") = some false := by kernel_rfl
@[simp] theorem isi46 (k : Nat) : (En k).isi (.inr "Function") (.cls "All") = some false := by kernel_rfl
@[simp] theorem isi47 (k : Nat) : (En k).isi (.inr "Book") (.cls "All") = some false := by kernel_rfl
@[simp] theorem isi48 (k : Nat) : (En k).isi (.inl "NoneType") (.cls "Endless") = some false := by kernel_rfl
@[simp] theorem isi49 (k : Nat) : (En k).isi (.inl "bool") (.cls "Endless") = some false := by kernel_rfl
@[simp] theorem isi50 (k : Nat) : (En k).isi (.inl "int") (.cls "Endless") = some false := by kernel_rfl
@[simp] theorem isi51 (k : Nat) : (En k).isi (.inl "str") (.cls "Endless") = some false := by kernel_rfl
@[simp] theorem isi52 (k : Nat) : (En k).isi (.inl "list") (.cls "Endless") = some false := by kernel_rfl
@[simp] theorem isi53 (k : Nat) : (En k).isi (.inl "tuple") (.cls "Endless") = some false := by kernel_rfl
@[simp] theorem isi54 (k : Nat) : (En k).isi (.inl "dict") (.cls "Endless") = some false := by kernel_rfl
@[simp] theorem isi55 (k : Nat) : (En k).isi (.inr "Answer") (.cls "Endless") = some false := by kernel_rfl
@[simp] theorem isi56 (k : Nat) : (En k).isi (.inr "All") (.cls "Endless") = some false := by kernel_rfl
@[simp] theorem isi57 (k : Nat) : (En k).isi (.inr "Endless") (.cls "Endless") = some true := by kernel_rfl
@[simp] theorem isi58 (k : Nat) : (En k).isi (.inr "Function") (.cls "Endless") = some false := by kernel_rfl
@[simp] theorem isi59 (k : Nat) : (En k).isi (.inr "Book") (.cls "Endless") = some false := by kernel_rfl
@[simp] theorem isi60 (k : Nat) : (En k).isi (.inl "NoneType") (.cls "TooMany") = some false := by kernel_rfl
@[simp] theorem isi61 (k : Nat) : (En k).isi (.inl "bool") (.cls "TooMany") = some false := by kernel_rfl
@[simp] theorem isi62 (k : Nat) : (En k).isi (.inl "int") (.cls "TooMany") = some false := by kernel_rfl
@[simp] theorem isi63 (k : Nat) : (En k).isi (.inl "str") (.cls "TooMany") = some false := by kernel_rfl
@[simp] theorem isi64 (k : Nat) : (En k).isi (.inl "list") (.cls "TooMany") = some false := by kernel_rfl
@[simp] theorem isi65 (k : Nat) : (En k).isi (.inl "tuple") (.cls "TooMany") = some false := by kernel_rfl
@[simp] theorem isi66 (k : Nat) : (En k).isi (.inl "dict") (.cls "TooMany") = some false := by kernel_rfl
@[simp] theorem isi67 (k : Nat) : (En k).isi (.inr "Answer") (.cls "TooMany") = some false := by kernel_rfl
@[simp] theorem isi68 (k : Nat) : (En k).isi (.inr "All") (.cls "TooMany") = some false := by kernel_rfl
@[simp] theorem isi69 (k : Nat) : (En k).isi (.inr "Endless") (.cls "TooMany") = some false := by kernel_rfl
@[simp] theorem isi70 (k : Nat) : (En k).isi (.inr "Function") (.cls "TooMany") = some false := by kernel_rfl
@[simp] theorem isi71 (k : Nat) : (En k).isi (.inr "Book") (.cls "TooMany") = some false := by kernel_rfl
@[simp] theorem isi72 (k : Nat) : (En k).isi (.inr "Answer") (.ty "int") = some false := by kernel_rfl
@[simp] theorem isi73 (k : Nat) : (En k).isi (.inr "Answer") (.ty "bool") = some false := by kernel_rfl
@[simp] theorem isi74 (k : Nat) : (En k).isi (.inr "Answer") (.ty "str") = some false := by kernel_rfl
@[simp] theorem isi75 (k : Nat) : (En k).isi (.inr "Answer") (.ty "list") = some false := by kernel_rfl
@[simp] theorem isi76 (k : Nat) : (En k).isi (.inr "Answer") (.ty "tuple") = some false := by kernel_rfl
@[simp] theorem isi77 (k : Nat) : (En k).isi (.inr "Answer") (.ty "dict") = some false := by kernel_rfl
@[simp] theorem isi78 (k : Nat) : (En k).isi (.inr "All") (.ty "int") = some false := by kernel_rfl
@[simp] theorem isi79 (k : Nat) : (En k).isi (.inr "All") (.ty "bool") = some false := by kernel_rfl
@[simp] theorem isi80 (k : Nat) : (En k).isi (.inr "All") (.ty "str") = some false := by kernel_rfl
@[simp] theorem isi81 (k : Nat) : (En k).isi (.inr "All") (.ty "list") = some false := by kernel_rfl
@[simp] theorem isi82 (k : Nat) : (En k).isi (.inr "All") (.ty "tuple") = some false := by kernel_rfl
@[simp] theorem isi83 (k : Nat) : (En k).isi (.inr "All") (.ty "dict") = some false := by kernel_rfl
@[simp] theorem isi84 (k : Nat) : (En k).isi (.inr "Endless") (.ty "int") = some false := by kernel_rfl
@[simp] theorem isi85 (k : Nat) : (En k).isi (.inr "Endless") (.ty "bool") = some false := by kernel_rfl
@[simp] theorem isi86 (k : Nat) : (En k).isi (.inr "Endless") (.ty "str") = some false := by kernel_rfl
@[simp] theorem isi87 (k : Nat) : (En k).isi (.inr "Endless") (.ty "list") = some false := by kernel_rfl
@[simp] theorem isi88 (k : Nat) : (En k).isi (.inr "Endless") (.ty "tuple") = some false := by kernel_rfl
@[simp] theorem isi89 (k : Nat) : (En k).isi (.inr "Endless") (.ty "dict") = some false := by kernel_rfl
@[simp] theorem isi90 (k : Nat) : (En k).isi (.inr "Function") (.ty "int") = some false := by kernel_rfl
@[simp] theorem isi91 (k : Nat) : (En k).isi (.inr "Function") (.ty "bool") = some false := by kernel_rfl
@[simp] theorem isi92 (k : Nat) : (En k).isi (.inr "Function") (.ty "str") = some false := by kernel_rfl
@[simp] theorem isi93 (k : Nat) : (En k).isi (.inr "Function") (.ty "list") = some false := by kernel_rfl
@[simp] theorem isi94 (k : Nat) : (En k).isi (.inr "Function") (.ty "tuple") = some false := by kernel_rfl
@[simp] theorem isi95 (k : Nat) : (En k).isi (.inr "Function") (.ty "dict") = some false := by kernel_rfl
@[simp] theorem isi96 (k : Nat) : (En k).isi (.inr "Book") (.ty "int") = some false := by kernel_rfl
@[simp] theorem isi97 (k : Nat) : (En k).isi (.inr "Book") (.ty "bool") = some false := by kernel_rfl
@[simp] theorem isi98 (k : Nat) : (En k).isi (.inr "Book") (.ty "str") = some false := by kernel_rfl
@[simp] theorem isi99 (k : Nat) : (En k).isi (.inr "Book") (.ty "list") = some false := by kernel_rfl
@[simp] theorem isi100 (k : Nat) : (En k).isi (.inr "Book") (.ty "tuple") = some false := by kernel_rfl
@[simp] theorem isi101 (k : Nat) : (En k).isi (.inr "Book") (.ty "dict") = some false := by kernel_rfl
end Hd
set_option Elab.async false
set_option linter.all false
set_option maxRecDepth 100000
set_option maxHeartbeats 0
namespace Hd
open PySem PySem.Spec PyProof.Rows L2
section
variable {P : Program} {w : World} {K : PySem.W.Frag} {mg : Str → Option Value} {base h : Heap} {f : Addr}
theorem nm (X : K.In h) (G : h.Ns mainGlobals mg) (ok : tb.ok K = true) : Y.Nm K mg tb.st (fun i => decide (i < 47)) (pl K) := by
  have h1 : (tb.glT.all fun p => decide (p.2 < 47) && decide ((plT.getD p.2 (("", none), [])).1 = (p.1, none))) = true := by kernel_rfl
  have h2 : (tb.mtT.all fun p => decide (p.2 < 47) && decide ((plT.getD p.2 (("", none), [])).1 = (p.1.1, some p.1.2))) = true := by kernel_rfl
  have h3 : (tb.iniT.all fun p => decide (p.2 < 47) && decide ((plT.getD p.2 (("", none), [])).1 = (p.1, some ("__init__" : Str)))) = true := by kernel_rfl
  rw [List.all_eq_true] at h1 h2 h3
  refine Y.nm_of X G ok (fun p hp => ?_) (fun p hp => ?_) (fun p hp => ?_)
  · have z := h1 p hp
    rw [Bool.and_eq_true] at z
    refine ⟨z.1, ?_⟩
    show He.fAd K (plT.getD p.2 (("", none), [])).1 = _
    rw [of_decide_eq_true z.2]
    rfl
  · have z := h2 p hp
    rw [Bool.and_eq_true] at z
    refine ⟨z.1, ?_⟩
    show He.fAd K (plT.getD p.2 (("", none), [])).1 = _
    rw [of_decide_eq_true z.2]
    rfl
  · have z := h3 p hp
    rw [Bool.and_eq_true] at z
    refine ⟨z.1, ?_⟩
    show He.fAd K (plT.getD p.2 (("", none), [])).1 = _
    rw [of_decide_eq_true z.2]
    rfl
theorem dfs (M : Y.Md P w K mg tb.st tb.blt tb.exB) (c : He.SaysD [] fn K) (t__law_by_it : Y.tryB K "MakingError" "TooMany" "many" "" h__law_by_it = true) : ∀ fid, decide (fid < 47) = true → Y.Df P w K mg base tb.st stp fid (pl K fid) := fun fid hu => match fid, hu with
  | 0, _ => df__wall M (c.def_ 0 (d := d__wall) (by kernel_rfl))
  | 1, _ => df_is_whole M (c.def_ 1 (d := d_is_whole) (by kernel_rfl))
  | 2, _ => df_is_name M (c.def_ 2 (d := d_is_name) (by kernel_rfl))
  | 3, _ => df_is_kind M (c.def_ 3 (d := d_is_kind) (by kernel_rfl))
  | 4, _ => df_are_kinds M (c.def_ 4 (d := d_are_kinds) (by kernel_rfl))
  | 5, _ => df_put_in M (c.def_ 5 (d := d_put_in) (by kernel_rfl))
  | 6, _ => df_cells_of M (c.def_ 6 (d := d_cells_of) (by kernel_rfl))
  | 7, _ => df_holds M (c.def_ 7 (d := d_holds) (by kernel_rfl))
  | 8, _ => df_fits_part M (c.def_ 8 (d := d_fits_part) (by kernel_rfl))
  | 9, _ => df_terms_room M (c.def_ 9 (d := d_terms_room) (by kernel_rfl))
  | 10, _ => df_term_room M (c.def_ 10 (d := d_term_room) (by kernel_rfl))
  | 11, _ => df_is_term M (c.def_ 11 (d := d_is_term) (by kernel_rfl))
  | 12, _ => df_inner M (c.def_ 12 (d := d_inner) (by kernel_rfl))
  | 13, _ => df_copied M (c.def_ 13 (d := d_copied) (by kernel_rfl))
  | 14, _ => df_asks_of M (c.def_ 14 (d := d_asks_of) (by kernel_rfl))
  | 15, _ => df_plain_kind M (c.def_ 15 (d := d_plain_kind) (by kernel_rfl))
  | 16, _ => df_ask_kind M (c.def_ 16 (d := d_ask_kind) (by kernel_rfl))
  | 17, _ => df_own_kind M (c.def_ 17 (d := d_own_kind) (by kernel_rfl))
  | 18, _ => df_kind_or_way M (c.def_ 18 (d := d_kind_or_way) (by kernel_rfl))
  | 19, _ => df_first_misfit M (c.def_ 19 (d := d_first_misfit) (by kernel_rfl))
  | 20, _ => df_asked_by M (c.def_ 20 (d := d_asked_by) (by kernel_rfl))
  | 21, _ => df_come_to M (c.def_ 21 (d := d_come_to) (by kernel_rfl))
  | 22, _ => df_ties_from M (c.def_ 22 (d := d_ties_from) (by kernel_rfl))
  | 23, _ => df_way_to M (c.def_ 23 (d := d_way_to) (by kernel_rfl))
  | 24, _ => df_growing_ring M (c.def_ 24 (d := d_growing_ring) (by kernel_rfl))
  | 25, _ => df_all_makings M (c.def_ 25 (d := d_all_makings) (by kernel_rfl))
  | 26, _ => df_All___init__ M (c.def_ 26 (d := d_All___init__) (by kernel_rfl))
  | 27, _ => df_All_shows M (c.def_ 27 (d := d_All_shows) (by kernel_rfl))
  | 28, _ => df_Endless___init__ M (c.def_ 28 (d := d_Endless___init__) (by kernel_rfl))
  | 29, _ => df_Endless_shows M (c.def_ 29 (d := d_Endless_shows) (by kernel_rfl))
  | 30, _ => df_Function___init__ M (c.def_ 30 (d := d_Function___init__) (by kernel_rfl))
  | 31, _ => df_Function_told M (c.def_ 31 (d := d_Function_told) (by kernel_rfl))
  | 32, _ => df_Book___init__ M (c.def_ 32 (d := d_Book___init__) (by kernel_rfl))
  | 33, _ => df_Book_names M (c.def_ 33 (d := d_Book_names) (by kernel_rfl))
  | 34, _ => df_Book_function M (c.def_ 34 (d := d_Book_function) (by kernel_rfl))
  | 35, _ => df_check_start M (c.def_ 35 (d := d_check_start) (by kernel_rfl))
  | 36, _ => df_makings M (c.def_ 36 (d := d_makings) (by kernel_rfl))
  | 37, _ => df__law_cell_at M (c.def_ 37 (d := d__law_cell_at) (by kernel_rfl))
  | 38, _ => df__law_draw M (c.def_ 38 (d := d__law_draw) (by kernel_rfl))
  | 39, _ => df__law_number M (c.def_ 39 (d := d__law_number) (by kernel_rfl))
  | 40, _ => df__law_book M (c.def_ 40 (d := d__law_book) (by kernel_rfl))
  | 41, _ => df__law_cells M (c.def_ 41 (d := d__law_cells) (by kernel_rfl))
  | 42, _ => df__law_full M (c.def_ 42 (d := d__law_full) (by kernel_rfl))
  | 43, _ => df__law_sum M (c.def_ 43 (d := d__law_sum) (by kernel_rfl))
  | 44, _ => df__law_by_it t__law_by_it M (c.def_ 44 (d := d__law_by_it) (by kernel_rfl))
  | 45, _ => df__law_edges_right M (c.def_ 45 (d := d__law_edges_right) (by kernel_rfl))
  | 46, _ => df_law M (c.def_ 46 (d := d_law) (by kernel_rfl))
  | k + 47, hu => absurd (of_decide_eq_true hu) (by omega)
theorem facts2 (X : K.In h) (G : h.Ns mainGlobals mg) (hfa : mg ("law" : Str) = some (.ref f)) (c : He.SaysX [] fn ts [] ex w h K) :
    ∃ fd : FuncData, (∀ (s : Shared) (v : Value), BindsTo s fd ⟨[v], []⟩ [("_law_script", v)]) ∧ ∀ base : Heap, K.In base → base.Ns mainGlobals mg → FnOk P w K mg base (L2.CX P w) 76 f fd ["_law_script"] (Y.spD K none 1 (Y.sem tb.st stp 76 46)) := by
  have hex : ex K = true := c.more
  unfold ex at hex
  simp only [Bool.and_eq_true] at hex
  obtain ⟨hok, t__law_by_it⟩ := hex
  have M : Y.Md P w K mg tb.st tb.blt tb.exB := Y.md_of X G hok (fun p hp => by
    have e : tb.kdT = [tb.kdT.getD 0 ("", [])] := by kernel_rfl
    rw [e] at hp
    simp only [List.mem_cons, List.not_mem_nil, or_false] at hp
    subst hp
    exact c.t.tab 0 rfl)
  have N := nm X G hok
  have F : L2.FunD K d_law.name d_law.qual d_law.params d_law.body d_law.scope (d_law.dvs K) (d_law.kws K) (pl K 46).f (pl K 46).fd := Y.fdOf_ok (c.t.d.def_ 46 (d := d_law) (by kernel_rfl))
  have e := hfa.symm.trans (N.gl "law" 46 (by kernel_rfl)).2.1
  cases e
  have b := FunD.bindsA (ps := ["_law_script"]) F fun _ _ _ _ _ _ us hl => match us, hl with | [_], _ => rfl
  refine ⟨_, fun s v => b s [v] rfl, fun base _ _ => ?_⟩
  exact Y.sem_ok N (fun fid hu => dfs M c.t.d t__law_by_it fid hu) 76 46 (by decide)
end
end Hd
set_option Elab.async false
set_option linter.all false
set_option maxRecDepth 100000
set_option maxHeartbeats 4000000
namespace Y
open PySem PySem.Spec L2
@[simp] theorem atom_obj (c : Str) (fs : List Str) (xs : List D) : D.atom (.obj c fs xs) = false := rfl
@[simp] theorem atom_dct (ks : List Key) (xs : List D) : D.atom (.dct ks xs) = false := rfl
@[simp] theorem atom_dctT (ks : List (List Key)) (xs : List D) : D.atom (.dctT ks xs) = false := rfl
@[simp] theorem atom_ktup (ks : List Str) : D.atom (.ktup ks) = false := rfl
@[simp] theorem atom_scr (ks : List Int) : D.atom (.scr ks) = false := rfl
/-- statements that give a result -/
def rtD (m : M (Fl × G)) : M (D × Mode) := M.bnd m fun (fl, g) => match fl with
  | .rt s => some (.ok (s.d, s.m))
  | _ => none
@[simp] theorem rtD_ok (d : D) (m : Mode) (n : Bool) (g : G) : rtD (some (.ok (.rt ⟨d, m, n⟩, g))) = some (.ok (d, m)) := rfl
theorem rtD_iff {m : M (Fl × G)} {d : D} {md : Mode} (h : rtD m = some (.ok (d, md))) : ∃ n g', m = some (.ok (.rt ⟨d, md, n⟩, g')) := by
  unfold rtD at h
  cases m with
  | none => cases h
  | some o =>
    cases o with
    | ex c => cases h
    | ok a =>
      obtain ⟨fl, g⟩ := a
      cases fl with
      | rt s =>
        obtain ⟨d', m', n⟩ := s
        cases h
        exact ⟨n, g, rfl⟩
      | _ => cases h
end Y
set_option Elab.async false
set_option linter.all false
set_option maxRecDepth 100000
set_option maxHeartbeats 4000000
namespace Y
open PySem PySem.Spec L2
/-- [elt for i in c], all of it new -/
theorem comp1_n {α : Type} {E : Ev} {g : G} {i : Nat} {c elt : C} {dl : D} {m : Mode} {n : Bool} (xs : List α) (e F : α → D) (h1 : evE E c g = some (.ok (⟨dl, m, n⟩, g))) (h2 : dl.items = some (xs.map e)) (hi : i < g.length) (hv : slotVal (g.get i) = true) (hl : xs.length < lim)
    (h : ∀ x ∈ xs, ∀ nf, (n = true ∨ (e x).atom = true → nf = true) → ∃ m, evE E elt (g.set i (some ⟨e x, .fr, nf⟩)) = some (.ok (⟨F x, m, true⟩, g.set i (some ⟨e x, .fr, nf⟩)))) :
    evE E (.comp [i] (.one i) .any [c] none elt) g = some (.ok (⟨.lst (xs.map F), .ow, true⟩, g)) := by
  have hget : G.get (g.set i none) i = none := by
    unfold G.get
    rw [List.getElem?_set_self hi]; rfl
  have q := comp_rule_n (E := E) (own := [i]) (tg := .one i) (k := .any) (its := [c]) (elt := elt) (g := g) (ss := [⟨dl, .fr, n⟩]) (g1 := g) (n := n) xs e F (by
      rw [evV, h1, bnd_ok]; dsimp only; rw [evV]; rfl) (by simp [h2]) (by
      unfold ownOk slotVal at *
      simp only [List.all_cons, List.all_nil, Bool.and_true, hi, decide_true, Bool.true_and]
      exact hv) hl (fun x hx => by
      obtain ⟨m1, q⟩ := h x hx (n || (e x).atom) (fun z => by rcases z with z | z <;> simp [z])
      refine ⟨_, F x, m1, _, ?_, q, rfl, ?_⟩
      · show putAll (g.set i none) [i] [e x] n = _
        rw [putAll_one (by simpa using hi) (by rw [hget]; rfl)]
        show some ((g.set i none).set i _) = _
        rw [List.set_set]
      · show (g.set i _).set i none = g.set i none
        rw [List.set_set])
  refine q.trans ?_
  show some (Oc.ok (_, (g.set i none).set i (g[i]?).join)) = _
  rw [set_back g i hi]
/-! ### data of lists and tuples -/
mutual
def D.cop : Nat → D → Bool
  | _, .non => true
  | _, .bl _ => true
  | _, .int _ => true
  | _, .str _ => true
  | n + 1, .lst xs => decide (xs.length < 100000) && copL n xs
  | n + 1, .tup xs => decide (xs.length < 100000) && copL n xs
  | _, _ => false
def copL : Nat → List D → Bool
  | _, [] => true
  | n, x :: xs => D.cop n x && copL n xs
end
theorem copL_all {n : Nat} : ∀ {xs : List D}, copL n xs = true ↔ ∀ x ∈ xs, D.cop n x = true
  | [] => by simp [copL]
  | x :: xs => by simp [copL, copL_all (xs := xs)]
def D.copMode : D → Mode
  | .lst _ => .ow
  | _ => .fr
@[simp] theorem cop_str (n : Nat) (s : Str) : D.cop n (.str s) = true := by cases n <;> rfl
@[simp] theorem cop_int (n : Nat) (s : Int) : D.cop n (.int s) = true := by cases n <;> rfl
@[simp] theorem cop_bl (n : Nat) (s : Bool) : D.cop n (.bl s) = true := by cases n <;> rfl
@[simp] theorem cop_lst (n : Nat) (xs : List D) : D.cop (n + 1) (.lst xs) = (decide (xs.length < 100000) && copL n xs) := rfl
@[simp] theorem cop_tup (n : Nat) (xs : List D) : D.cop (n + 1) (.tup xs) = (decide (xs.length < 100000) && copL n xs) := rfl
@[simp] theorem copL_nil (n : Nat) : copL n [] = true := by cases n <;> rfl
@[simp] theorem copL_cons (n : Nat) (x : D) (xs : List D) : copL n (x :: xs) = (D.cop n x && copL n xs) := by cases n <;> rfl
@[simp] theorem kit_blt : kitB "bool" "tuple" = some false := by kernel_rfl
@[simp] theorem kit_bll : kitB "bool" "list" = some false := by kernel_rfl
end Y
set_option Elab.async false
set_option linter.all false
set_option maxRecDepth 100000
set_option maxHeartbeats 4000000
namespace Hd
open PySem PySem.Spec L2
/-! ## kinds -/
inductive Kd where
  | num | truth | opn (i : Nat) | pair (a b : Kd)
  deriving DecidableEq
def Kd.enc : Kd → Y.D
  | .num => .str "num"
  | .truth => .str "truth"
  | .opn i => .tup [.str "open", .int i]
  | .pair a b => .tup [.str "pair", a.enc, b.enc]
def Kd.dep : Kd → Nat
  | .pair a b => max a.dep b.dep + 1
  | _ => 0
def Kd.putIn (ks : List Kd) : Kd → Kd
  | .opn i => ks.getD i .num
  | .pair a b => .pair (a.putIn ks) (b.putIn ks)
  | .num => .num
  | .truth => .truth
/-- its open ones are below n -/
def Kd.lim (n : Nat) : Kd → Bool
  | .opn i => decide (i < n)
  | .pair a b => a.lim n && b.lim n
  | _ => true
def Kd.cells : Kd → Nat
  | .pair a b => a.cells + b.cells
  | _ => 1
def Kd.has (c : Nat) : Kd → Bool
  | .opn i => decide (i = c)
  | .pair a b => a.has c || b.has c
  | _ => false
def encK (ks : List Kd) : List Y.D := ks.map Kd.enc
@[simp] theorem encK_length (ks : List Kd) : (encK ks).length = ks.length := List.length_map _
theorem Kd.enc_inj : ∀ {a b : Kd}, a.enc = b.enc ↔ a = b
  | .num, b => by cases b <;> simp [Kd.enc]
  | .truth, b => by cases b <;> simp [Kd.enc]
  | .opn i, b => by cases b <;> simp [Kd.enc] <;> omega
  | .pair a1 a2, b => by cases b <;> simp [Kd.enc, Kd.enc_inj (a := a1), Kd.enc_inj (a := a2)]
theorem map_inj {α β : Type} {f : α → β} (h : ∀ {a b : α}, f a = f b ↔ a = b) : ∀ {l m : List α}, l.map f = m.map f ↔ l = m
  | [], [] => by simp
  | [], _ :: _ => by simp
  | _ :: _, [] => by simp
  | a :: l, b :: m => by simp only [List.map_cons, List.cons.injEq, h, map_inj h]
theorem map_mem {α β : Type} {f : α → β} (h : ∀ {a b : α}, f a = f b ↔ a = b) {a : α} {l : List α} : f a ∈ l.map f ↔ a ∈ l := by
  constructor
  · intro z
    obtain ⟨b, hb, e⟩ := List.mem_map.mp z
    rw [← h.mp e]
    exact hb
  · exact List.mem_map_of_mem
theorem encK_inj {l m : List Kd} : encK l = encK m ↔ l = m := map_inj Kd.enc_inj
theorem Kd.enc_nice : ∀ (a : Kd) (n : Nat), a.dep + 1 ≤ n → Y.D.nice n a.enc = true
  | .num, n + 1, _ => by simp [Kd.enc]
  | .truth, n + 1, _ => by simp [Kd.enc]
  | .opn i, n + 1, _ => by simp [Kd.enc]
  | .pair a b, n + 1, h => by
    simp only [Kd.dep] at h
    simp [Kd.enc, Kd.enc_nice a n (by omega), Kd.enc_nice b n (by omega)]
theorem encK_nice (ks : List Kd) (n : Nat) (h : ∀ k ∈ ks, k.dep + 1 ≤ n) : Y.D.nice (n + 1) (.lst (encK ks)) = true := by
  simp only [Y.nice_lst, encK]
  rw [Y.niceL_all]
  intro x hx
  obtain ⟨k, hk, rfl⟩ := List.mem_map.mp hx
  exact Kd.enc_nice k n (h k hk)
theorem Kd.dep_putIn (ks : List Kd) (m : Nat) (h : ∀ k ∈ ks, k.dep ≤ m) : ∀ a : Kd, (a.putIn ks).dep ≤ a.dep + m
  | .num => by simp [Kd.putIn, Kd.dep]
  | .truth => by simp [Kd.putIn, Kd.dep]
  | .opn i => by
    simp only [Kd.putIn, Kd.dep, Nat.zero_add]
    rw [List.getD_eq_getElem?_getD]
    cases e : ks[i]? with
    | none => simp [Kd.dep]
    | some k => exact h k (List.mem_of_getElem? e)
  | .pair a b => by
    have h1 := Kd.dep_putIn ks m h a
    have h2 := Kd.dep_putIn ks m h b
    simp only [Kd.putIn, Kd.dep]
    omega
/-! ## terms -/
inductive Th where
  | num (n : Int) | yes | no | take (i : Nat) | size (k : Kd) | plus | less | pair | first | second | ife | fail (n : Int) (k : Kd) | ask (f : Str) (ks : List Kd)
  deriving DecidableEq
def Th.word : Th → String
  | .num _ => "num" | .yes => "yes" | .no => "no" | .take _ => "take" | .size _ => "size" | .plus => "plus" | .less => "less" | .pair => "pair"
  | .first => "first" | .second => "second" | .ife => "if" | .fail _ _ => "fail" | .ask _ _ => "ask"
/-- how many inner terms, if that is fixed -/
def Th.ar : Th → Option Nat
  | .plus => some 2 | .less => some 2 | .pair => some 2 | .first => some 1 | .second => some 1 | .ife => some 3
  | .ask _ _ => none
  | _ => some 0
def Th.form (h : Th) (ts : List Y.D) : Y.D := match h with
  | .num n => .tup [.str "num", .int n]
  | .yes => .tup [.str "yes"]
  | .no => .tup [.str "no"]
  | .take i => .tup [.str "take", .int i]
  | .size k => .tup [.str "size", k.enc]
  | .plus => .tup (.str "plus" :: ts)
  | .less => .tup (.str "less" :: ts)
  | .pair => .tup (.str "pair" :: ts)
  | .first => .tup (.str "first" :: ts)
  | .second => .tup (.str "second" :: ts)
  | .ife => .tup (.str "if" :: ts)
  | .fail n k => .tup [.str "fail", .int n, k.enc]
  | .ask f ks => .tup [.str "ask", .str f, .lst (encK ks), .lst ts]
def okS (s : Str) : Bool := s.cps.all (· < 0x110000)
/-- its kinds are not too deep, its name is one of letters -/
def Th.ok (h : Th) : Bool := match h with
  | .size k => decide (k.dep ≤ 4)
  | .fail _ k => decide (k.dep ≤ 4)
  | .ask f ks => okS f && decide (ks.length ≤ 60) && ks.all fun k => decide (k.dep ≤ 4)
  | _ => true
def Th.isAsk : Th → Bool
  | .ask _ _ => true
  | _ => false
inductive Tm where
  | nd (h : Th) (ts : List Tm)
mutual
def Tm.enc : Tm → Y.D
  | .nd h ts => h.form (encL ts)
def encL : List Tm → List Y.D
  | [] => []
  | t :: ts => t.enc :: encL ts
end
@[simp] theorem encL_map (ts : List Tm) : encL ts = ts.map Tm.enc := by
  induction ts with
  | nil => rfl
  | cons t ts ih => rw [encL, ih]; rfl
mutual
def Tm.size : Tm → Nat
  | .nd _ ts => sizeL ts + 1
def sizeL : List Tm → Nat
  | [] => 0
  | t :: ts => t.size + sizeL ts
end
mutual
def Tm.hgt : Tm → Nat
  | .nd _ ts => hgtL ts + 1
def hgtL : List Tm → Nat
  | [] => 0
  | t :: ts => max t.hgt (hgtL ts)
end
mutual
def Tm.wf : Tm → Bool
  | .nd h ts => (match h.ar with | some n => decide (ts.length = n) | none => true) && h.ok && wfL ts
def wfL : List Tm → Bool
  | [] => true
  | t :: ts => t.wf && wfL ts
end
mutual
def Tm.asks : Tm → List Tm
  | .nd h ts => asksL ts ++ if h.isAsk then [.nd h ts] else []
def asksL : List Tm → List Tm
  | [] => []
  | t :: ts => t.asks ++ asksL ts
end
def Tm.hd : Tm → Th
  | .nd h _ => h
def Tm.kids : Tm → List Tm
  | .nd _ ts => ts
mutual
theorem Tm.ind {P : Tm → Prop} (h : ∀ hd ts, (∀ t ∈ ts, P t) → P (.nd hd ts)) : ∀ t, P t
  | .nd hd ts => h hd ts (Tm.indL h ts)
theorem Tm.indL {P : Tm → Prop} (h : ∀ hd ts, (∀ t ∈ ts, P t) → P (.nd hd ts)) : ∀ ts : List Tm, ∀ t ∈ ts, P t
  | [], _, hm => by cases hm
  | t :: ts, u, hm => by
    rcases List.mem_cons.mp hm with e | e
    · rw [e]; exact Tm.ind h t
    · exact Tm.indL h ts u e
end
theorem wfL_all : ∀ {ts : List Tm}, wfL ts = true ↔ ∀ t ∈ ts, t.wf = true
  | [] => by simp [wfL]
  | t :: ts => by simp [wfL, wfL_all (ts := ts)]
theorem hgtL_le : ∀ {ts : List Tm} {t : Tm}, t ∈ ts → t.hgt ≤ hgtL ts
  | t :: ts, u, h => by
    simp only [hgtL]
    rcases List.mem_cons.mp h with e | e
    · rw [e]; omega
    · have := hgtL_le e; omega
theorem sizeL_le : ∀ {ts : List Tm} {t : Tm}, t ∈ ts → t.size ≤ sizeL ts
  | t :: ts, u, h => by
    simp only [sizeL]
    rcases List.mem_cons.mp h with e | e
    · rw [e]; omega
    · have := sizeL_le e; omega
theorem Tm.size_pos (t : Tm) : 1 ≤ t.size := by cases t; simp only [Tm.size]; omega
theorem length_sizeL : ∀ ts : List Tm, ts.length ≤ sizeL ts
  | [] => by simp
  | t :: ts => by have := length_sizeL ts; have := t.size_pos; simp only [sizeL, List.length_cons]; omega
mutual
theorem Tm.asks_le : ∀ t : Tm, t.asks.length ≤ t.size
  | .nd h ts => by
    have := asksL_le ts
    simp only [Tm.asks, Tm.size, List.length_append]
    split <;> simp <;> omega
theorem asksL_le : ∀ ts : List Tm, (asksL ts).length ≤ sizeL ts
  | [] => by simp [asksL]
  | t :: ts => by
    have := Tm.asks_le t
    have := asksL_le ts
    simp only [asksL, sizeL, List.length_append]; omega
end
end Hd
set_option Elab.async false
set_option linter.all false
set_option maxRecDepth 100000
set_option maxHeartbeats 4000000
namespace Hd
open PySem PySem.Spec L2
theorem t_put_in (ks : List Kd) : ∀ (κ : Kd) (k : Nat), κ.dep + 2 ≤ k → κ.lim ks.length = true → Y.Gives (sm k f_put_in [κ.enc, .lst (encK ks)]) .fr (κ.putIn ks).enc
  | .num, k + 2, hk, hb => by
    rw [sem_put_in]
    simp [Y.Gives, Y.runF, Y.runG, b_put_in, Y.ent, Kd.enc, Kd.putIn, Y.outD]
  | .truth, k + 2, hk, hb => by
    rw [sem_put_in]
    simp [Y.Gives, Y.runF, Y.runG, b_put_in, Y.ent, Kd.enc, Kd.putIn, Y.outD]
  | .opn i, k + 2, hk, hb => by
    rw [sem_put_in]
    simp only [Kd.lim, decide_eq_true_eq] at hb
    simp [Y.Gives, Y.runF, Y.runG, b_put_in, Y.ent, Kd.enc, Kd.putIn, Y.outD, Y.atI_nat, hb, encK]
  | .pair a b, k + 2, hk, hb => by
    simp only [Kd.dep] at hk
    simp only [Kd.lim, Bool.and_eq_true] at hb
    obtain ⟨n1, h1⟩ := (t_put_in ks a (k + 1) (by omega) hb.1).n
    obtain ⟨n2, h2⟩ := (t_put_in ks b (k + 1) (by omega) hb.2).n
    rw [sem_put_in]
    simp [Y.Gives, Y.runF, Y.runG, b_put_in, Y.ent, Kd.enc, Kd.putIn, Y.outD, h1, h2, Y.lim, Y.dsL]
theorem t_cells_of : ∀ (κ : Kd) (k : Nat), κ.dep + 2 ≤ k → κ.lim 0 = true → Y.Gives (sm k f_cells_of [κ.enc]) .fr (.int κ.cells)
  | .num, k + 2, hk, hb => by
    rw [sem_cells_of]
    simp [Y.Gives, Y.runF, Y.runG, b_cells_of, Y.ent, Kd.enc, Kd.cells, Y.outD]
  | .truth, k + 2, hk, hb => by
    rw [sem_cells_of]
    simp [Y.Gives, Y.runF, Y.runG, b_cells_of, Y.ent, Kd.enc, Kd.cells, Y.outD]
  | .opn i, k + 2, hk, hb => by simp [Kd.lim] at hb
  | .pair a b, k + 2, hk, hb => by
    simp only [Kd.dep] at hk
    simp only [Kd.lim, Bool.and_eq_true] at hb
    obtain ⟨n1, h1⟩ := (t_cells_of a (k + 1) (by omega) hb.1).n
    obtain ⟨n2, h2⟩ := (t_cells_of b (k + 1) (by omega) hb.2).n
    rw [sem_cells_of]
    simp [Y.Gives, Y.runF, Y.runG, b_cells_of, Y.ent, Kd.enc, Kd.cells, Y.outD, h1, h2, Y.lim, Y.dsL]
theorem t_holds (c : Nat) : ∀ (κ : Kd) (k : Nat), κ.dep + 2 ≤ k → Y.Gives (sm k f_holds [κ.enc, .int c]) .fr (.bl (κ.has c))
  | .num, k + 2, hk => by
    rw [sem_holds]
    simp [Y.Gives, Y.runF, Y.runG, b_holds, Y.ent, Kd.enc, Kd.has, Y.outD]
  | .truth, k + 2, hk => by
    rw [sem_holds]
    simp [Y.Gives, Y.runF, Y.runG, b_holds, Y.ent, Kd.enc, Kd.has, Y.outD]
  | .opn i, k + 2, hk => by
    rw [sem_holds]
    have e : Y.D.eqE (.int (i : Int)) (.int (c : Int)) = some (decide (i = c)) := Y.eqE_nice (n := 0) (m := 0) (by simp) (by simp) (by omega) (by omega) (by simp; omega)
    simp [Y.Gives, Y.runF, Y.runG, b_holds, Y.ent, Kd.enc, Kd.has, Y.outD, e]
  | .pair a b, k + 2, hk => by
    simp only [Kd.dep] at hk
    obtain ⟨n1, h1⟩ := (t_holds c a (k + 1) (by omega)).n
    obtain ⟨n2, h2⟩ := (t_holds c b (k + 1) (by omega)).n
    rw [sem_holds]
    cases e : a.has c <;> simp [Y.Gives, Y.runF, Y.runG, b_holds, Y.ent, Kd.enc, Kd.has, Y.outD, h1, h2, e]
end Hd
set_option Elab.async false
set_option linter.all false
set_option maxRecDepth 100000
set_option maxHeartbeats 4000000
namespace Hd
open PySem PySem.Spec L2
theorem t_is_whole (i : Int) (k : Nat) : Y.Gives (sm (k + 2) f_is_whole [.int i]) .fr (.bl true) := by
  rw [sem_is_whole]
  simp [Y.Gives, Y.runF, Y.runG, b_is_whole, Y.ent, Y.outD]
theorem t_is_kind (o : Nat) : ∀ (κ : Kd) (d k : Nat), κ.dep + 3 ≤ k → κ.dep ≤ 60 → Y.Gives (sm k f_is_kind [κ.enc, .int o, .int d]) .fr (.bl (κ.lim o && decide (κ.dep ≤ d)))
  | .num, d, k + 2, hk, hd => by
    rw [sem_is_kind]
    simp [Y.Gives, Y.runF, Y.runG, b_is_kind, Y.ent, Kd.enc, Kd.lim, Kd.dep, Y.outD, Y.lim, Y.dsL]
  | .truth, d, k + 2, hk, hd => by
    rw [sem_is_kind]
    simp [Y.Gives, Y.runF, Y.runG, b_is_kind, Y.ent, Kd.enc, Kd.lim, Kd.dep, Y.outD, Y.lim, Y.dsL]
  | .opn i, d, k + 3, hk, hd => by
    rw [sem_is_kind]
    obtain ⟨n1, h1⟩ := (t_is_whole i k).n
    have e := Y.eq_unit (n := 1) (x := .str "open") (xs := [.int (i : Int)]) (by simp) (by omega)
    by_cases ho : i < o <;> simp [Y.Gives, Y.runF, Y.runG, b_is_kind, Y.ent, Kd.enc, Kd.lim, Kd.dep, Y.outD, Y.lim, Y.dsL, h1, e, ho]
  | .pair a b, d, k + 2, hk, hd => by
    simp only [Kd.dep] at hk hd
    have e := Y.eq_unit (n := 61) (x := .str "pair") (xs := [a.enc, b.enc]) (by simp [Kd.enc_nice a 60 (by omega), Kd.enc_nice b 60 (by omega)]) (by omega)
    rw [sem_is_kind]
    cases d with
    | zero => simp [Y.Gives, Y.runF, Y.runG, b_is_kind, Y.ent, Kd.enc, Kd.lim, Kd.dep, Y.outD, Y.lim, Y.dsL, e]
    | succ d =>
      obtain ⟨n1, h1⟩ := (t_is_kind o a d (k + 1) (by omega) (by omega)).n
      obtain ⟨n2, h2⟩ := (t_is_kind o b d (k + 1) (by omega) (by omega)).n
      have e1 : ((d : Int) + 1 == 0) = false := by simp; omega
      have e2 : ¬ ((d : Int) + 1 = 0) := by omega
      have e3 : (d : Int) + 1 - 1 = d := by omega
      cases q : (a.lim o && decide (a.dep ≤ d)) <;> simp only [q] at h1 <;> simp [Y.Gives, Y.runF, Y.runG, b_is_kind, Y.ent, Kd.enc, Kd.lim, Kd.dep, Y.outD, Y.lim, Y.dsL, e, e1, e2, e3, h1, h2]
      · simp at q
        intro h3 h4
        have := q h3
        omega
      · simp at q
        by_cases z1 : a.lim o = true <;> by_cases z2 : b.lim o = true <;> simp_all
        omega
theorem t_are_kinds (ks : List Kd) (n o k : Nat) (hk : 65 ≤ k) (hl : ks.length < 1000) (hd : ∀ κ ∈ ks, κ.dep ≤ 60) : Y.Gives (sm k f_are_kinds [.lst (encK ks), .int n, .int o]) .fr (.bl (decide (ks.length = n) && ks.all fun κ => κ.lim o && decide (κ.dep ≤ 4))) := by
  obtain ⟨k, rfl⟩ : ∃ j, k = j + 2 := ⟨k - 2, by omega⟩
  rw [sem_are_kinds]
  obtain ⟨f, q⟩ := Y.comp1 (E := En k) (i := 3) (c := .var 0) (elt := .call f_is_kind [.var 3, .var 2]) (dl := .lst (encK ks)) (m := .fr) (n := false) (g := [some ⟨.lst (encK ks), .fr, false⟩, some ⟨.int n, .fr, true⟩, some ⟨.int o, .fr, true⟩, none]) ks Kd.enc (fun κ => .bl (κ.lim o && decide (κ.dep ≤ 4))) (by simp) rfl (by simp) (by simp) (by simp [Y.lim]; omega) (fun κ hm nf => by
      obtain ⟨n1, h1⟩ := (t_is_kind o κ 4 (k + 1) (by have := hd κ hm; omega) (hd κ hm)).n
      simp at h1
      simp [Y.evD, h1])
  rw [show Y.C.comp [3] (.one 3) .any [.var 0] none (.call f_is_kind [.var 3, .var 2]) = q1_are_kinds from rfl] at q
  by_cases h : ks.length = n
  · simp [Y.Gives, Y.runF, Y.runG, b_are_kinds, Y.ent, Y.outD, q, h, List.all_map, Function.comp_def]
  · have h2 : ¬ ((ks.length : Int) = (n : Int)) := by omega
    simp [Y.Gives, Y.runF, Y.runG, b_are_kinds, Y.ent, Y.outD, q, h, h2]
theorem t_inner : ∀ (t : Tm) (k : Nat), t.wf = true → Y.Gives (sm (k + 2) f_inner [t.enc]) .ow (.lst (t.kids.map Tm.enc))
  | .nd h ts, k, hw => by
    rw [sem_inner]
    simp only [Tm.wf, Bool.and_eq_true] at hw
    cases h <;> simp [Th.ar] at hw
    case num | yes | no | take | size | fail =>
      simp [Y.Gives, Y.runF, Y.runG, b_inner, Y.ent, Tm.enc, Th.form, Tm.kids, Y.outD, Y.lim, Y.dsL, hw]
    case ask =>
      simp [Y.Gives, Y.runF, Y.runG, b_inner, Y.ent, Tm.enc, Th.form, Tm.kids, Y.outD, Y.lim, Y.dsL, hw]
    case plus | less | pair | first | second | ife =>
      simp [Y.Gives, Y.runF, Y.runG, b_inner, Y.ent, Tm.enc, Th.form, Tm.kids, Y.outD, Y.lim, Y.dsL, hw, Y.cut_tail]
theorem t_asks_of : ∀ (t : Tm) (k : Nat), t.wf = true → t.size ≤ 1000 → t.hgt + 2 ≤ k → Y.Gives (sm k f_asks_of [t.enc]) .ow (.lst (t.asks.map Tm.enc)) := by
  refine Tm.ind fun h ts ih k hw hs hk => ?_
  obtain ⟨k, rfl⟩ : ∃ j, k = j + 2 := ⟨k - 2, by omega⟩
  simp only [Tm.hgt] at hk
  simp only [Tm.size] at hs
  have hw' := hw
  simp only [Tm.wf, Bool.and_eq_true] at hw'
  obtain ⟨k, rfl⟩ : ∃ j, k = j + 1 := ⟨k - 1, by omega⟩
  obtain ⟨n1, h1⟩ := (t_inner (.nd h ts) k hw).n
  have lp : ∀ (us : List Tm) (acc : List Tm) (f0 f1 : Bool) (o : Option (Y.D × Bool)), (∀ u ∈ us, u ∈ ts) → acc.length + sizeL us ≤ 1000 → ∀ n, ∃ f2 o2, Y.forL (Y.forB (En (k + 1)) (.one 2) n l1_asks_of) (us.map Tm.enc) [some ⟨(Tm.nd h ts).enc, .fr, f0⟩, some ⟨.lst (acc.map Tm.enc), .ow, f1⟩, Y.fro o] = some (.ok (.nx, [some ⟨(Tm.nd h ts).enc, .fr, f0⟩, some ⟨.lst ((acc ++ asksL us).map Tm.enc), .ow, f2⟩, Y.fro o2])) := by
    intro us
    induction us with
    | nil => exact fun acc f0 f1 o _ _ n => ⟨f1, o, by simp [asksL]⟩
    | cons u us ihu =>
      intro acc f0 f1 o hm hl n
      have hu := hm u (by simp)
      have := hgtL_le hu
      have := sizeL_le hu
      have ha := u.asks_le
      simp only [sizeL] at hl
      obtain ⟨n2, h2⟩ := (ih u hu (k + 2) (wfL_all.mp hw'.2 u hu) (by omega) (by omega)).n
      obtain ⟨f2, o2, h3⟩ := ihu (acc ++ u.asks) f0 (f1 && n2) (some (u.enc, n || u.enc.atom)) (fun v hv => hm v (by simp [hv])) (by simp; omega) n
      refine ⟨f2, o2, ?_⟩
      have e1 : acc.length + u.asks.length ≤ 100000 := by omega
      rw [← Y.fro_some] at h3
      simp only [List.map_append, l1_asks_of, List.append_assoc] at h3
      simp [l1_asks_of, h2, Y.lim, e1, h3, asksL]
  obtain ⟨f2, o2, h3⟩ := lp ts [] (Tm.nd h ts).enc.atom true none (fun _ h => h) (by simp; omega) n1
  rw [← Y.fro_none] at h3
  have ha := asksL_le ts
  have e2 : (asksL ts).length + 1 ≤ 100000 := by omega
  have e3 : (asksL ts).length ≤ 100000 := by omega
  rw [sem_asks_of]
  simp only [Tm.kids] at h1
  simp only [List.map_nil, List.nil_append] at h3
  cases h <;> simp [Tm.enc, Th.form] at h1 h3 <;> simp [Tm.enc, Th.form, Y.Gives, Y.runF, Y.runG, b_asks_of, Y.ent, Y.outD, h1, Y.lim, Y.dsL, h3, Tm.asks, Th.isAsk, e2, e3]
end Hd
set_option Elab.async false
set_option linter.all false
set_option maxRecDepth 100000
set_option maxHeartbeats 4000000
namespace Hd
open PySem PySem.Spec L2
/-! ## functions and books -/
structure Fu where
  name : Str
  opens : Nat
  takes : List Kd
  gives : Kd
  body : Tm
def Fu.enc (f : Fu) : Y.D := .obj "Function" ["name", "opens", "takes", "gives", "body"] [.str f.name, .int f.opens, .lst (encK f.takes), f.gives.enc, f.body.enc]
abbrev Bk := List Fu
def Bk.keys (b : Bk) : List Key := b.map fun f => .inr f.name
def Bk.enc (b : Bk) : Y.D := .obj "Book" ["table"] [.dct (Bk.keys b) (b.map Fu.enc)]
def Bk.fn (b : Bk) (s : Str) : Option Fu := b.find? fun f => decide (f.name = s)
theorem look_bk (b : Bk) (s : Str) : Y.look (Bk.keys b) (b.map Fu.enc) (.inr s) = (Bk.fn b s).map Fu.enc := by
  induction b with
  | nil => rfl
  | cons f b ih =>
    simp only [Bk.keys, Bk.fn, List.map_cons, Y.look_cons, List.find?_cons] at ih ⊢
    by_cases h : f.name = s
    · simp [h]
    · simp [h, ih]
def Fu.ok (f : Fu) : Bool := okS f.name && f.body.wf && decide (f.body.size ≤ 1000) && decide (f.body.hgt ≤ 40) && decide (f.takes.length ≤ 1000) && (f.takes.all fun κ => decide (κ.dep ≤ 4) && κ.lim f.opens) && decide (f.gives.dep ≤ 4) && f.gives.lim f.opens
structure Fu.Ok (f : Fu) : Prop where
  name : okS f.name = true
  wf : f.body.wf = true
  size : f.body.size ≤ 1000
  hgt : f.body.hgt ≤ 40
  len : f.takes.length ≤ 1000
  dep : ∀ κ ∈ f.takes, κ.dep ≤ 4
  lim : ∀ κ ∈ f.takes, κ.lim f.opens = true
  gdep : f.gives.dep ≤ 4
  glim : f.gives.lim f.opens = true
theorem Fu.ok_iff {f : Fu} (h : f.ok = true) : f.Ok := by
  simp only [Fu.ok, Bool.and_eq_true, decide_eq_true_eq, List.all_eq_true] at h
  obtain ⟨⟨⟨⟨⟨⟨⟨h1, h2⟩, h3⟩, h4⟩, h5⟩, h6⟩, h7⟩, h8⟩ := h
  exact ⟨h1, h2, h3, h4, h5, fun κ hκ => (h6 κ hκ).1, fun κ hκ => (h6 κ hκ).2, h7, h8⟩
def Bk.Ok (b : Bk) : Prop := ∀ f ∈ b, f.Ok
theorem Bk.fn_ok {b : Bk} {s : Str} {f : Fu} (h : Bk.Ok b) (e : Bk.fn b s = some f) : f.Ok := h f (List.mem_of_find?_eq_some e)
/-! ## kinds of terms -/
def encO : Option Kd → Y.D
  | none => .non
  | some k => k.enc
def plainKd (h : Th) (ks : List Kd) : Option Kd := match h, ks with
  | .plus, ks => if ks = [.num, .num] then some .num else none
  | .less, ks => if ks = [.num, .num] then some .truth else none
  | .pair, [a, b] => some (.pair a b)
  | .ife, [a, b, c] => if a = .truth ∧ b = c then some b else none
  | .first, [.pair a _] => some a
  | .second, [.pair _ b] => some b
  | _, _ => none
def askKd (b : Bk) (g : Str) (ks kinds : List Kd) : Option Kd := match Bk.fn b g with
  | none => none
  | some f => if ks.length = f.opens then (if f.takes.map (·.putIn ks) = kinds then some (f.gives.putIn ks) else none) else none
def ownKd (b : Bk) (f : Fu) (h : Th) (kinds : List Kd) : Option Kd := match h with
  | .num _ => some .num
  | .size _ => some .num
  | .yes => some .truth
  | .no => some .truth
  | .take i => f.takes[i]?
  | .fail _ k => some k
  | .ask g ks => askKd b g ks kinds
  | h => plainKd h kinds
mutual
def kow (b : Bk) (f : Fu) : Tm → List Nat → Except (List Nat) Kd
  | .nd h ts, way => match kowL b f ts way 0 with
    | .error w => .error w
    | .ok ks => match ownKd b f h ks with
      | none => .error way
      | some k => .ok k
def kowL (b : Bk) (f : Fu) : List Tm → List Nat → Nat → Except (List Nat) (List Kd)
  | [], _, _ => .ok []
  | t :: ts, way, i => match kow b f t (way ++ [i]) with
    | .error w => .error w
    | .ok k => match kowL b f ts way (i + 1) with
      | .error w => .error w
      | .ok ks => .ok (k :: ks)
end
def encW (w : List Nat) : Y.D := .lst (w.map fun (i : Nat) => .int i)
def encR : Except (List Nat) Kd → Y.D
  | .ok k => .tup [k.enc, .non]
  | .error w => .tup [.non, encW w]
theorem eq_kd {a b : Kd} (ha : a.dep ≤ 60) (hb : b.dep ≤ 60) : Y.D.eqE a.enc b.enc = some (decide (a = b)) := Y.eqE_nice (n := 61) (m := 61) (a.enc_nice _ (by omega)) (b.enc_nice _ (by omega)) (by omega) (by omega) Kd.enc_inj
theorem eq_kds {a b : List Kd} (ha : ∀ κ ∈ a, κ.dep ≤ 60) (hb : ∀ κ ∈ b, κ.dep ≤ 60) : Y.D.eqE (.lst (encK a)) (.lst (encK b)) = some (decide (a = b)) := Y.eqE_nice (n := 62) (m := 62) (encK_nice a 61 fun κ hκ => by have := ha κ hκ; omega) (encK_nice b 61 fun κ hκ => by have := hb κ hκ; omega) (by omega) (by omega) (by simp [encK_inj])
theorem t_plain_kind (h : Th) (ks : List Kd) (k : Nat) (ha : h.ar = some ks.length) (h0 : ks ≠ []) (hd : ∀ κ ∈ ks, κ.dep ≤ 60) : Y.Gives (sm (k + 2) f_plain_kind [.str h.word, .lst (encK ks)]) .fr (encO (plainKd h ks)) := by
  rw [sem_plain_kind]
  have e1 : Y.D.eqE (.lst (encK ks)) (.lst [.str "num", .str "num"]) = some (decide (ks = [.num, .num])) := eq_kds (b := [.num, .num]) hd (by simp [Kd.dep])
  have hlen : ∀ n, h.ar = some n → ks.length = n := fun n e => by rw [ha] at e; exact Option.some.inj e
  cases h <;> simp only [Th.ar] at hlen ha
  case num | yes | no | take | size | fail => exact absurd (List.eq_nil_of_length_eq_zero (hlen 0 rfl)) h0
  case ask => cases ha
  case plus =>
    by_cases q : ks = [.num, .num]
    · have hp : plainKd .plus ks = some .num := by simp [plainKd, q]
      have e2 := e1.trans (by rw [decide_eq_true q])
      rw [hp]
      simp [Y.gives_iff, b_plain_kind, Th.word, e2, encO, Kd.enc]
    · have hp : plainKd .plus ks = none := by simp [plainKd, q]
      have e2 := e1.trans (by rw [decide_eq_false q])
      rw [hp]
      simp [Y.gives_iff, b_plain_kind, Th.word, e2, encO]
  case less =>
    by_cases q : ks = [.num, .num]
    · have hp : plainKd .less ks = some .truth := by simp [plainKd, q]
      have e2 := e1.trans (by rw [decide_eq_true q])
      rw [hp]
      simp [Y.gives_iff, b_plain_kind, Th.word, e2, encO, Kd.enc]
    · have hp : plainKd .less ks = none := by simp [plainKd, q]
      have e2 := e1.trans (by rw [decide_eq_false q])
      rw [hp]
      simp [Y.gives_iff, b_plain_kind, Th.word, e2, encO]
  case pair =>
    match ks, hlen 2 rfl with
    | [a, b], _ => simp [Y.gives_iff, b_plain_kind, Th.word, plainKd, encO, encK, Kd.enc]
  case ife =>
    match ks, hlen 3 rfl with
    | [a, b, c], _ =>
      have e2 : Y.D.eqE a.enc (.str "truth") = some (decide (a = .truth)) := eq_kd (b := .truth) (hd a (by simp)) (by simp [Kd.dep])
      have e3 : Y.D.eqE b.enc c.enc = some (decide (b = c)) := eq_kd (hd b (by simp)) (hd c (by simp))
      by_cases q : a = .truth
      · subst q
        by_cases r : b = c
        · subst r
          simp at e2 e3
          simp [Y.gives_iff, b_plain_kind, Th.word, plainKd, encO, encK, e2, e3]
        · simp [r] at e2 e3
          simp [Y.gives_iff, b_plain_kind, Th.word, plainKd, encO, encK, e2, e3, r]
      · simp [q] at e2
        simp [Y.gives_iff, b_plain_kind, Th.word, plainKd, encO, encK, e2, q]
  case first | second =>
    match ks, hlen 1 rfl with
    | [.num], _ => simp [Y.gives_iff, b_plain_kind, Th.word, plainKd, encO, encK, Kd.enc]
    | [.truth], _ => simp [Y.gives_iff, b_plain_kind, Th.word, plainKd, encO, encK, Kd.enc]
    | [.opn i], _ => simp [Y.gives_iff, b_plain_kind, Th.word, plainKd, encO, encK, Kd.enc]
    | [.pair a b], _ => simp [Y.gives_iff, b_plain_kind, Th.word, plainKd, encO, encK, Kd.enc]
theorem t_ask_kind (b : Bk) (g : Str) (ks kinds : List Kd) (ts : List Tm) (k : Nat) (hk : 12 ≤ k) (hb : Bk.Ok b) (hks : ∀ κ ∈ ks, κ.dep ≤ 4) (hd : ∀ κ ∈ kinds, κ.dep ≤ 60) : Y.Gives (sm k f_ask_kind [Bk.enc b, (Tm.nd (.ask g ks) ts).enc, .lst (encK kinds)]) .fr (encO (askKd b g ks kinds)) := by
  obtain ⟨k, rfl⟩ : ∃ j, k = j + 2 := ⟨k - 2, by omega⟩
  rw [sem_ask_kind]
  have lk := look_bk b g
  cases q : Bk.fn b g with
  | none =>
    rw [q] at lk
    simp only [Option.map_none] at lk
    simp [Y.gives_iff, b_ask_kind, Tm.enc, Th.form, Bk.enc, lk, askKd, q, encO]
  | some f =>
    rw [q] at lk
    simp only [Option.map_some] at lk
    have hf := Bk.fn_ok hb q
    by_cases ho : ks.length = f.opens
    · obtain ⟨fl, qc⟩ := Y.comp1 (E := En k) (i := 4) (c := .att (.var 3) "takes") (elt := .call f_put_in [.var 4, .idx (.var 1) (.int 2)]) (dl := .lst (encK f.takes)) (m := .fr) (n := false)
        (g := [some ⟨Bk.enc b, .fr, false⟩, some ⟨(Tm.nd (.ask g ks) ts).enc, .fr, false⟩, some ⟨.lst (encK kinds), .fr, false⟩, some ⟨f.enc, .fr, false⟩, none]) f.takes Kd.enc (fun κ => (κ.putIn ks).enc) (by simp [Fu.enc]) rfl (by simp) (by simp) (by have := hf.len; simp; omega) (fun κ hm nf => by
          obtain ⟨n1, h1⟩ := (t_put_in ks κ (k + 1) (by have := hf.dep κ hm; omega) (by rw [ho]; exact hf.lim κ hm)).n
          simp [Y.evD, h1, Tm.enc, Th.form])
      rw [show Y.C.comp [4] (.one 4) .any [.att (.var 3) "takes"] none (.call f_put_in [.var 4, .idx (.var 1) (.int 2)]) = q1_ask_kind from rfl] at qc
      have e1 : Y.D.eqE (.lst (f.takes.map fun κ => (κ.putIn ks).enc)) (.lst (encK kinds)) = some (decide (f.takes.map (·.putIn ks) = kinds)) := by
        have := eq_kds (a := f.takes.map (·.putIn ks)) (b := kinds) (fun κ hκ => by
          obtain ⟨κ', h1, rfl⟩ := List.mem_map.mp hκ
          have := Kd.dep_putIn ks 4 hks κ'
          have := hf.dep κ' h1
          omega) hd
        simpa [encK, Function.comp_def] using this
      obtain ⟨n2, h2⟩ := (t_put_in ks f.gives (k + 1) (by have := hf.gdep; omega) (by rw [ho]; exact hf.glim)).n
      by_cases hq : f.takes.map (·.putIn ks) = kinds
      · simp [Tm.enc, Th.form, Bk.enc, Fu.enc] at qc
        simp [hq] at e1
        simp [Y.gives_iff, b_ask_kind, Tm.enc, Th.form, Bk.enc, lk, askKd, q, encO, ho, Fu.enc, qc, e1, hq, h2]
      · simp [Tm.enc, Th.form, Bk.enc, Fu.enc] at qc
        simp [hq] at e1
        simp [Y.gives_iff, b_ask_kind, Tm.enc, Th.form, Bk.enc, lk, askKd, q, encO, ho, Fu.enc, qc, e1, hq]
    · have ho2 : ¬ ((ks.length : Int) = (f.opens : Int)) := by omega
      simp [Y.gives_iff, b_ask_kind, Tm.enc, Th.form, Bk.enc, lk, askKd, q, encO, ho, ho2, Fu.enc]
end Hd
set_option Elab.async false
set_option linter.all false
set_option maxRecDepth 100000
set_option maxHeartbeats 4000000
namespace Hd
open PySem PySem.Spec L2
@[simp] theorem encK_nil : encK [] = [] := rfl
@[simp] theorem encK_cons (k : Kd) (ks : List Kd) : encK (k :: ks) = k.enc :: encK ks := rfl
theorem encK_app (a b : List Kd) : encK (a ++ b) = encK a ++ encK b := List.map_append
@[simp] theorem atom_bk (b : Bk) : (Bk.enc b).atom = false := rfl
@[simp] theorem atom_fu (f : Fu) : (Fu.enc f).atom = false := rfl
@[simp] theorem atom_tm (t : Tm) : t.enc.atom = false := by
  cases t with
  | nd h ts => cases h <;> rfl
@[simp] theorem atom_w (w : List Nat) : (encW w).atom = false := rfl
@[simp] theorem bySh_w (w : List Nat) (n : Bool) : Y.bySh (encW w) n = ⟨encW w, .ow, n⟩ := rfl
@[simp] theorem isN_w (w : List Nat) : (encW w).isN = some false := rfl
@[simp] theorem encW_nil : encW [] = .lst [] := rfl
@[simp] theorem att_book (k : Nat) (b : Bk) (m : Y.Mode) (n : Bool) : Y.attS (En k) "table" ⟨Bk.enc b, m, n⟩ = some ⟨.dct (Bk.keys b) (b.map Fu.enc), .fr, n⟩ := by simp [Bk.enc]
@[simp] theorem att_fname (k : Nat) (f : Fu) (m : Y.Mode) (n : Bool) : Y.attS (En k) "name" ⟨f.enc, m, n⟩ = some ⟨.str f.name, .fr, true⟩ := by simp [Fu.enc]
@[simp] theorem att_fopens (k : Nat) (f : Fu) (m : Y.Mode) (n : Bool) : Y.attS (En k) "opens" ⟨f.enc, m, n⟩ = some ⟨.int f.opens, .fr, true⟩ := by simp [Fu.enc]
@[simp] theorem att_ftakes (k : Nat) (f : Fu) (m : Y.Mode) (n : Bool) : Y.attS (En k) "takes" ⟨f.enc, m, n⟩ = some ⟨.lst (encK f.takes), .fr, n⟩ := by simp [Fu.enc]
@[simp] theorem att_fgives (k : Nat) (f : Fu) (m : Y.Mode) (n : Bool) : Y.attS (En k) "gives" ⟨f.enc, m, n⟩ = some ⟨f.gives.enc, .fr, n || f.gives.enc.atom⟩ := by simp [Fu.enc]
@[simp] theorem att_fbody (k : Nat) (f : Fu) (m : Y.Mode) (n : Bool) : Y.attS (En k) "body" ⟨f.enc, m, n⟩ = some ⟨f.body.enc, .fr, n⟩ := by
  have := atom_tm f.body
  simp [Fu.enc, this]
theorem Th.ok_ask {g : Str} {ks : List Kd} (h : (Th.ask g ks).ok = true) : okS g = true ∧ ks.length ≤ 60 ∧ ∀ κ ∈ ks, κ.dep ≤ 4 := by
  simp only [Th.ok, Bool.and_eq_true, decide_eq_true_eq, List.all_eq_true] at h
  exact ⟨h.1.1, h.1.2, h.2⟩
theorem t_own_kind (b : Bk) (f : Fu) (h : Th) (ts : List Tm) (kinds : List Kd) (k : Nat) (hk : 14 ≤ k) (hb : Bk.Ok b) (hw : (Tm.nd h ts).wf = true) (hl : kinds.length = ts.length) (hd : ∀ κ ∈ kinds, κ.dep ≤ 60) :
    Y.Gives (sm k f_own_kind [Bk.enc b, f.enc, (Tm.nd h ts).enc, .lst (encK kinds)]) .fr (encO (ownKd b f h kinds)) := by
  obtain ⟨k, rfl⟩ : ∃ j, k = j + 2 := ⟨k - 2, by omega⟩
  have hw2 := hw
  simp only [Tm.wf, Bool.and_eq_true] at hw2
  rw [sem_own_kind]
  cases h
  case num | yes | no | size | fail => simp [Y.gives_iff, b_own_kind, Tm.enc, Th.form, ownKd, encO, Kd.enc]
  case take i =>
    by_cases hi : i < f.takes.length
    · have e : (encK f.takes)[i]? = some f.takes[i].enc := by simp [encK, hi]
      simp [Y.gives_iff, b_own_kind, Tm.enc, Th.form, ownKd, encO, hi, Y.atI_nat]; simp [encK]
    · have e : f.takes[i]? = none := List.getElem?_eq_none (by omega)
      simp [Y.gives_iff, b_own_kind, Tm.enc, Th.form, ownKd, encO, hi, e]
  case ask g ks =>
    obtain ⟨n1, h1⟩ := (t_ask_kind b g ks kinds ts (k + 1) (by omega) hb (Th.ok_ask hw2.1.2).2.2 hd).n
    simp only [Tm.enc, Th.form, encL_map] at h1
    simp [Y.gives_iff, b_own_kind, Tm.enc, Th.form, ownKd, h1]
  case plus =>
    obtain ⟨k, rfl⟩ : ∃ j, k = j + 1 := ⟨k - 1, by omega⟩
    have e : ts.length = 2 := by simpa [Th.ar] using hw2.1.1
    obtain ⟨n1, h1⟩ := (t_plain_kind .plus kinds k (by simp [Th.ar]; omega) (by intro z; rw [z] at hl; simp at hl; omega) hd).n
    simp only [Th.word] at h1
    simp [Y.gives_iff, b_own_kind, Tm.enc, Th.form, ownKd, h1]
  case less =>
    obtain ⟨k, rfl⟩ : ∃ j, k = j + 1 := ⟨k - 1, by omega⟩
    have e : ts.length = 2 := by simpa [Th.ar] using hw2.1.1
    obtain ⟨n1, h1⟩ := (t_plain_kind .less kinds k (by simp [Th.ar]; omega) (by intro z; rw [z] at hl; simp at hl; omega) hd).n
    simp only [Th.word] at h1
    simp [Y.gives_iff, b_own_kind, Tm.enc, Th.form, ownKd, h1]
  case pair =>
    obtain ⟨k, rfl⟩ : ∃ j, k = j + 1 := ⟨k - 1, by omega⟩
    have e : ts.length = 2 := by simpa [Th.ar] using hw2.1.1
    obtain ⟨n1, h1⟩ := (t_plain_kind .pair kinds k (by simp [Th.ar]; omega) (by intro z; rw [z] at hl; simp at hl; omega) hd).n
    simp only [Th.word] at h1
    simp [Y.gives_iff, b_own_kind, Tm.enc, Th.form, ownKd, h1]
  case first =>
    obtain ⟨k, rfl⟩ : ∃ j, k = j + 1 := ⟨k - 1, by omega⟩
    have e : ts.length = 1 := by simpa [Th.ar] using hw2.1.1
    obtain ⟨n1, h1⟩ := (t_plain_kind .first kinds k (by simp [Th.ar]; omega) (by intro z; rw [z] at hl; simp at hl; omega) hd).n
    simp only [Th.word] at h1
    simp [Y.gives_iff, b_own_kind, Tm.enc, Th.form, ownKd, h1]
  case second =>
    obtain ⟨k, rfl⟩ : ∃ j, k = j + 1 := ⟨k - 1, by omega⟩
    have e : ts.length = 1 := by simpa [Th.ar] using hw2.1.1
    obtain ⟨n1, h1⟩ := (t_plain_kind .second kinds k (by simp [Th.ar]; omega) (by intro z; rw [z] at hl; simp at hl; omega) hd).n
    simp only [Th.word] at h1
    simp [Y.gives_iff, b_own_kind, Tm.enc, Th.form, ownKd, h1]
  case ife =>
    obtain ⟨k, rfl⟩ : ∃ j, k = j + 1 := ⟨k - 1, by omega⟩
    have e : ts.length = 3 := by simpa [Th.ar] using hw2.1.1
    obtain ⟨n1, h1⟩ := (t_plain_kind .ife kinds k (by simp [Th.ar]; omega) (by intro z; rw [z] at hl; simp at hl; omega) hd).n
    simp only [Th.word] at h1
    simp [Y.gives_iff, b_own_kind, Tm.enc, Th.form, ownKd, h1]
/-! the kinds are not deep -/
theorem ownKd_dep {b : Bk} {f : Fu} {h : Th} {kinds : List Kd} {m : Nat} {κ : Kd} (hb : Bk.Ok b) (hf : f.Ok) (ho : h.ok = true) (hd : ∀ κ ∈ kinds, κ.dep ≤ 8 + m) (e : ownKd b f h kinds = some κ) : κ.dep ≤ 8 + m + 1 := by
  cases h <;> simp only [ownKd] at e
  case num | size | yes | no => cases e; simp [Kd.dep]
  case take i => have := hf.dep κ (List.mem_of_getElem? e); omega
  case fail n k =>
    cases e
    simp [Th.ok] at ho; omega
  case ask g ks =>
    unfold askKd at e
    split at e
    · cases e
    · rename_i f' q
      split at e
      · split at e
        · cases e
          have h1 := Kd.dep_putIn ks 4 (Th.ok_ask ho).2.2 f'.gives
          have := (Bk.fn_ok hb q).gdep
          omega
        · cases e
      · cases e
  case plus => simp [plainKd] at e; obtain ⟨_, rfl⟩ := e; simp [Kd.dep]
  case less => simp [plainKd] at e; obtain ⟨_, rfl⟩ := e; simp [Kd.dep]
  case pair =>
    unfold plainKd at e
    split at e <;> first | (cases e; done) | skip
    all_goals first
      | (simp at *; done)
      | skip
    cases e
    have h1 := hd _ List.mem_cons_self
    have h2 := hd _ (List.mem_cons_of_mem _ List.mem_cons_self)
    simp only [Kd.dep]; omega
  case ife =>
    unfold plainKd at e
    split at e <;> first | (cases e; done) | skip
    all_goals first
      | (simp at *; done)
      | skip
    split at e
    · cases e
      have h1 := hd _ (List.mem_cons_of_mem _ List.mem_cons_self)
      omega
    · cases e
  case first =>
    unfold plainKd at e
    split at e <;> first | (cases e; done) | skip
    all_goals first
      | (simp at *; done)
      | skip
    cases e
    have h1 := hd _ List.mem_cons_self
    simp only [Kd.dep] at h1; omega
  case second =>
    unfold plainKd at e
    split at e <;> first | (cases e; done) | skip
    all_goals first
      | (simp at *; done)
      | skip
    cases e
    have h1 := hd _ List.mem_cons_self
    simp only [Kd.dep] at h1; omega
mutual
theorem kow_dep {b : Bk} {f : Fu} (hb : Bk.Ok b) (hf : f.Ok) : ∀ (t : Tm) (way : List Nat) (κ : Kd), t.wf = true → kow b f t way = .ok κ → κ.dep ≤ 8 + t.hgt
  | .nd h ts, way, κ, hw, e => by
    simp only [Tm.wf, Bool.and_eq_true] at hw
    unfold kow at e
    split at e
    · cases e
    · rename_i ks q
      split at e
      · cases e
      · rename_i k q2
        cases e
        have := ownKd_dep (m := hgtL ts) hb hf hw.1.2 (kowL_dep hb hf ts way 0 ks hw.2 q) q2
        simp only [Tm.hgt]; omega
theorem kowL_dep {b : Bk} {f : Fu} (hb : Bk.Ok b) (hf : f.Ok) : ∀ (ts : List Tm) (way : List Nat) (i : Nat) (ks : List Kd), wfL ts = true → kowL b f ts way i = .ok ks → ∀ κ ∈ ks, κ.dep ≤ 8 + hgtL ts
  | [], _, _, ks, _, e, κ, hκ => by
    simp [kowL] at e
    subst e
    simp at hκ
  | t :: ts, way, i, ks, hw, e, κ, hκ => by
    simp only [wfL, Bool.and_eq_true] at hw
    unfold kowL at e
    split at e
    · cases e
    · rename_i k q
      split at e
      · cases e
      · rename_i ks' q2
        cases e
        simp only [hgtL]
        rcases List.mem_cons.mp hκ with z | z
        · rw [z]
          have := kow_dep hb hf t _ k hw.1 q
          omega
        · have := kowL_dep hb hf ts way _ ks' hw.2 q2 κ z
          omega
end
theorem kowL_len {b : Bk} {f : Fu} : ∀ (ts : List Tm) (way : List Nat) (i : Nat) (ks : List Kd), kowL b f ts way i = .ok ks → ks.length = ts.length
  | [], _, _, ks, e => by simp [kowL] at e; subst e; rfl
  | t :: ts, way, i, ks, e => by
    unfold kowL at e
    split at e
    · cases e
    · split at e
      · cases e
      · rename_i ks' q2
        cases e
        simp [kowL_len ts way (i + 1) ks' q2]
/-- enumerate, from a place on -/
def enumF (xs : List Y.D) (i : Nat) : List Y.D := (xs.zipIdx i).map fun (x, k) => .tup [.int (k : Nat), x]
theorem enum_F (xs : List Y.D) : Y.enumL xs = enumF xs 0 := rfl
@[simp] theorem enumF_nil (i : Nat) : enumF [] i = [] := rfl
@[simp] theorem enumF_cons (x : Y.D) (xs : List Y.D) (i : Nat) : enumF (x :: xs) i = .tup [.int i, x] :: enumF xs (i + 1) := rfl
theorem t_kind_or_way (b : Bk) (f : Fu) (hb : Bk.Ok b) (hf : f.Ok) : ∀ (t : Tm) (way : List Nat) (k : Nat), t.wf = true → t.size ≤ 1000 → t.hgt ≤ 40 → t.hgt + 14 ≤ k → way.length + t.hgt ≤ 1000 →
    Y.Gives (sm k f_kind_or_way [Bk.enc b, f.enc, t.enc, encW way]) .fr (encR (kow b f t way)) := by
  refine Tm.ind fun h ts ih way k hw hs hh hk hwl => ?_
  simp only [Tm.hgt] at hk hh hwl
  simp only [Tm.size] at hs
  have hw2 := hw
  simp only [Tm.wf, Bool.and_eq_true] at hw2
  obtain ⟨k, rfl⟩ : ∃ j, k = j + 3 := ⟨k - 3, by omega⟩
  obtain ⟨n1, h1⟩ := (t_inner (.nd h ts) k hw).n
  have lp : ∀ (us : List Tm) (acc : List Kd) (i : Nat) (fa : Bool) (o6 o7 o8 o9 : Option (Y.D × Bool)), (∀ u ∈ us, u ∈ ts) → acc.length + us.length ≤ 1000 → ∀ n, (match kowL b f us way i with
      | .ok ks => ∃ f2 o6' o7' o8' o9', Y.forL (Y.forB (En (k + 1)) (.tup [6, 7]) n l1_kind_or_way) (enumF (us.map Tm.enc) i) [some ⟨Bk.enc b, .fr, false⟩, some ⟨f.enc, .fr, false⟩, some ⟨(Tm.nd h ts).enc, .fr, false⟩, some ⟨encW way, .fr, false⟩, some ⟨.lst (encK acc), .ow, fa⟩, none, Y.fro o6, Y.fro o7, Y.fro o8, Y.fro o9] =
          some (.ok (.nx, [some ⟨Bk.enc b, .fr, false⟩, some ⟨f.enc, .fr, false⟩, some ⟨(Tm.nd h ts).enc, .fr, false⟩, some ⟨encW way, .fr, false⟩, some ⟨.lst (encK (acc ++ ks)), .ow, f2⟩, none, Y.fro o6', Y.fro o7', Y.fro o8', Y.fro o9']))
      | .error w => Y.rtD (Y.forL (Y.forB (En (k + 1)) (.tup [6, 7]) n l1_kind_or_way) (enumF (us.map Tm.enc) i) [some ⟨Bk.enc b, .fr, false⟩, some ⟨f.enc, .fr, false⟩, some ⟨(Tm.nd h ts).enc, .fr, false⟩, some ⟨encW way, .fr, false⟩, some ⟨.lst (encK acc), .ow, fa⟩, none, Y.fro o6, Y.fro o7, Y.fro o8, Y.fro o9]) =
          some (.ok (.tup [.non, encW w], .fr))) := by
    intro us
    induction us with
    | nil => exact fun acc i fa o6 o7 o8 o9 _ _ n => ⟨fa, o6, o7, o8, o9, by simp⟩
    | cons u us ihu =>
      intro acc i fa o6 o7 o8 o9 hm hl n
      have hu := hm u (by simp)
      have hg := hgtL_le hu
      have hz := sizeL_le hu
      have hwu := wfL_all.mp hw2.2 u hu
      simp only [List.length_cons] at hl
      obtain ⟨n2, h2⟩ := (ih u hu (way ++ [i]) (k + 2) hwu (by omega) (by omega) (by omega) (by simp; omega)).n
      have e1 : way.length + 1 ≤ 100000 := by omega
      have ew : Y.D.bin .add (encW way) (.lst [.int i]) = some (encW (way ++ [i])) := by simp [encW, e1]
      have e2 : acc.length < 100000 := by omega
      cases q : kow b f u (way ++ [i]) with
      | error w =>
        rw [q] at h2
        have e : kowL b f (u :: us) way i = .error w := by unfold kowL; rw [q]
        rw [e]
        simp only [encR] at h2
        simp [l1_kind_or_way, h2, ew]
      | ok κ =>
        rw [q] at h2
        have := ihu (acc ++ [κ]) (i + 1) (fa && (n2 || κ.enc.atom)) (some (.int i, true)) (some (u.enc, n)) (some (κ.enc, n2 || κ.enc.atom)) (some (.non, true)) (fun v hv => hm v (by simp [hv])) (by simp; omega) n
        simp only [← Y.fro_some] at this
        simp only [encR] at h2
        cases q3 : kowL b f us way (i + 1) with
        | error w =>
          rw [q3] at this
          have e : kowL b f (u :: us) way i = .error w := by unfold kowL; rw [q]; dsimp only; rw [q3]
          rw [e]
          obtain ⟨f2, g', h3⟩ := Y.rtD_iff this
          simp only [l1_kind_or_way, encK_app, encK_cons, encK_nil] at h3
          simp [l1_kind_or_way, h2, ew, e2, h3]
        | ok ks =>
          rw [q3] at this
          have e : kowL b f (u :: us) way i = .ok (κ :: ks) := by unfold kowL; rw [q]; dsimp only; rw [q3]
          rw [e]
          obtain ⟨f2, o6', o7', o8', o9', h3⟩ := this
          refine ⟨f2, o6', o7', o8', o9', ?_⟩
          simp only [l1_kind_or_way, encK_app, encK_cons, encK_nil, List.append_assoc, List.cons_append, List.nil_append] at h3
          simp [l1_kind_or_way, h2, ew, e2, h3, encK_app]
  have := lp ts [] 0 true none none none none (fun _ h => h) (by have := length_sizeL ts; simp; omega) n1
  simp only [← Y.fro_none] at this
  rw [sem_kind_or_way]
  simp only [Tm.kids] at h1
  cases q : kowL b f ts way 0 with
  | error w =>
    rw [q] at this
    have e : kow b f (.nd h ts) way = .error w := by unfold kow; rw [q]
    rw [e]
    obtain ⟨f2, g', h3⟩ := Y.rtD_iff this
    simp only [encK_nil] at h3
    simp [Y.gives_iff, b_kind_or_way, h1, enum_F, encR, h3]
  | ok ks =>
    rw [q] at this
    obtain ⟨f2, o6', o7', o8', o9', h3⟩ := this
    have hkd : ∀ κ ∈ ks, κ.dep ≤ 60 := fun κ hκ => by have := kowL_dep hb hf ts way 0 ks hw2.2 q κ hκ; omega
    obtain ⟨n4, h4⟩ := (t_own_kind b f h ts ks (k + 2) (by omega) hb hw (kowL_len ts way 0 ks q) hkd).n
    simp only [encK_nil, List.nil_append] at h3
    cases q2 : ownKd b f h ks with
    | none =>
      have e : kow b f (.nd h ts) way = .error way := by unfold kow; rw [q]; dsimp only; rw [q2]
      rw [e]
      rw [q2] at h4
      simp only [encO] at h4
      simp [Y.gives_iff, b_kind_or_way, h1, enum_F, encR, h3, h4]
    | some κ =>
      have e : kow b f (.nd h ts) way = .ok κ := by unfold kow; rw [q]; dsimp only; rw [q2]
      rw [e]
      rw [q2] at h4
      simp only [encO] at h4
      have en : κ.enc.isN = some false := by cases κ <;> rfl
      simp [Y.gives_iff, b_kind_or_way, h1, enum_F, encR, h3, h4, en]
end Hd
set_option Elab.async false
set_option linter.all false
set_option maxRecDepth 100000
set_option maxHeartbeats 4000000
namespace Hd
open PySem PySem.Spec L2
/-! ## the first function that doesn't fit -/
def Bk.Uni (b : Bk) : Prop := ∀ f ∈ b, Bk.fn b f.name = some f
def fmis (b : Bk) : List Fu → Option (Str × List Nat)
  | [] => none
  | f :: fs => match kow b f f.body [] with
    | .error w => some (f.name, w)
    | .ok k => if k = f.gives then fmis b fs else some (f.name, [])
def encM : Option (Str × List Nat) → Y.D
  | none => .non
  | some (s, w) => .tup [.str s, encW w]
theorem keysD (b : Bk) : (Bk.keys b).map Y.keyD = b.map fun f => .str f.name := by
  simp [Bk.keys, Y.keyD, Function.comp_def]
theorem t_first_misfit (b : Bk) (hb : Bk.Ok b) (hu : Bk.Uni b) (k : Nat) (hk : 60 ≤ k) : Y.Gives (sm k f_first_misfit [Bk.enc b]) .fr (encM (fmis b b)) := by
  obtain ⟨k, rfl⟩ : ∃ j, k = j + 2 := ⟨k - 2, by omega⟩
  have lp : ∀ (fs : List Fu) (o1 o2 o3 o4 : Option (Y.D × Bool)), (∀ f ∈ fs, f ∈ b) → (match fmis b fs with
      | none => ∃ o1' o2' o3' o4', Y.forL (Y.forB (En k) (.one 1) true l1_first_misfit) (fs.map fun f => .str f.name) [some ⟨Bk.enc b, .fr, false⟩, Y.fro o1, Y.fro o2, Y.fro o3, Y.fro o4] =
          some (.ok (.nx, [some ⟨Bk.enc b, .fr, false⟩, Y.fro o1', Y.fro o2', Y.fro o3', Y.fro o4']))
      | some m => Y.rtD (Y.forL (Y.forB (En k) (.one 1) true l1_first_misfit) (fs.map fun f => .str f.name) [some ⟨Bk.enc b, .fr, false⟩, Y.fro o1, Y.fro o2, Y.fro o3, Y.fro o4]) = some (.ok (encM (some m), .fr))) := by
    intro fs
    induction fs with
    | nil => exact fun o1 o2 o3 o4 _ => ⟨o1, o2, o3, o4, rfl⟩
    | cons f fs ih =>
      intro o1 o2 o3 o4 hm
      have hfb := hm f (by simp)
      have hf := hb f hfb
      have lk := look_bk b f.name
      rw [hu f hfb] at lk
      simp only [Option.map_some] at lk
      obtain ⟨n1, h1⟩ := (t_kind_or_way b f hb hf f.body [] (k + 1) hf.wf hf.size hf.hgt (by have := hf.hgt; omega) (by have := hf.hgt; simp; omega)).n
      cases q : kow b f f.body [] with
      | error w =>
        rw [q] at h1
        have e : fmis b (f :: fs) = some (f.name, w) := by unfold fmis; rw [q]
        rw [e]
        simp only [encR, encW_nil] at h1
        simp [l1_first_misfit, h1, lk, encM]
      | ok κ =>
        rw [q] at h1
        simp only [encR, encW_nil] at h1
        have hd := kow_dep hb hf f.body [] κ hf.wf q
        have e2 : Y.D.eqE κ.enc f.gives.enc = some (decide (κ = f.gives)) := eq_kd (by have := hf.hgt; omega) (by have := hf.gdep; omega)
        by_cases hκ : κ = f.gives
        · have e : fmis b (f :: fs) = fmis b fs := by rw [fmis, q]; simp [hκ]
          have := ih (some (.str f.name, true)) (some (f.enc, false)) (some (κ.enc, n1 || κ.enc.atom)) (some (.non, true)) fun g hg => hm g (by simp [hg])
          simp only [← Y.fro_some] at this
          rw [e]
          have e3 := e2.trans (by rw [decide_eq_true hκ])
          cases q2 : fmis b fs with
          | none =>
            rw [q2] at this
            obtain ⟨o1', o2', o3', o4', h3⟩ := this
            refine ⟨o1', o2', o3', o4', ?_⟩
            simp only [l1_first_misfit] at h3
            simp [l1_first_misfit, h1, lk, e3, h3]
          | some m =>
            rw [q2] at this
            obtain ⟨f2, g', h3⟩ := Y.rtD_iff this
            simp only [l1_first_misfit] at h3
            simp [l1_first_misfit, h1, lk, e3, h3]
        · have e : fmis b (f :: fs) = some (f.name, []) := by unfold fmis; rw [q]; dsimp only; rw [if_neg hκ]
          rw [e]
          have e3 := e2.trans (by rw [decide_eq_false hκ])
          simp [l1_first_misfit, h1, lk, e3, encM]
  have := lp b none none none none fun _ h => h
  simp only [← Y.fro_none] at this
  have hfd : Y.evS (En k) (.forD 1 0 "table" l1_first_misfit) [some ⟨Bk.enc b, .fr, false⟩, none, none, none, none] = Y.M.nox (Y.forL (Y.forB (En k) (.one 1) true l1_first_misfit) (b.map fun f => .str f.name) [some ⟨Bk.enc b, .fr, false⟩, none, none, none, none]) := by
    rw [← keysD]
    exact Y.s_forD 1 0 "table" l1_first_misfit (c := "Book") (fs := ["table"]) (xs := [.dct (Bk.keys b) (b.map Fu.enc)]) (vs := b.map Fu.enc) rfl (by simp) (by simp)
  rw [sem_first_misfit]
  cases q : fmis b b with
  | none =>
    rw [q] at this
    obtain ⟨o1', o2', o3', o4', h3⟩ := this
    simp [Y.gives_iff, b_first_misfit, hfd, h3, encM]
  | some m =>
    rw [q] at this
    obtain ⟨f2, g', h3⟩ := Y.rtD_iff this
    simp [Y.gives_iff, b_first_misfit, hfd, h3]
/-! ## asks -/
def Tm.askN : Tm → Str × List Kd
  | .nd (.ask g ks) _ => (g, ks)
  | _ => ("", [])
structure AskP (t : Tm) : Prop where
  ex : ∃ us : List Tm, t.enc = .tup [.str "ask", .str t.askN.1, .lst (encK t.askN.2), .lst (us.map Tm.enc)]
  name : okS t.askN.1 = true
  len : t.askN.2.length ≤ 60
  dep : ∀ κ ∈ t.askN.2, κ.dep ≤ 4
mutual
theorem asks_ask : ∀ t : Tm, t.wf = true → ∀ u ∈ t.asks, AskP u
  | .nd h ts, hw, u, hu => by
    simp only [Tm.wf, Bool.and_eq_true] at hw
    simp only [Tm.asks, List.mem_append] at hu
    rcases hu with hu | hu
    · exact asksL_ask ts hw.2 u hu
    · cases h <;> simp [Th.isAsk] at hu
      rename_i g ks
      subst hu
      obtain ⟨h1, h2, h3⟩ := Th.ok_ask hw.1.2
      exact ⟨⟨ts, by simp [Tm.enc, Th.form, Tm.askN]⟩, h1, h2, h3⟩
theorem asksL_ask : ∀ ts : List Tm, wfL ts = true → ∀ u ∈ asksL ts, AskP u
  | [], _, u, hu => by simp [asksL] at hu
  | t :: ts, hw, u, hu => by
    simp only [wfL, Bool.and_eq_true] at hw
    simp only [asksL, List.mem_append] at hu
    rcases hu with hu | hu
    · exact asks_ask t hw.1 u hu
    · exact asksL_ask ts hw.2 u hu
end
abbrev Mk := Str × List Kd
def encMk (m : Mk) : Y.D := .tup [.str m.1, .lst (encK m.2)]
def askedBy (f : Fu) (ks : List Kd) : List Mk := f.body.asks.map fun t => (t.askN.1, t.askN.2.map (·.putIn ks))
theorem t_asked_by (b : Bk) (hb : Bk.Ok b) (s : Str) (ks : List Kd) (f : Fu) (hf : Bk.fn b s = some f) (hl : ∀ t ∈ f.body.asks, ∀ κ ∈ t.askN.2, κ.lim ks.length = true) (k : Nat) (hk : 50 ≤ k) :
    Y.Gives (sm k f_asked_by [Bk.enc b, encMk (s, ks)]) .ow (.lst ((askedBy f ks).map encMk)) := by
  obtain ⟨k, rfl⟩ : ∃ j, k = j + 2 := ⟨k - 2, by omega⟩
  have ho := Bk.fn_ok hb hf
  have lk := look_bk b s
  rw [hf] at lk
  simp only [Option.map_some] at lk
  obtain ⟨n1, h1⟩ := (t_asks_of f.body (k + 1) ho.wf ho.size (by have := ho.hgt; omega)).n
  have lp : ∀ (us : List Tm) (acc : List Mk) (fa : Bool) (o3 : Option (Y.D × Bool)), (∀ u ∈ us, u ∈ f.body.asks) → acc.length + us.length ≤ 1000 → ∀ n, ∃ f2 o3', Y.forL (Y.forB (En k) (.one 3) n l2_asked_by) (us.map Tm.enc) [some ⟨Bk.enc b, .fr, false⟩, some ⟨encMk (s, ks), .fr, false⟩, some ⟨.lst (acc.map encMk), .ow, fa⟩, Y.fro o3, some ⟨.str s, .fr, true⟩, some ⟨.lst (encK ks), .fr, false⟩, none] =
      some (.ok (.nx, [some ⟨Bk.enc b, .fr, false⟩, some ⟨encMk (s, ks), .fr, false⟩, some ⟨.lst ((acc ++ us.map fun t => (t.askN.1, t.askN.2.map (·.putIn ks))).map encMk), .ow, f2⟩, Y.fro o3', some ⟨.str s, .fr, true⟩, some ⟨.lst (encK ks), .fr, false⟩, none])) := by
    intro us
    induction us with
    | nil => exact fun acc fa o3 _ _ n => ⟨fa, o3, by simp⟩
    | cons u us ih =>
      intro acc fa o3 hm hlen n
      have hu := hm u (by simp)
      have ha := asks_ask f.body ho.wf u hu
      obtain ⟨vs, eu⟩ := ha.ex
      simp only [List.length_cons] at hlen
      obtain ⟨fl, qc⟩ := Y.comp1 (E := En k) (i := 6) (c := .idx (.var 3) (.int 2)) (elt := .call f_put_in [.var 6, .var 5]) (dl := .lst (encK u.askN.2)) (m := .fr) (n := n)
        (g := [some ⟨Bk.enc b, .fr, false⟩, some ⟨encMk (s, ks), .fr, false⟩, some ⟨.lst (acc.map encMk), .ow, fa⟩, some ⟨u.enc, .fr, n⟩, some ⟨.str s, .fr, true⟩, some ⟨.lst (encK ks), .fr, false⟩, none]) u.askN.2 Kd.enc (fun κ => (κ.putIn ks).enc) (by rw [eu]; simp) rfl (by simp) (by simp) (by have := ha.len; simp; omega) (fun κ hκ nf => by
          obtain ⟨n2, h2⟩ := (t_put_in ks κ (k + 1) (by have := ha.dep κ hκ; omega) (hl u hu κ hκ)).n
          simp [Y.evD, h2])
      rw [show Y.C.comp [6] (.one 6) .any [.idx (.var 3) (.int 2)] none (.call f_put_in [.var 6, .var 5]) = q1_asked_by from rfl] at qc
      have e2 : acc.length < 100000 := by omega
      obtain ⟨f2, o3', h3⟩ := ih (acc ++ [(u.askN.1, u.askN.2.map (·.putIn ks))]) (fa && fl) (some (u.enc, n)) (fun v hv => hm v (by simp [hv])) (by simp; omega) n
      refine ⟨f2, o3', ?_⟩
      simp only [← Y.fro_some] at h3
      have e4 : encMk (u.askN.1, u.askN.2.map (·.putIn ks)) = .tup [.str u.askN.1, .lst (u.askN.2.map fun κ => (κ.putIn ks).enc)] := by simp [encMk, encK, Function.comp_def]
      simp only [l2_asked_by, List.map_append, List.map_cons, List.map_nil, List.append_assoc, List.cons_append, List.nil_append, e4] at h3
      rw [eu] at qc h3
      simp only [List.map_cons, eu]
      simp [l2_asked_by, qc, e2, h3, e4]
  obtain ⟨f2, o3', h3⟩ := lp f.body.asks [] true none (fun _ h => h) (by have := ho.size; have := f.body.asks_le; simp; omega) n1
  simp only [← Y.fro_none] at h3
  rw [sem_asked_by]
  simp only [List.map_nil, List.nil_append] at h3
  simp only [encMk] at h3 ⊢
  simp [Y.gives_iff, b_asked_by, h1, lk, h3, askedBy, encMk, Function.comp_def]
/-! ## names that are come to -/
def strL (l : List Str) : List Y.D := l.map .str
def addN : List Str → List Tm → List Str
  | found, [] => found
  | found, t :: us => addN (if t.askN.1 ∈ found then found else found ++ [t.askN.1]) us
def comeLoop (b : Bk) : Nat → List Str → Nat → Option (List Str)
  | 0, _, _ => none
  | n + 1, found, turn => match found[turn]? with
    | none => some found
    | some s => match Bk.fn b s with
      | none => none
      | some f => comeLoop b n (addN found f.body.asks) (turn + 1)
theorem inn_str (s : Str) (l : List Str) (hs : okS s = true) (hl : ∀ x ∈ l, okS x = true) : Y.D.inn (.str s) (.lst (strL l)) = some (decide (s ∈ l)) :=
  Y.inn_lst (n := 0) (m := 0) (by rw [Y.nice_strS]; exact hs) (fun y hy => by
    obtain ⟨x, hx, rfl⟩ := List.mem_map.mp hy
    rw [Y.nice_strS]
    exact hl x hx) (by omega) (by omega) (map_mem (by simp))
theorem addN_ok : ∀ (us : List Tm) (l : List Str), (∀ x ∈ l, okS x = true) → (∀ u ∈ us, AskP u) → (∀ x ∈ addN l us, okS x = true) ∧ (addN l us).length ≤ l.length + us.length
  | [], l, h, _ => ⟨h, by simp [addN]⟩
  | u :: us, l, h, ha => by
    have hu := (ha u (by simp)).name
    unfold addN
    split
    · obtain ⟨h1, h2⟩ := addN_ok us l h fun v hv => ha v (by simp [hv])
      exact ⟨h1, by simp; omega⟩
    · obtain ⟨h1, h2⟩ := addN_ok us (l ++ [u.askN.1]) (fun x hx => by
        rcases List.mem_append.mp hx with z | z
        · exact h x z
        · rw [List.mem_singleton.mp z]; exact hu) fun v hv => ha v (by simp [hv])
      exact ⟨h1, by simp at h2 ⊢; omega⟩
theorem t_come_to (b : Bk) (hb : Bk.Ok b) (s : Str) (hs : okS s = true) (r : List Str) (e : comeLoop b 90 [s] 0 = some r) (k : Nat) (hk : 50 ≤ k) : Y.Gives (sm k f_come_to [Bk.enc b, .str s]) .ow (.lst (strL r)) := by
  obtain ⟨k, rfl⟩ : ∃ j, k = j + 2 := ⟨k - 2, by omega⟩
  have lp : ∀ (us : List Tm) (l : List Str) (fa : Bool) (turn : Nat) (o4 : Option (Y.D × Bool)), (∀ u ∈ us, AskP u) → (∀ x ∈ l, okS x = true) → l.length + us.length < 100000 → ∀ n, ∃ f2 o4', Y.forL (Y.forB (En k) (.one 4) n l2_come_to) (us.map Tm.enc) [some ⟨Bk.enc b, .fr, false⟩, some ⟨.str s, .fr, true⟩, some ⟨.lst (strL l), .ow, fa⟩, some ⟨.int turn, .fr, true⟩, Y.fro o4] =
      some (.ok (.nx, [some ⟨Bk.enc b, .fr, false⟩, some ⟨.str s, .fr, true⟩, some ⟨.lst (strL (addN l us)), .ow, f2⟩, some ⟨.int turn, .fr, true⟩, Y.fro o4'])) := by
    intro us
    induction us with
    | nil => exact fun l fa turn o4 _ _ _ n => ⟨fa, o4, by simp [addN]⟩
    | cons u us ih =>
      intro l fa turn o4 ha hl hlen n
      have hu := ha u (by simp)
      obtain ⟨vs, eu⟩ := hu.ex
      have hin := inn_str u.askN.1 l hu.name hl
      simp only [List.length_cons] at hlen
      have e2 : l.length < 100000 := by omega
      by_cases hm : u.askN.1 ∈ l
      · obtain ⟨f2, o4', h3⟩ := ih l fa turn (some (u.enc, n)) (fun v hv => ha v (by simp [hv])) hl (by omega) n
        refine ⟨f2, o4', ?_⟩
        have e3 := hin.trans (by rw [decide_eq_true hm])
        simp only [← Y.fro_some] at h3
        rw [eu] at h3
        simp only [List.map_cons, eu, addN, if_pos hm]
        simp only [l2_come_to] at h3
        simp [l2_come_to, e3, h3]
      · obtain ⟨f2, o4', h3⟩ := ih (l ++ [u.askN.1]) fa turn (some (u.enc, n)) (fun v hv => ha v (by simp [hv])) (fun x hx => by
          rcases List.mem_append.mp hx with z | z
          · exact hl x z
          · rw [List.mem_singleton.mp z]; exact hu.name) (by simp; omega) n
        refine ⟨f2, o4', ?_⟩
        have e3 := hin.trans (by rw [decide_eq_false hm])
        have e4 : strL (l ++ [u.askN.1]) = strL l ++ [.str u.askN.1] := by simp [strL]
        have e5 : (strL l).length < 100000 := by simp [strL]; omega
        simp only [← Y.fro_some, e4] at h3
        rw [eu] at h3
        simp only [List.map_cons, eu, addN, if_neg hm]
        simp only [l2_come_to] at h3
        simp [l2_come_to, e3, h3, e5]
  obtain ⟨fl, g1, hw, rfl, turn, fa, o4, rfl⟩ := Y.whileL_rule (t := Y.evT (En k) t1_come_to) (b := Y.evSs (En k) l3_come_to)
    (I := fun n g => ∃ (l : List Str) (turn : Nat) (fa : Bool) (o4 : Option (Y.D × Bool)), g = [some ⟨Bk.enc b, .fr, false⟩, some ⟨.str s, .fr, true⟩, some ⟨.lst (strL l), .ow, fa⟩, some ⟨.int turn, .fr, true⟩, Y.fro o4] ∧ comeLoop b n l turn = some r ∧ (∀ x ∈ l, okS x = true) ∧ l.length ≤ 1 + 1000 * turn ∧ turn + n = 90)
    (Q := fun fl g => fl = .nx ∧ ∃ (turn : Nat) (fa : Bool) (o4 : Option (Y.D × Bool)), g = [some ⟨Bk.enc b, .fr, false⟩, some ⟨.str s, .fr, true⟩, some ⟨.lst (strL r), .ow, fa⟩, some ⟨.int turn, .fr, true⟩, Y.fro o4])
    (fun n g hI => by
      obtain ⟨l, turn, fa, o4, rfl, hc, hl, hlen, hn⟩ := hI
      refine ⟨decide (turn < l.length), [some ⟨Bk.enc b, .fr, false⟩, some ⟨.str s, .fr, true⟩, some ⟨.lst (strL l), .ow, fa⟩, some ⟨.int turn, .fr, true⟩, Y.fro o4], by simp [Y.evT, t1_come_to, strL], fun hf => ?_, fun ht => ?_⟩
      · have hge : l.length ≤ turn := by simpa using hf
        cases n with
        | zero => cases hc
        | succ n =>
          unfold comeLoop at hc
          rw [List.getElem?_eq_none hge] at hc
          cases hc
          exact ⟨rfl, turn, fa, o4, rfl⟩
      · have hlt : turn < l.length := by simpa using ht
        cases n with
        | zero => cases hc
        | succ n =>
          unfold comeLoop at hc
          rw [List.getElem?_eq_getElem hlt] at hc
          dsimp only at hc
          cases q : Bk.fn b l[turn] with
          | none => rw [q] at hc; cases hc
          | some f =>
            rw [q] at hc
            have ho := Bk.fn_ok hb q
            have lk := look_bk b l[turn]
            rw [q] at lk
            simp only [Option.map_some] at lk
            obtain ⟨n1, h1⟩ := (t_asks_of f.body (k + 1) ho.wf ho.size (by have := ho.hgt; omega)).n
            have ha := asks_ask f.body ho.wf
            have hz := f.body.asks_le
            have hs2 := ho.size
            obtain ⟨f2, o4', h3⟩ := lp f.body.asks l fa turn o4 ha hl (by omega) n1
            obtain ⟨a1, a2⟩ := addN_ok f.body.asks l hl ha
            have e6 : atI (strL l) (turn : Int) = some (.str l[turn]) := by rw [Y.atI_nat]; simp [strL, hlt]
            refine ⟨n, .nx, [some ⟨Bk.enc b, .fr, false⟩, some ⟨.str s, .fr, true⟩, some ⟨.lst (strL (addN l f.body.asks)), .ow, f2⟩, some ⟨.int ((turn + 1 : Nat) : Int), .fr, true⟩, Y.fro o4'], rfl, ?_, _, _, _, _, rfl, hc, a1, by omega, by omega⟩
            simp [l3_come_to, h1, lk, h3, e6]) 90 Y.whileN [some ⟨Bk.enc b, .fr, false⟩, some ⟨.str s, .fr, true⟩, some ⟨.lst (strL [s]), .ow, true⟩, some ⟨.int (0 : Nat), .fr, true⟩, Y.fro none] ⟨[s], 0, true, none, rfl, e, by simpa using hs, by simp, by omega⟩ (by decide)
  simp only [← Y.fro_none, strL, List.map_cons, List.map_nil] at hw
  simp at hw
  rw [sem_come_to]
  simp [Y.gives_iff, b_come_to, hw, strL]
end Hd
set_option Elab.async false
set_option linter.all false
set_option maxRecDepth 100000
set_option maxHeartbeats 4000000
namespace Hd
open PySem PySem.Spec L2
/-! ## ties -/
abbrev Pc := Str × Nat
abbrev Tie := Nat × Pc × Bool
def encP (p : Pc) : Y.D := .tup [.str p.1, .int p.2]
def encTie (t : Tie) : Y.D := .tup [.int t.1, encP t.2.1, .bl t.2.2]
def kTies (g : Str) (c a : Nat) : List Kd → Nat → List Tie
  | [], _ => []
  | κ :: ks, th => (if κ.has c then [(a, (g, th), !decide (κ = .opn c))] else []) ++ kTies g c a ks (th + 1)
def tTies (c : Nat) : List Tm → Nat → List Tie
  | [], _ => []
  | t :: us, a => kTies t.askN.1 c a t.askN.2 0 ++ tTies c us (a + 1)
def tiesOf (f : Fu) (c : Nat) : List Tie := tTies c f.body.asks 0
theorem kTies_len (g : Str) (c a : Nat) : ∀ (ks : List Kd) (th : Nat), (kTies g c a ks th).length ≤ ks.length
  | [], _ => by simp [kTies]
  | κ :: ks, th => by
    have := kTies_len g c a ks (th + 1)
    simp only [kTies, List.length_append, List.length_cons]
    split <;> simp <;> omega
theorem tTies_len (c : Nat) : ∀ (us : List Tm) (a : Nat), (∀ u ∈ us, AskP u) → (tTies c us a).length ≤ 60 * us.length
  | [], _, _ => by simp [tTies]
  | u :: us, a, h => by
    have h1 := tTies_len c us (a + 1) fun v hv => h v (by simp [hv])
    have h2 := kTies_len u.askN.1 c a u.askN.2 0
    have h3 := (h u (by simp)).len
    simp only [tTies, List.length_append, List.length_cons]
    omega
theorem t_ties_from (b : Bk) (hb : Bk.Ok b) (s : Str) (c : Nat) (f : Fu) (hf : Bk.fn b s = some f) (k : Nat) (hk : 50 ≤ k) : Y.Gives (sm k f_ties_from [Bk.enc b, .str s, .int c]) .ow (.lst ((tiesOf f c).map encTie)) := by
  obtain ⟨k, rfl⟩ : ∃ j, k = j + 2 := ⟨k - 2, by omega⟩
  have ho := Bk.fn_ok hb hf
  have lk := look_bk b s
  rw [hf] at lk
  simp only [Option.map_some] at lk
  obtain ⟨n1, h1⟩ := (t_asks_of f.body (k + 1) ho.wf ho.size (by have := ho.hgt; omega)).n
  have ask := asks_ask f.body ho.wf
  have lpk : ∀ (u : Tm), AskP u → ∀ (ks : List Kd) (th a : Nat) (acc : List Tie) (fa nt : Bool) (o6 o7 : Option (Y.D × Bool)), (∀ κ ∈ ks, κ.dep ≤ 4) → acc.length + ks.length < 100000 → ∀ n, ∃ f2 o6' o7', Y.forL (Y.forB (En k) (.tup [6, 7]) n l1_ties_from) (enumF (encK ks) th)
      [some ⟨Bk.enc b, .fr, false⟩, some ⟨.str s, .fr, true⟩, some ⟨.int c, .fr, true⟩, some ⟨.lst (acc.map encTie), .ow, fa⟩, some ⟨.int a, .fr, true⟩, some ⟨u.enc, .fr, nt⟩, Y.fro o6, Y.fro o7] =
      some (.ok (.nx, [some ⟨Bk.enc b, .fr, false⟩, some ⟨.str s, .fr, true⟩, some ⟨.int c, .fr, true⟩, some ⟨.lst ((acc ++ kTies u.askN.1 c a ks th).map encTie), .ow, f2⟩, some ⟨.int a, .fr, true⟩, some ⟨u.enc, .fr, nt⟩, Y.fro o6', Y.fro o7'])) := by
    intro u hu ks
    obtain ⟨vs, eu⟩ := hu.ex
    induction ks with
    | nil => exact fun th a acc fa nt o6 o7 _ _ n => ⟨fa, o6, o7, by simp [kTies]⟩
    | cons κ ks ih =>
      intro th a acc fa nt o6 o7 hd hl n
      have hκ := hd κ (by simp)
      obtain ⟨n2, h2⟩ := (t_holds c κ (k + 1) (by omega)).n
      simp only [List.length_cons] at hl
      cases q : κ.has c with
      | false =>
        rw [q] at h2
        obtain ⟨f2, o6', o7', h3⟩ := ih (th + 1) a acc fa nt (some (.int th, true)) (some (κ.enc, n || κ.enc.atom)) (fun x hx => hd x (by simp [hx])) (by omega) n
        refine ⟨f2, o6', o7', ?_⟩
        simp only [← Y.fro_some, l1_ties_from] at h3
        simp [l1_ties_from, h2, kTies, q, h3]
      | true =>
        rw [q] at h2
        have e2 : Y.D.eqE κ.enc (.tup [.str "open", .int (c : Int)]) = some (decide (κ = .opn c)) := eq_kd (b := .opn c) (by omega) (by simp [Kd.dep])
        obtain ⟨f2, o6', o7', h3⟩ := ih (th + 1) a (acc ++ [(a, (u.askN.1, th), !decide (κ = .opn c))]) fa nt (some (.int th, true)) (some (κ.enc, n || κ.enc.atom)) (fun x hx => hd x (by simp [hx])) (by simp; omega) n
        refine ⟨f2, o6', o7', ?_⟩
        have e3 : acc.length < 100000 := by omega
        simp only [← Y.fro_some, l1_ties_from, List.map_append, List.map_cons, List.map_nil, encTie, encP, List.append_assoc, List.cons_append, List.nil_append] at h3
        rw [eu] at h3 ⊢
        simp [l1_ties_from, h2, kTies, q, e2, e3, encTie, encP]
        simpa [encTie, encP] using h3
  have lp : ∀ (us : List Tm) (a : Nat) (acc : List Tie) (fa : Bool) (o4 o5 o6 o7 : Option (Y.D × Bool)), (∀ u ∈ us, AskP u) → acc.length + 60 * us.length < 99000 → ∀ n, ∃ f2 o4' o5' o6' o7', Y.forL (Y.forB (En k) (.tup [4, 5]) n l2_ties_from) (enumF (us.map Tm.enc) a)
      [some ⟨Bk.enc b, .fr, false⟩, some ⟨.str s, .fr, true⟩, some ⟨.int c, .fr, true⟩, some ⟨.lst (acc.map encTie), .ow, fa⟩, Y.fro o4, Y.fro o5, Y.fro o6, Y.fro o7] =
      some (.ok (.nx, [some ⟨Bk.enc b, .fr, false⟩, some ⟨.str s, .fr, true⟩, some ⟨.int c, .fr, true⟩, some ⟨.lst ((acc ++ tTies c us a).map encTie), .ow, f2⟩, Y.fro o4', Y.fro o5', Y.fro o6', Y.fro o7'])) := by
    intro us
    induction us with
    | nil => exact fun a acc fa o4 o5 o6 o7 _ _ n => ⟨fa, o4, o5, o6, o7, by simp [tTies]⟩
    | cons u us ih =>
      intro a acc fa o4 o5 o6 o7 hm hl n
      have hu := hm u (by simp)
      obtain ⟨vs, eu⟩ := hu.ex
      have hlen := hu.len
      have hkt := kTies_len u.askN.1 c a u.askN.2 0
      simp only [List.length_cons] at hl
      obtain ⟨f1, o6', o7', h2⟩ := lpk u hu u.askN.2 0 a acc fa n o6 o7 hu.dep (by omega) n
      obtain ⟨f2, o4'', o5'', o6'', o7'', h3⟩ := ih (a + 1) (acc ++ kTies u.askN.1 c a u.askN.2 0) f1 (some (.int a, true)) (some (u.enc, n)) o6' o7' (fun v hv => hm v (by simp [hv])) (by simp; omega) n
      refine ⟨f2, o4'', o5'', o6'', o7'', ?_⟩
      simp only [← Y.fro_some, l2_ties_from, List.map_append, List.append_assoc] at h3
      simp only [List.map_append] at h2
      rw [eu] at h2 h3
      simp only [List.map_cons, eu]
      simp [l2_ties_from, enum_F, h2, h3, tTies]
  obtain ⟨f2, o4', o5', o6', o7', h3⟩ := lp f.body.asks 0 [] true none none none none ask (by have := ho.size; have := f.body.asks_le; simp; omega) n1
  simp only [← Y.fro_none] at h3
  simp only [List.map_nil, List.nil_append] at h3
  rw [sem_ties_from]
  simp [Y.gives_iff, b_ties_from, h1, lk, enum_F, h3, tiesOf]
end Hd
set_option Elab.async false
set_option linter.all false
set_option maxRecDepth 100000
set_option maxHeartbeats 4000000
namespace Hd
open PySem PySem.Spec L2
/-! ## ways -/
abbrev Tri := Str × Nat × Nat
abbrev Way := List Tri
def encT (t : Tri) : Y.D := .tup [.str t.1, .int t.2.1, .int t.2.2]
def encWay (w : Way) : Y.D := .lst (w.map encT)
abbrev Came := List (Pc × Way)
def kP (p : Pc) : List Key := [.inr p.1, .inl p.2]
def kC (c : Came) : List (List Key) := c.map fun (x : Pc × Way) => kP x.1
def vC (c : Came) : List Y.D := c.map fun (x : Pc × Way) => encWay x.2
def encCame (c : Came) : Y.D := .dctT (kC c) (vC c)
def cameGet (c : Came) (p : Pc) : Option Way := (c.find? fun x => decide (x.1 = p)).map (·.2)
theorem kP_inj {p q : Pc} : kP p = kP q ↔ p = q := by
  obtain ⟨a, i⟩ := p
  obtain ⟨b, j⟩ := q
  simp [kP]
  omega
theorem encP_inj {p q : Pc} : encP p = encP q ↔ p = q := by
  obtain ⟨a, i⟩ := p
  obtain ⟨b, j⟩ := q
  simp [encP]
  omega
theorem look_came (c : Came) (p : Pc) : Y.look (kC c) (vC c) (kP p) = (cameGet c p).map encWay := by
  induction c with
  | nil => rfl
  | cons x c ih =>
    simp only [kC, vC, cameGet, List.map_cons, Y.look_cons, List.find?_cons, kP_inj] at ih ⊢
    by_cases h : x.1 = p
    · simp [h]
    · simp [h, ih]
theorem keyT_P (p : Pc) : (encP p).keyT = some (kP p) := rfl
theorem idx_came (c : Came) (p : Pc) : Y.D.idx (encCame c) (encP p) = (cameGet c p).map encWay := by
  show (match (encP p).keyT with | some k => Y.look _ _ k | none => none) = _
  rw [keyT_P]
  exact look_came c p
theorem inn_came (c : Came) (p : Pc) : Y.D.inn (encP p) (encCame c) = some (cameGet c p).isSome := by
  show (match (encP p).keyT with | some k => some (Y.look (kC c) (vC c) k).isSome | none => none) = _
  rw [keyT_P]
  dsimp only
  rw [look_came]
  cases cameGet c p <;> rfl
theorem set_came (c : Came) (p : Pc) (w : Way) (h : cameGet c p = none) (hl : c.length < 100000) : Y.D.setI (encCame c) (encP p) (encWay w) = some (encCame (c ++ [(p, w)])) := by
  have e : (kC c).any (fun k => decide (k = kP p)) = false := by
    rw [List.any_eq_false]
    intro k hk
    obtain ⟨x, hx, rfl⟩ := List.mem_map.mp hk
    simp only [kP_inj, decide_eq_true_eq]
    intro hp
    unfold cameGet at h
    rw [Option.map_eq_none_iff, List.find?_eq_none] at h
    exact absurd hp (by simpa using h x hx)
  show (match (encP p).keyT with | some j => if (kC c).length < Y.lim ∧ (kC c).length = (vC c).length then some (Y.D.dctT (Y.setAll (kC c) (vC c) j (encWay w)).1 (Y.setAll (kC c) (vC c) j (encWay w)).2) else none | none => none) = _
  rw [keyT_P]
  dsimp only
  rw [if_pos ⟨by simp [kC]; omega, by simp [kC, vC]⟩]
  unfold Y.setAll
  rw [e]
  simp [encCame, kC, vC]
/-- the ties of a place; none: it is not known -/
def tieStep (p : Pc) (w : Way) : List Tie → Came → List Pc → Option (Came × List Pc)
  | [], c, m => some (c, m)
  | t :: ts, c, m => if (cameGet c t.2.1).isSome then tieStep p w ts c m else
      if c.length < 1000 ∧ m.length < 1000 ∧ w.length < 1000 then tieStep p w ts (c ++ [(t.2.1, w ++ [(p.1, p.2, t.1)])]) (m ++ [t.2.1]) else none
def placeLoop (b : Bk) (e : Pc) : List Pc → Came → List Pc → Option (Sum Way (Came × List Pc))
  | [], c, m => some (.inr (c, m))
  | p :: ps, c, m => if okS p.1 = true then (if p = e then (cameGet c p).map .inl else match Bk.fn b p.1, cameGet c p with
      | some f, some w => (match tieStep p w (tiesOf f p.2) c m with
        | some r => placeLoop b e ps r.1 r.2
        | none => none)
      | _, _ => none) else none
def wayLoop (b : Bk) (e : Pc) : Nat → Came → List Pc → Option (Option Way)
  | 0, _, _ => none
  | _ + 1, _, [] => some none
  | n + 1, c, p :: ps => if ((p :: ps).all fun q => okS q.1) = true then (match placeLoop b e (p :: ps) c [] with
    | none => none
    | some (.inl w) => some (some w)
    | some (.inr r) => wayLoop b e n r.1 r.2) else none
def wayTo (b : Bk) (s e : Pc) : Option (Option Way) := if okS e.1 = true then wayLoop b e 90 [(s, [])] [s] else none
def encOW : Option Way → Y.D
  | none => .non
  | some w => encWay w
theorem tieStep_get {p q : Pc} {w v : Way} : ∀ {ts : List Tie} {c : Came} {m : List Pc} {r : Came × List Pc}, tieStep p w ts c m = some r → cameGet c q = some v → cameGet r.1 q = some v
  | [], c, m, r, e, h => by cases e; exact h
  | t :: ts, c, m, r, e, h => by
    unfold tieStep at e
    split at e
    · exact tieStep_get e h
    · split at e
      · refine tieStep_get e ?_
        unfold cameGet at h ⊢
        rw [List.find?_append]
        cases q2 : c.find? (fun x => decide (x.1 = q)) with
        | none => rw [q2] at h; cases h
        | some x => rw [q2] at h; exact h
      · cases e
theorem eq_P {p q : Pc} (hp : okS p.1 = true) (hq : okS q.1 = true) : Y.D.eqE (encP p) (encP q) = some (decide (p = q)) :=
  Y.eqE_nice (n := 1) (m := 1) (by simp only [encP, Y.nice_tup, Y.niceL_cons, Y.nice_strS, Y.nice_int, Y.niceL_nil, Bool.and_true]; exact hp) (by simp only [encP, Y.nice_tup, Y.niceL_cons, Y.nice_strS, Y.nice_int, Y.niceL_nil, Bool.and_true]; exact hq) (by omega) (by omega) encP_inj
@[simp] theorem atom_P (p : Pc) : (encP p).atom = false := rfl
@[simp] theorem atom_came (c : Came) : (encCame c).atom = false := rfl
@[simp] theorem atom_way (w : Way) : (encWay w).atom = false := rfl
@[simp] theorem items_P (p : Pc) : Y.D.idx (encP p) (.int 0) = some (.str p.1) := rfl
@[simp] theorem items_P1 (p : Pc) : Y.D.idx (encP p) (.int 1) = some (.int p.2) := rfl
theorem bin_way (w : Way) (t : Tri) (h : w.length < 1000) : Y.D.bin .add (encWay w) (.lst [.tup [.str t.1, .int t.2.1, .int t.2.2]]) = some (encWay (w ++ [t])) := by
  have e : w.length + 1 ≤ 100000 := by omega
  simp [encWay, e, encT]
@[simp] theorem bySh_way (w : Way) (n : Bool) : Y.bySh (encWay w) n = ⟨encWay w, .ow, n⟩ := rfl
@[simp] theorem isN_way (w : Way) : (encWay w).isN = some false := rfl
section
variable (b : Bk) (hb : Bk.Ok b) (s e : Pc) (k : Nat)
/-- the slots of way_to -/
abbrev gW (c : Came) (fc : Bool) (s4 : Option Y.Sl) (m : List Pc) (fm : Bool) (o6 o7 o8 o9 : Option (Y.D × Bool)) : Y.G := [some ⟨Bk.enc b, .fr, false⟩, some ⟨encP s, .fr, false⟩, some ⟨encP e, .fr, false⟩, some ⟨encCame c, .ow, fc⟩, s4, some ⟨.lst (m.map encP), .ow, fm⟩, Y.fro o6, Y.fro o7, Y.fro o8, Y.fro o9]
theorem lp_tie (p : Pc) (w : Way) (np : Bool) (s4 : Option Y.Sl) : ∀ (ts : List Tie) (c : Came) (fc : Bool) (m : List Pc) (fm : Bool) (o7 o8 o9 : Option (Y.D × Bool)) (r : Came × List Pc), cameGet c p = some w → tieStep p w ts c m = some r → ∀ n, ∃ fc' fm' o7' o8' o9',
    Y.forL (Y.forB (En k) (.tup [7, 8, 9]) n l2_way_to) (ts.map encTie) (gW b s e c fc s4 m fm (some (encP p, np)) o7 o8 o9) = some (.ok (.nx, gW b s e r.1 fc' s4 r.2 fm' (some (encP p, np)) o7' o8' o9')) := by
  intro ts
  induction ts with
  | nil => intro c fc m fm o7 o8 o9 r _ h n; cases h; exact ⟨fc, fm, o7, o8, o9, rfl⟩
  | cons t ts ih =>
    intro c fc m fm o7 o8 o9 r hg h n
    obtain ⟨a, th, gr⟩ := t
    unfold tieStep at h
    have hin := inn_came c th
    by_cases q : (cameGet c th).isSome = true
    · rw [if_pos q] at h
      rw [q] at hin
      obtain ⟨fc', fm', o7', o8', o9', h3⟩ := ih c fc m fm (some (.int a, true)) (some (encP th, n)) (some (.bl gr, true)) r hg h n
      refine ⟨fc', fm', o7', o8', o9', ?_⟩
      simp only [gW, ← Y.fro_some, l2_way_to] at h3
      simp [gW, ← Y.fro_some, l2_way_to, encTie, hin, h3]
    · rw [if_neg q] at h
      have qn : cameGet c th = none := by simpa using q
      split at h
      · rename_i hl
        have hin2 : Y.D.inn (encP th) (encCame c) = some false := by rw [hin, qn] <;> rfl
        have hset := set_came c th (w ++ [(p.1, p.2, a)]) qn (by omega)
        have hbin := bin_way w (p.1, p.2, a) hl.2.2
        have hidx := (idx_came c p).trans (by rw [hg] <;> rfl)
        have hg2 : cameGet (c ++ [(th, w ++ [(p.1, p.2, a)])]) p = some w := by
          unfold cameGet at hg ⊢
          rw [List.find?_append]
          cases q2 : c.find? (fun x => decide (x.1 = p)) with
          | none => rw [q2] at hg; cases hg
          | some x => rw [q2] at hg; exact hg
        have e5 : m.length < 100000 := by omega
        obtain ⟨fc', fm', o7', o8', o9', h3⟩ := ih (c ++ [(th, w ++ [(p.1, p.2, a)])]) fc (m ++ [th]) (fm && n) (some (.int a, true)) (some (encP th, n)) (some (.bl gr, true)) r hg2 h n
        refine ⟨fc', fm', o7', o8', o9', ?_⟩
        simp only [gW, ← Y.fro_some, l2_way_to, List.map_append, List.map_cons, List.map_nil] at h3
        simp [gW, ← Y.fro_some, l2_way_to, encTie, hin2, hidx, hbin, hset, e5, h3]
      · cases h
include hb in
theorem lp_place (hk : 52 ≤ k) (he : okS e.1 = true) (s4 : Option Y.Sl) : ∀ (ps : List Pc) (c : Came) (fc : Bool) (m : List Pc) (fm : Bool) (o6 o7 o8 o9 : Option (Y.D × Bool)) (r : Sum Way (Came × List Pc)), placeLoop b e ps c m = some r → ∀ n, (match r with
    | .inr r => ∃ fc' fm' o6' o7' o8' o9', Y.forL (Y.forB (En k) (.one 6) n l3_way_to) (ps.map encP) (gW b s e c fc s4 m fm o6 o7 o8 o9) = some (.ok (.nx, gW b s e r.1 fc' s4 r.2 fm' o6' o7' o8' o9'))
    | .inl w => Y.rtD (Y.forL (Y.forB (En k) (.one 6) n l3_way_to) (ps.map encP) (gW b s e c fc s4 m fm o6 o7 o8 o9)) = some (.ok (encWay w, .fr))) := by
  intro ps
  induction ps with
  | nil => intro c fc m fm o6 o7 o8 o9 r h n; cases h; exact ⟨fc, fm, o6, o7, o8, o9, rfl⟩
  | cons p ps ih =>
    intro c fc m fm o6 o7 o8 o9 r h n
    unfold placeLoop at h
    split at h
    · rename_i hp
      have heq := eq_P hp he
      split at h
      · rename_i hpe
        have heq2 := heq.trans (by rw [decide_eq_true hpe])
        cases q : cameGet c p with
        | none => rw [q] at h; cases h
        | some w =>
          rw [q] at h
          cases h
          have hidx := (idx_came c p).trans (by rw [q] <;> rfl)
          simp [gW, l3_way_to, heq2, hidx]
      · rename_i hpe
        have heq2 := heq.trans (by rw [decide_eq_false hpe])
        split at h
        · rename_i f w hf hw
          split at h
          · rename_i r1 ht
            obtain ⟨n1, h1⟩ := (t_ties_from b hb p.1 p.2 f hf (k + 1) (by omega)).n
            obtain ⟨fc1, fm1, o71, o81, o91, h2⟩ := lp_tie b s e k p w n s4 (tiesOf f p.2) c fc m fm o7 o8 o9 r1 hw ht n1
            have h3 := ih r1.1 fc1 r1.2 fm1 (some (encP p, n)) o71 o81 o91 r h n
            simp only [gW, ← Y.fro_some] at h2 h3
            cases r with
            | inl w' =>
              obtain ⟨n3, g3, h4⟩ := Y.rtD_iff h3
              simp only [l3_way_to] at h4
              simp [gW, l3_way_to, heq2, h1, h2, h4]
            | inr r' =>
              obtain ⟨fc', fm', o6', o7', o8', o9', h4⟩ := h3
              refine ⟨fc', fm', o6', o7', o8', o9', ?_⟩
              simp only [l3_way_to] at h4
              simp [gW, l3_way_to, heq2, h1, h2, h4]
          · cases h
        · cases h
    · cases h
def wayQ (r : Option Way) (fl : Y.Fl) (g : Y.G) : Prop := match r with
  | none => fl = .nx ∧ ∃ a g', g = a :: g'
  | some w => ∃ n, fl = .rt ⟨encWay w, .fr, n⟩
include hb in
theorem t_way_to (r : Option Way) (h : wayTo b s e = some r) (hs : okS s.1 = true) (hk : 56 ≤ k) : Y.Gives (sm k f_way_to [Bk.enc b, encP s, encP e]) .fr (encOW r) := by
  obtain ⟨k, rfl⟩ : ∃ j, k = j + 2 := ⟨k - 2, by omega⟩
  unfold wayTo at h
  split at h
  · rename_i he
    obtain ⟨fl, g1, hw, hq⟩ := Y.whileL_rule (t := Y.evT (En k) t1_way_to) (b := Y.evSs (En k) l4_way_to)
      (I := fun n g => ∃ (c : Came) (fc : Bool) (t : List Pc) (m4 : Y.Mode) (f4 : Bool) (o5 o6 o7 o8 o9 : Option (Y.D × Bool)), g = [some ⟨Bk.enc b, .fr, false⟩, some ⟨encP s, .fr, false⟩, some ⟨encP e, .fr, false⟩, some ⟨encCame c, .ow, fc⟩, some ⟨.lst (t.map encP), m4, f4⟩, Y.fro o5, Y.fro o6, Y.fro o7, Y.fro o8, Y.fro o9] ∧ (m4 = .fr ∨ m4 = .ow) ∧ wayLoop b e n c t = some r)
      (Q := wayQ r)
      (fun n g hI => by
        obtain ⟨c, fc, t, m4, f4, o5, o6, o7, o8, o9, rfl, hm, hc⟩ := hI
        cases n with
        | zero => cases hc
        | succ n =>
          cases t with
          | nil =>
            cases hc
            have e0 : Y.D.eqE (.lst []) (.lst []) = some true := (Y.eqE_nice (n := 1) (m := 1) (P := True) (by simp) (by simp) (by omega) (by omega) (by simp))
            exact ⟨false, [some ⟨Bk.enc b, .fr, false⟩, some ⟨encP s, .fr, false⟩, some ⟨encP e, .fr, false⟩, some ⟨encCame c, .ow, fc⟩, some ⟨.lst [], m4, f4⟩, Y.fro o5, Y.fro o6, Y.fro o7, Y.fro o8, Y.fro o9], by simp [Y.evT, t1_way_to, e0], fun _ => ⟨rfl, _, _, rfl⟩, fun z => by cases z⟩
          | cons p ps =>
            unfold wayLoop at hc
            split at hc
            · rename_i hall
              have e0 : Y.D.eqE (.lst ((p :: ps).map encP)) (.lst []) = some false := (Y.eqE_nice (n := 2) (m := 1) (P := False) (by
                rw [Y.nice_lst, Y.niceL_all]
                intro y hy
                obtain ⟨q, hq, rfl⟩ := List.mem_map.mp hy
                have := List.all_eq_true.mp hall q hq
                simp only [encP, Y.nice_tup, Y.niceL_cons, Y.nice_strS, Y.nice_int, Y.niceL_nil, Bool.and_true]; exact this) (by simp) (by omega) (by omega) (by simp))
              simp only [List.map_cons] at e0
              refine ⟨true, [some ⟨Bk.enc b, .fr, false⟩, some ⟨encP s, .fr, false⟩, some ⟨encP e, .fr, false⟩, some ⟨encCame c, .ow, fc⟩, some ⟨.lst ((p :: ps).map encP), m4, f4⟩, Y.fro o5, Y.fro o6, Y.fro o7, Y.fro o8, Y.fro o9], by simp [Y.evT, t1_way_to, e0], fun z => (by cases z), fun _ => ?_⟩
              cases q : placeLoop b e (p :: ps) c [] with
              | none => rw [q] at hc; cases hc
              | some x =>
                rw [q] at hc
                cases x with
                | inl w =>
                  cases hc
                  rcases hm with rfl | rfl
                  · have h3 := lp_place b hb s e k (by omega) he (some ⟨.lst ((p :: ps).map encP), .fr, f4⟩) (p :: ps) c fc [] true o6 o7 o8 o9 _ q f4
                    obtain ⟨n3, g3, h4⟩ := Y.rtD_iff h3
                    simp only [gW, List.map_nil, List.map_cons] at h4
                    exact ⟨n, .rt ⟨encWay w, .fr, n3⟩, g3, rfl, by simp [l4_way_to, h4], ⟨n3, rfl⟩⟩
                  · have h3 := lp_place b hb s e k (by omega) he (some ⟨.lst ((p :: ps).map encP), .fr, f4⟩) (p :: ps) c fc [] true o6 o7 o8 o9 _ q f4
                    obtain ⟨n3, g3, h4⟩ := Y.rtD_iff h3
                    simp only [gW, List.map_nil, List.map_cons] at h4
                    exact ⟨n, .rt ⟨encWay w, .fr, n3⟩, g3, rfl, by simp [l4_way_to, h4], ⟨n3, rfl⟩⟩
                | inr x =>
                  rcases hm with rfl | rfl
                  · obtain ⟨fc', fm', o6', o7', o8', o9', h4⟩ := lp_place b hb s e k (by omega) he (some ⟨.lst ((p :: ps).map encP), .fr, f4⟩) (p :: ps) c fc [] true o6 o7 o8 o9 _ q f4
                    simp only [gW, List.map_nil, List.map_cons] at h4
                    refine ⟨n, .nx, [some ⟨Bk.enc b, .fr, false⟩, some ⟨encP s, .fr, false⟩, some ⟨encP e, .fr, false⟩, some ⟨encCame x.1, .ow, fc'⟩, some ⟨.lst (x.2.map encP), .fr, fm'⟩, some ⟨.lst (x.2.map encP), .fr, fm'⟩, Y.fro o6', Y.fro o7', Y.fro o8', Y.fro o9'], rfl, by simp [l4_way_to, h4], x.1, fc', x.2, .fr, fm', some (.lst (x.2.map encP), fm'), o6', o7', o8', o9', rfl, .inl rfl, hc⟩
                  · obtain ⟨fc', fm', o6', o7', o8', o9', h4⟩ := lp_place b hb s e k (by omega) he (some ⟨.lst ((p :: ps).map encP), .fr, f4⟩) (p :: ps) c fc [] true o6 o7 o8 o9 _ q f4
                    simp only [gW, List.map_nil, List.map_cons] at h4
                    refine ⟨n, .nx, [some ⟨Bk.enc b, .fr, false⟩, some ⟨encP s, .fr, false⟩, some ⟨encP e, .fr, false⟩, some ⟨encCame x.1, .ow, fc'⟩, some ⟨.lst (x.2.map encP), .fr, fm'⟩, some ⟨.lst (x.2.map encP), .fr, fm'⟩, Y.fro o6', Y.fro o7', Y.fro o8', Y.fro o9'], rfl, by simp [l4_way_to, h4], x.1, fc', x.2, .fr, fm', some (.lst (x.2.map encP), fm'), o6', o7', o8', o9', rfl, .inl rfl, hc⟩
            · cases hc) 90 Y.whileN [some ⟨Bk.enc b, .fr, false⟩, some ⟨encP s, .fr, false⟩, some ⟨encP e, .fr, false⟩, some ⟨encCame [(s, [])], .ow, true⟩, some ⟨.lst ([s].map encP), .ow, false⟩, Y.fro none, Y.fro none, Y.fro none, Y.fro none, Y.fro none] ⟨[(s, [])], true, [s], .ow, false, none, none, none, none, none, rfl, .inr rfl, h⟩ (by decide)
    have hset : Y.D.setI (.dctT [] []) (encP s) (.lst []) = some (encCame [(s, [])]) := set_came [] s [] rfl (by simp)
    simp only [← Y.fro_none, List.map_cons, List.map_nil] at hw
    rw [sem_way_to]
    cases r with
    | none =>
      obtain ⟨rfl, a, g', rfl⟩ := hq
      simp [Y.gives_iff, b_way_to, hset, hw, encOW]
    | some w =>
      obtain ⟨n, rfl⟩ := hq
      simp [Y.gives_iff, b_way_to, hset, hw, encOW]
  · cases h
end
end Hd
set_option Elab.async false
set_option linter.all false
set_option maxRecDepth 100000
set_option maxHeartbeats 4000000
namespace Hd
open PySem PySem.Spec L2
/-! ## a ring that grows; none: it is not known -/
def ringTies (b : Bk) (p : Pc) : List Tie → Option (Option Way)
  | [] => some none
  | t :: ts => if t.2.2 = true then (if okS t.2.1.1 = true then (match wayTo b t.2.1 p with
      | none => none
      | some none => ringTies b p ts
      | some (some w) => if w.length < 1000 then some (some ((p.1, p.2, t.1) :: w)) else none) else none) else ringTies b p ts
def ringCounts (b : Bk) (s : Str) (f : Fu) : List Nat → Option (Option Way)
  | [] => some none
  | c :: cs => match ringTies b (s, c) (tiesOf f c) with
    | none => none
    | some none => ringCounts b s f cs
    | some (some w) => some (some w)
def ringNames (b : Bk) : List Str → Option (Option Way)
  | [] => some none
  | s :: ss => match Bk.fn b s with
    | none => none
    | some f => if f.opens ≤ 60 then (match ringCounts b s f (List.range f.opens) with
      | none => none
      | some none => ringNames b ss
      | some (some w) => some (some w)) else none
def growing (b : Bk) (s : Str) : Option (Option Way) := match comeLoop b 90 [s] 0 with
  | none => none
  | some l => ringNames b l
def owW : Option Way → Y.Mode
  | none => .fr
  | some _ => .ow
def Gq (r : Option Way) (g0 : Y.G) (m : Y.M (Y.Fl × Y.G)) (P : Y.G → Prop) : Prop := match r with
  | none => ∃ g, m = some (.ok (.nx, g)) ∧ P g
  | some w => Y.rtD m = some (.ok (encWay w, .ow))
theorem rngL_nat (n : Nat) : Y.rngL 0 n 1 = (List.range n).map fun (k : Nat) => .int (k : Int) := by
  simp [Y.rngL]
theorem rng_ok (n : Nat) (h : n ≤ 60) : Y.rngOk (n : Int) = true := by
  simp [Y.rngOk]; omega
theorem for_it {E : Y.Ev} {tg : Y.Tg} {k : Y.ItK} {its : List Y.C} {body : List Y.S} {a0 : Option Y.Sl} {g0 g1 : Y.G} {ss : List Y.Sl} {items : List Y.D} {n : Bool} (hv : Y.evV E its (a0 :: g0) = some (.ok (ss, g1))) (hi : Y.itemsK k ss = some (items, n)) :
    Y.evS E (.for_ tg k its body) (a0 :: g0) = Y.M.nox (Y.forL (Y.forB E tg n body) items g1) := by
  rw [Y.s_forB, hv, Y.bnd_ok]
  dsimp only
  rw [hi]
theorem hi1 (n : Nat) (ho : n ≤ 60) : (if Y.rngOk (n : Int) = true then some (Y.rngL 0 (n : Int).toNat 1, true) else none) = some ((List.range n).map fun (c : Nat) => .int (c : Int), true) := by
  rw [if_pos (rng_ok n ho), Int.toNat_natCast, rngL_nat]
theorem hi2 (n : Nat) (ho : n ≤ 60) : Y.itemsK .rng1 [⟨.int (n : Int), .fr, true⟩] = some ((List.range n).map fun (c : Nat) => .int (c : Int), true) :=
  (Y.itemsK_rng (n : Int) .fr true).trans (hi1 n ho)
section
variable (b : Bk) (hb : Bk.Ok b) (s0 : Str) (k : Nat)
include hb
theorem lp_rt (hk : 58 ≤ k) (p : Pc) (hp : okS p.1 = true) : ∀ (ts : List Tie) (r : Option Way) (o4 o5 o6 o7 : Option (Y.D × Bool)), ringTies b p ts = some r → ∀ n, (match r with
    | none => ∃ o4' o5' o6' o7', Y.forL (Y.forB (En k) (.tup [4, 5, 6]) n l1_growing_ring) (ts.map encTie) [some ⟨Bk.enc b, .fr, false⟩, some ⟨.str s0, .fr, true⟩, some ⟨.str p.1, .fr, true⟩, some ⟨.int p.2, .fr, true⟩, Y.fro o4, Y.fro o5, Y.fro o6, Y.fro o7] =
        some (.ok (.nx, [some ⟨Bk.enc b, .fr, false⟩, some ⟨.str s0, .fr, true⟩, some ⟨.str p.1, .fr, true⟩, some ⟨.int p.2, .fr, true⟩, Y.fro o4', Y.fro o5', Y.fro o6', Y.fro o7']))
    | some w => Y.rtD (Y.forL (Y.forB (En k) (.tup [4, 5, 6]) n l1_growing_ring) (ts.map encTie) [some ⟨Bk.enc b, .fr, false⟩, some ⟨.str s0, .fr, true⟩, some ⟨.str p.1, .fr, true⟩, some ⟨.int p.2, .fr, true⟩, Y.fro o4, Y.fro o5, Y.fro o6, Y.fro o7]) = some (.ok (encWay w, .ow))) := by
  intro ts
  induction ts with
  | nil => intro r o4 o5 o6 o7 h n; cases h; exact ⟨o4, o5, o6, o7, rfl⟩
  | cons t ts ih =>
    intro r o4 o5 o6 o7 h n
    obtain ⟨a, th, gr⟩ := t
    unfold ringTies at h
    cases gr with
    | false =>
      simp only [Bool.false_eq_true, if_false] at h
      have h3 := ih r (some (.int a, true)) (some (encP th, n)) (some (.bl false, true)) (some (.non, true)) h n
      simp only [← Y.fro_some] at h3
      cases r with
      | none =>
        obtain ⟨o4', o5', o6', o7', h4⟩ := h3
        refine ⟨o4', o5', o6', o7', ?_⟩
        simp only [l1_growing_ring] at h4
        simp [l1_growing_ring, encTie, h4]
      | some w =>
        obtain ⟨n3, g3, h4⟩ := Y.rtD_iff h3
        simp only [l1_growing_ring] at h4
        simp [l1_growing_ring, encTie, h4]
    | true =>
      simp only [if_true] at h
      split at h
      · rename_i hth
        have ep : (Y.D.tup [.str p.1, .int (p.2 : Int)]) = encP p := rfl
        cases q : wayTo b th p with
        | none => rw [q] at h; cases h
        | some x =>
          rw [q] at h
          obtain ⟨n1, h1⟩ := (t_way_to b hb th p (k + 1) x q hth (by omega)).n
          rw [← ep] at h1
          cases x with
          | none =>
            have h3 := ih r (some (.int a, true)) (some (encP th, n)) (some (.bl true, true)) (some (.non, true)) h n
            simp only [← Y.fro_some] at h3
            simp only [encOW] at h1
            cases r with
            | none =>
              obtain ⟨o4', o5', o6', o7', h4⟩ := h3
              refine ⟨o4', o5', o6', o7', ?_⟩
              simp only [l1_growing_ring] at h4
              simp [l1_growing_ring, encTie, h1, h4]
            | some w =>
              obtain ⟨n3, g3, h4⟩ := Y.rtD_iff h3
              simp only [l1_growing_ring] at h4
              simp [l1_growing_ring, encTie, h1, h4]
          | some w =>
            dsimp only at h
            split at h
            · rename_i hl
              cases h
              have e1 : 1 + w.length ≤ 100000 := by omega
              have e2 : Y.D.bin .add (.lst [.tup [.str p.1, .int (p.2 : Int), .int (a : Int)]]) (encWay w) = some (encWay ((p.1, p.2, a) :: w)) := by simp [encWay, e1, encT]
              simp only [encOW] at h1
              simp [l1_growing_ring, encTie, h1, e2]
            · cases h
      · cases h
theorem lp_rc (hk : 58 ≤ k) (s : Str) (f : Fu) (hs : okS s = true) (hf : Bk.fn b s = some f) : ∀ (cs : List Nat) (r : Option Way) (o3 o4 o5 o6 o7 : Option (Y.D × Bool)), ringCounts b s f cs = some r → ∀ n, (match r with
    | none => ∃ o3' o4' o5' o6' o7', Y.forL (Y.forB (En k) (.one 3) n l2_growing_ring) (cs.map fun (c : Nat) => .int (c : Int)) [some ⟨Bk.enc b, .fr, false⟩, some ⟨.str s0, .fr, true⟩, some ⟨.str s, .fr, true⟩, Y.fro o3, Y.fro o4, Y.fro o5, Y.fro o6, Y.fro o7] =
        some (.ok (.nx, [some ⟨Bk.enc b, .fr, false⟩, some ⟨.str s0, .fr, true⟩, some ⟨.str s, .fr, true⟩, Y.fro o3', Y.fro o4', Y.fro o5', Y.fro o6', Y.fro o7']))
    | some w => Y.rtD (Y.forL (Y.forB (En k) (.one 3) n l2_growing_ring) (cs.map fun (c : Nat) => .int (c : Int)) [some ⟨Bk.enc b, .fr, false⟩, some ⟨.str s0, .fr, true⟩, some ⟨.str s, .fr, true⟩, Y.fro o3, Y.fro o4, Y.fro o5, Y.fro o6, Y.fro o7]) = some (.ok (encWay w, .ow))) := by
  intro cs
  induction cs with
  | nil => intro r o3 o4 o5 o6 o7 h n; cases h; exact ⟨o3, o4, o5, o6, o7, rfl⟩
  | cons c cs ih =>
    intro r o3 o4 o5 o6 o7 h n
    obtain ⟨n1, h1⟩ := (t_ties_from b hb s c f hf (k + 1) (by omega)).n
    unfold ringCounts at h
    cases q : ringTies b (s, c) (tiesOf f c) with
    | none => rw [q] at h; cases h
    | some x =>
      rw [q] at h
      have h2 := lp_rt b hb s0 k hk (s, c) hs (tiesOf f c) x o4 o5 o6 o7 q n1
      cases x with
      | some w =>
        cases h
        obtain ⟨n3, g3, h4⟩ := Y.rtD_iff h2
        simp [l2_growing_ring, h1, h4]
      | none =>
        obtain ⟨o4', o5', o6', o7', h4⟩ := h2
        have h3 := ih r (some (.int c, true)) o4' o5' o6' o7' h n
        simp only [← Y.fro_some] at h3
        cases r with
        | none =>
          obtain ⟨a3, a4, a5, a6, a7, h5⟩ := h3
          refine ⟨a3, a4, a5, a6, a7, ?_⟩
          simp only [l2_growing_ring] at h5
          simp [l2_growing_ring, h1, h4, h5]
        | some w =>
          obtain ⟨n3, g3, h5⟩ := Y.rtD_iff h3
          simp only [l2_growing_ring] at h5
          simp [l2_growing_ring, h1, h4, h5]
theorem for_rng (s : Str) (f : Fu) (hf : Bk.fn b s = some f) (ho : f.opens ≤ 60) (o3 o4 o5 o6 o7 : Option Y.Sl) : Y.evSs (En k) l3_growing_ring [some ⟨Bk.enc b, .fr, false⟩, some ⟨.str s0, .fr, true⟩, some ⟨.str s, .fr, true⟩, o3, o4, o5, o6, o7] =
    Y.M.bnd (Y.M.nox (Y.forL (Y.forB (En k) (.one 3) true l2_growing_ring) ((List.range f.opens).map fun (c : Nat) => .int (c : Int)) [some ⟨Bk.enc b, .fr, false⟩, some ⟨.str s0, .fr, true⟩, some ⟨.str s, .fr, true⟩, o3, o4, o5, o6, o7])) fun (fl, g1) => match fl with
      | .nx => Y.evSs (En k) [] g1
      | fl => some (.ok (fl, g1)) := by
  have lk := look_bk b s
  rw [hf] at lk
  simp only [Option.map_some] at lk
  have hv : Y.evV (En k) [.att (.idx (.att (.var 0) "table") (.var 2)) "opens"] [some ⟨Bk.enc b, .fr, false⟩, some ⟨.str s0, .fr, true⟩, some ⟨.str s, .fr, true⟩, o3, o4, o5, o6, o7] = some (.ok ([⟨.int (f.opens : Int), .fr, true⟩], [some ⟨Bk.enc b, .fr, false⟩, some ⟨.str s0, .fr, true⟩, some ⟨.str s, .fr, true⟩, o3, o4, o5, o6, o7])) := by
    simp [lk]
  rw [l3_growing_ring, Y.ss_cons, for_it hv (hi2 f.opens ho)] <;> rfl
theorem lp_rn (hk : 58 ≤ k) : ∀ (ss : List Str) (r : Option Way) (o2 o3 o4 o5 o6 o7 : Option (Y.D × Bool)), (∀ s ∈ ss, okS s = true) → ringNames b ss = some r → ∀ n, (match r with
    | none => ∃ o2' o3' o4' o5' o6' o7', Y.forL (Y.forB (En k) (.one 2) n l3_growing_ring) (strL ss) [some ⟨Bk.enc b, .fr, false⟩, some ⟨.str s0, .fr, true⟩, Y.fro o2, Y.fro o3, Y.fro o4, Y.fro o5, Y.fro o6, Y.fro o7] =
        some (.ok (.nx, [some ⟨Bk.enc b, .fr, false⟩, some ⟨.str s0, .fr, true⟩, Y.fro o2', Y.fro o3', Y.fro o4', Y.fro o5', Y.fro o6', Y.fro o7']))
    | some w => Y.rtD (Y.forL (Y.forB (En k) (.one 2) n l3_growing_ring) (strL ss) [some ⟨Bk.enc b, .fr, false⟩, some ⟨.str s0, .fr, true⟩, Y.fro o2, Y.fro o3, Y.fro o4, Y.fro o5, Y.fro o6, Y.fro o7]) = some (.ok (encWay w, .ow))) := by
  intro ss
  induction ss with
  | nil => intro r o2 o3 o4 o5 o6 o7 _ h n; cases h; exact ⟨o2, o3, o4, o5, o6, o7, rfl⟩
  | cons s ss ih =>
    intro r o2 o3 o4 o5 o6 o7 hs h n
    unfold ringNames at h
    cases hf : Bk.fn b s with
    | none => rw [hf] at h; cases h
    | some f =>
      rw [hf] at h
      dsimp only at h
      split at h
      · rename_i ho
        have hfor := for_rng b hb s0 k s f hf ho
        cases q : ringCounts b s f (List.range f.opens) with
        | none => rw [q] at h; cases h
        | some x =>
          rw [q] at h
          have h2 := lp_rc b hb s0 k hk s f (hs s (by simp)) hf (List.range f.opens) x o3 o4 o5 o6 o7 q true
          cases x with
          | some w =>
            cases h
            obtain ⟨n3, g3, h4⟩ := Y.rtD_iff h2
            simp [strL, hfor, h4]
          | none =>
            obtain ⟨o3', o4', o5', o6', o7', h4⟩ := h2
            have h3 := ih r (some (.str s, true)) o3' o4' o5' o6' o7' (fun v hv => hs v (by simp [hv])) h n
            simp only [← Y.fro_some, strL] at h3
            cases r with
            | none =>
              obtain ⟨a2, a3, a4, a5, a6, a7, h5⟩ := h3
              refine ⟨a2, a3, a4, a5, a6, a7, ?_⟩
              simp [strL, hfor, h4, h5]
            | some w =>
              obtain ⟨n3, g3, h5⟩ := Y.rtD_iff h3
              simp [strL, hfor, h4, h5]
      · cases h
end
theorem comeLoop_ok {b : Bk} (hb : Bk.Ok b) : ∀ (n : Nat) (l : List Str) (t : Nat) (r : List Str), (∀ x ∈ l, okS x = true) → comeLoop b n l t = some r → ∀ x ∈ r, okS x = true
  | 0, _, _, _, _, h => by cases h
  | n + 1, l, t, r, hl, h => by
    unfold comeLoop at h
    split at h
    · cases h; exact hl
    · split at h
      · cases h
      · rename_i f hf
        exact comeLoop_ok hb n _ _ r (addN_ok f.body.asks l hl (asks_ask f.body (Bk.fn_ok hb hf).wf)).1 h
theorem t_growing_ring (b : Bk) (hb : Bk.Ok b) (s : Str) (hs : okS s = true) (r : Option Way) (h : growing b s = some r) (k : Nat) (hk : 60 ≤ k) : Y.Gives (sm k f_growing_ring [Bk.enc b, .str s]) (owW r) (encOW r) := by
  obtain ⟨k, rfl⟩ : ∃ j, k = j + 2 := ⟨k - 2, by omega⟩
  unfold growing at h
  cases q : comeLoop b 90 [s] 0 with
  | none => rw [q] at h; cases h
  | some l =>
    rw [q] at h
    obtain ⟨n1, h1⟩ := (t_come_to b hb s hs l q (k + 1) (by omega)).n
    have h2 := lp_rn b hb s k (by omega) l r none none none none none none (comeLoop_ok hb 90 [s] 0 l (by simpa using hs) q) h n1
    simp only [← Y.fro_none] at h2
    rw [sem_growing_ring]
    cases r with
    | none =>
      obtain ⟨a2, a3, a4, a5, a6, a7, h5⟩ := h2
      simp [Y.gives_iff, b_growing_ring, h1, h5, encOW, owW]
    | some w =>
      obtain ⟨n3, g3, h5⟩ := Y.rtD_iff h2
      simp [Y.gives_iff, b_growing_ring, h1, h5, encOW, owW]
end Hd
set_option Elab.async false
set_option linter.all false
set_option maxRecDepth 100000
set_option maxHeartbeats 4000000
namespace Hd
open PySem PySem.Spec L2
/-! ## copies -/
theorem t_copied : ∀ (n : Nat) (d : Y.D) (k : Nat), Y.D.cop n d = true → n + 2 ≤ k → sm k f_copied [d] = some (.ok (⟨d, d.copMode, true⟩, none)) := by
  intro n
  induction n with
  | zero =>
    intro d k hc hk
    obtain ⟨k, rfl⟩ : ∃ j, k = j + 2 := ⟨k - 2, by omega⟩
    rw [sem_copied]
    cases d <;> simp [Y.D.cop] at hc <;> simp [b_copied, Y.D.copMode]
  | succ n ih =>
    intro d k hc hk
    obtain ⟨k, rfl⟩ : ∃ j, k = j + 2 := ⟨k - 2, by omega⟩
    rw [sem_copied]
    cases d with
    | non => simp [b_copied, Y.D.copMode]
    | bl b => simp [b_copied, Y.D.copMode]
    | int b => simp [b_copied, Y.D.copMode]
    | str b => simp [b_copied, Y.D.copMode]
    | lst xs =>
      simp only [Y.cop_lst, Bool.and_eq_true, decide_eq_true_eq] at hc
      have q := Y.comp1_n (E := En k) (i := 1) (c := .var 0) (elt := .call f_copied [.var 1]) (dl := .lst xs) (m := .fr) (n := false) (g := [some ⟨.lst xs, .fr, false⟩, none]) xs id id (by simp) (by simp) (by simp) (by simp) (by simp; exact hc.1) (fun x hx nf hnf => by
        have h1 := ih x (k + 1) (Y.copL_all.mp hc.2 x hx) (by omega)
        exact ⟨x.copMode, by simp [h1]⟩)
      rw [show Y.C.comp [1] (.one 1) .any [.var 0] none (.call f_copied [.var 1]) = q1_copied from rfl] at q
      simp [b_copied, q, Y.D.copMode]
    | tup xs =>
      simp only [Y.cop_tup, Bool.and_eq_true, decide_eq_true_eq] at hc
      have q := Y.comp1_n (E := En k) (i := 1) (c := .var 0) (elt := .call f_copied [.var 1]) (dl := .tup xs) (m := .fr) (n := false) (g := [some ⟨.tup xs, .fr, false⟩, none]) xs id id (by simp) (by simp) (by simp) (by simp) (by simp; exact hc.1) (fun x hx nf hnf => by
        have h1 := ih x (k + 1) (Y.copL_all.mp hc.2 x hx) (by omega)
        exact ⟨x.copMode, by simp [h1]⟩)
      rw [show Y.C.comp [1] (.one 1) .any [.var 0] none (.call f_copied [.var 1]) = q1_copied from rfl] at q
      simp [b_copied, q, Y.D.copMode]
    | _ => simp [Y.D.cop] at hc
/-! ## all makings; none: it is not known -/
def Mk.good (m : Mk) : Bool := okS m.1 && decide (m.2.length ≤ 60) && m.2.all fun κ => decide (κ.dep ≤ 58) && κ.lim 0
def amStep : List Mk → List Mk → Option (Option (List Mk))
  | l, [] => some (some l)
  | l, m :: ms => if Mk.good m = true then (if m ∈ l then amStep l ms else if l.length = 200 ∨ (m.2.any fun κ => decide (60 < κ.cells)) = true then some none else amStep (l ++ [m]) ms) else none
def asksLim (f : Fu) : Bool := f.body.asks.all fun t => t.askN.2.all (·.lim f.opens)
def amLoop (b : Bk) : Nat → List Mk → Nat → Option (Option (List Mk))
  | 0, _, _ => none
  | n + 1, l, t => match l[t]? with
    | none => some (some l)
    | some m => match Bk.fn b m.1 with
      | none => none
      | some f => if m.2.length = f.opens ∧ asksLim f = true then (match amStep l (askedBy f m.2) with
        | none => none
        | some none => some none
        | some (some l') => amLoop b n l' (t + 1)) else none
def allMk (b : Bk) (m : Mk) : Option (Option (List Mk)) := if Mk.good m = true then amLoop b 210 [m] 0 else none
def encAm : Option (List Mk) → Y.D
  | none => .non
  | some l => .lst (l.map encMk)
def amMode : Option (List Mk) → Y.Mode
  | none => .fr
  | some _ => .ow
theorem Mk.good_iff {m : Mk} (h : Mk.good m = true) : okS m.1 = true ∧ m.2.length ≤ 60 ∧ ∀ κ ∈ m.2, κ.dep ≤ 58 ∧ κ.lim 0 = true := by
  simp only [Mk.good, Bool.and_eq_true, decide_eq_true_eq, List.all_eq_true] at h
  exact ⟨h.1.1, h.1.2, h.2⟩
theorem encMk_inj {a b : Mk} : encMk a = encMk b ↔ a = b := by
  obtain ⟨s, ks⟩ := a
  obtain ⟨t, ls⟩ := b
  simp [encMk, encK_inj]
theorem encMk_nice {m : Mk} (h : Mk.good m = true) : Y.D.nice 61 (encMk m) = true := by
  obtain ⟨h1, h2, h3⟩ := Mk.good_iff h
  have := encK_nice m.2 59 fun κ hκ => by have := (h3 κ hκ).1; omega
  simp only [encMk, Y.nice_tup, Y.niceL_cons, Y.nice_strS, this, Y.niceL_nil, Bool.and_true]
  exact h1
@[simp] theorem atom_mk (m : Mk) : (encMk m).atom = false := rfl
@[simp] theorem mk_idx1 (m : Mk) : Y.D.idx (encMk m) (.int 1) = some (.lst (encK m.2)) := rfl
section
variable (b : Bk) (hb : Bk.Ok b) (first : Mk) (k : Nat)
abbrev gA (l : List Mk) (fl : Bool) (t : Nat) (o4 : Option (Y.D × Bool)) : Y.G := [some ⟨Bk.enc b, .fr, false⟩, some ⟨encMk first, .fr, false⟩, some ⟨.lst (l.map encMk), .ow, fl⟩, some ⟨.int t, .fr, true⟩, Y.fro o4, none]
theorem lp_am (hk : 64 ≤ k) (t : Nat) : ∀ (ms l : List Mk) (r : Option (List Mk)) (fl : Bool) (o4 : Option (Y.D × Bool)), (∀ m ∈ l, Mk.good m = true) → l.length ≤ 200 → amStep l ms = some r → ∀ n, (match r with
    | some l' => (∀ m ∈ l', Mk.good m = true) ∧ l'.length ≤ 200 ∧ ∃ fl' o4', Y.forL (Y.forB (En k) (.one 4) n l3_all_makings) (ms.map encMk) (gA b first l fl t o4) = some (.ok (.nx, gA b first l' fl' t o4'))
    | none => Y.rtD (Y.forL (Y.forB (En k) (.one 4) n l3_all_makings) (ms.map encMk) (gA b first l fl t o4)) = some (.ok (.non, .fr))) := by
  intro ms
  induction ms with
  | nil => intro l r fl o4 hg hl h n; cases h; exact ⟨hg, hl, fl, o4, rfl⟩
  | cons m ms ih =>
    intro l r fl o4 hg hl h n
    unfold amStep at h
    split at h
    · rename_i hm
      obtain ⟨g1, g2, g3⟩ := Mk.good_iff hm
      have hin : Y.D.inn (encMk m) (.lst (l.map encMk)) = some (decide (m ∈ l)) := Y.inn_lst (n := 61) (m := 61) (encMk_nice hm) (fun y hy => by
        obtain ⟨x, hx, rfl⟩ := List.mem_map.mp hy
        exact encMk_nice (hg x hx)) (by omega) (by omega) (map_mem encMk_inj)
      by_cases hml : m ∈ l
      · rw [if_pos hml] at h
        have hin2 := hin.trans (by rw [decide_eq_true hml])
        have h3 := ih l r fl (some (encMk m, n)) hg hl h n
        simp only [gA, ← Y.fro_some] at h3
        cases r with
        | none =>
          obtain ⟨n3, g', h4⟩ := Y.rtD_iff h3
          simp only [l3_all_makings] at h4
          simp [gA, l3_all_makings, hin2, h4]
        | some l' =>
          obtain ⟨a1, a2, fl', o4', h4⟩ := h3
          refine ⟨a1, a2, fl', o4', ?_⟩
          simp only [l3_all_makings] at h4
          simp [gA, l3_all_makings, hin2, h4]
      · rw [if_neg hml] at h
        have hin2 := hin.trans (by rw [decide_eq_false hml])
        obtain ⟨fq, qc⟩ := Y.comp1 (E := En k) (i := 5) (c := .idx (.var 4) (.int 1)) (elt := .cmp .gt (.call f_cells_of [.var 5]) (.con "MOST_CELLS")) (dl := .lst (encK m.2)) (m := .fr) (n := n)
          (g := [some ⟨Bk.enc b, .fr, false⟩, some ⟨encMk first, .fr, false⟩, some ⟨.lst (l.map encMk), .ow, fl⟩, some ⟨.int t, .fr, true⟩, some ⟨encMk m, .fr, n⟩, none]) m.2 Kd.enc (fun κ => .bl (decide (60 < κ.cells))) (by simp) rfl (by simp) (by simp) (by simp; omega) (fun κ hκ nf => by
            obtain ⟨n2, h2⟩ := (t_cells_of κ (k + 1) (by have := (g3 κ hκ).1; omega) (g3 κ hκ).2).n
            have e : (decide ((60 : Int) < (κ.cells : Int))) = decide (60 < κ.cells) := by rw [decide_eq_decide]; omega
            simp [Y.evD, h2, e])
        rw [show Y.C.comp [5] (.one 5) .any [.idx (.var 4) (.int 1)] none (.cmp .gt (.call f_cells_of [.var 5]) (.con "MOST_CELLS")) = q2_all_makings from rfl] at qc
        have hany : (m.2.map fun κ => decide (60 < κ.cells)).any id = m.2.any fun κ => decide (60 < κ.cells) := by simp [List.any_map, Function.comp_def]
        by_cases hl2 : l.length = 200
        · rw [if_pos (.inl hl2)] at h
          cases h
          simp [gA, l3_all_makings, hin2, hl2]
        · have hl3 : ¬ ((l.length : Int) = 200) := by omega
          cases ha : m.2.any (fun κ => decide (60 < κ.cells)) with
          | true =>
            rw [if_pos (.inr ha)] at h
            cases h
            rw [ha] at hany
            simp [gA, l3_all_makings, hin2, hl3, qc, -List.any_map, hany]
          | false =>
            rw [if_neg (by rw [ha]; simp [hl2])] at h
            rw [ha] at hany
            have e5 : l.length < 100000 := by omega
            have h3 := ih (l ++ [m]) r (fl && n) (some (encMk m, n)) (fun x hx => by
              rcases List.mem_append.mp hx with z | z
              · exact hg x z
              · rw [List.mem_singleton.mp z]; exact hm) (by simp; omega) h n
            simp only [gA, ← Y.fro_some, List.map_append, List.map_cons, List.map_nil] at h3
            cases r with
            | none =>
              obtain ⟨n3, g', h4⟩ := Y.rtD_iff h3
              simp only [l3_all_makings] at h4
              simp [gA, l3_all_makings, hin2, hl3, qc, -List.any_map, hany, e5, h4]
            | some l' =>
              obtain ⟨a1, a2, fl', o4', h4⟩ := h3
              refine ⟨a1, a2, fl', o4', ?_⟩
              simp only [l3_all_makings] at h4
              simp [gA, l3_all_makings, hin2, hl3, qc, -List.any_map, hany, e5, h4]
    · cases h
def amQ (r : Option (List Mk)) (fl : Y.Fl) (g : Y.G) : Prop := match r with
  | some l => fl = .nx ∧ ∃ (f : Bool) (t : Nat) (o4 : Option (Y.D × Bool)), g = gA b first l f t o4
  | none => ∃ n, fl = .rt ⟨.non, .fr, n⟩
include hb in
theorem t_all_makings (r : Option (List Mk)) (h : allMk b first = some r) (hk : 66 ≤ k) : Y.Gives (sm k f_all_makings [Bk.enc b, encMk first]) (amMode r) (encAm r) := by
  obtain ⟨k, rfl⟩ : ∃ j, k = j + 2 := ⟨k - 2, by omega⟩
  unfold allMk at h
  split at h
  · rename_i hf
    obtain ⟨fl, g1, hw, hq⟩ := Y.whileL_rule (t := Y.evT (En k) t1_all_makings) (b := Y.evSs (En k) l4_all_makings)
      (I := fun n g => ∃ (l : List Mk) (f : Bool) (t : Nat) (o4 : Option (Y.D × Bool)), g = gA b first l f t o4 ∧ (∀ m ∈ l, Mk.good m = true) ∧ l.length ≤ 200 ∧ amLoop b n l t = some r)
      (Q := amQ b first r)
      (fun n g hI => by
        obtain ⟨l, f, t, o4, rfl, hg, hl, hc⟩ := hI
        refine ⟨decide (t < l.length), gA b first l f t o4, by simp [gA, Y.evT, t1_all_makings], fun hff => ?_, fun htt => ?_⟩
        · have hge : l.length ≤ t := by simpa using hff
          cases n with
          | zero => cases hc
          | succ n =>
            unfold amLoop at hc
            rw [List.getElem?_eq_none hge] at hc
            cases hc
            exact ⟨rfl, f, t, o4, rfl⟩
        · have hlt : t < l.length := by simpa using htt
          cases n with
          | zero => cases hc
          | succ n =>
            unfold amLoop at hc
            rw [List.getElem?_eq_getElem hlt] at hc
            dsimp only at hc
            cases q : Bk.fn b l[t].1 with
            | none => rw [q] at hc; cases hc
            | some fu =>
              rw [q] at hc
              dsimp only at hc
              split at hc
              · rename_i hlen
                have hlim : ∀ u ∈ fu.body.asks, ∀ κ ∈ u.askN.2, κ.lim l[t].2.length = true := by
                  intro u hu κ hκ
                  rw [hlen.1]
                  have := hlen.2
                  unfold asksLim at this
                  exact List.all_eq_true.mp (List.all_eq_true.mp this u hu) κ hκ
                obtain ⟨n1, h1⟩ := (t_asked_by b hb l[t].1 l[t].2 fu q hlim (k + 1) (by omega)).n
                have e6 : atI (l.map encMk) (t : Int) = some (encMk l[t]) := by rw [Y.atI_nat]; simp [hlt]
                have e7 : encMk (l[t].1, l[t].2) = encMk l[t] := rfl
                rw [e7] at h1
                cases q2 : amStep l (askedBy fu l[t].2) with
                | none => rw [q2] at hc; cases hc
                | some x =>
                  rw [q2] at hc
                  have h3 := lp_am b first k (by omega) t (askedBy fu l[t].2) l x f o4 hg hl q2 n1
                  cases x with
                  | none =>
                    cases hc
                    obtain ⟨n3, g', h4⟩ := Y.rtD_iff h3
                    simp only [gA] at h4
                    exact ⟨n, .rt ⟨.non, .fr, n3⟩, g', rfl, by simp [gA, l4_all_makings, e6, h1, h4], ⟨n3, rfl⟩⟩
                  | some l' =>
                    obtain ⟨a1, a2, fl', o4', h4⟩ := h3
                    simp only [gA] at h4
                    refine ⟨n, .nx, gA b first l' fl' (t + 1) o4', rfl, by simp [gA, l4_all_makings, e6, h1, h4], l', fl', t + 1, o4', rfl, a1, a2, hc⟩
              · cases hc) 210 Y.whileN (gA b first [first] false 0 none) ⟨[first], false, 0, none, rfl, by simpa using hf, by simp, h⟩ (by decide)
    simp only [gA, ← Y.fro_none, List.map_cons, List.map_nil] at hw
    simp at hw
    rw [sem_all_makings]
    cases r with
    | none =>
      obtain ⟨n, rfl⟩ := hq
      simp [Y.gives_iff, b_all_makings, hw, encAm, amMode]
    | some l =>
      obtain ⟨rfl, f, t, o4, rfl⟩ := hq
      simp [Y.gives_iff, b_all_makings, hw, encAm, amMode, gA]
  · cases h
end
end Hd
set_option Elab.async false
set_option linter.all false
set_option maxRecDepth 100000
set_option maxHeartbeats 4000000
namespace Hd
open PySem PySem.Spec L2
/-! ## the door -/
theorem self_fn (k : Nat) (b : Bk) (g : Y.G) (m : Y.Mode) (n : Bool) : Y.selfFid (En k) "function" g (.val ⟨Bk.enc b, m, n⟩) = some f_Book_function := by kernel_rfl
theorem t_Book_function (b : Bk) (s : Str) (f : Fu) (hf : Bk.fn b s = some f) (k : Nat) : Y.Gives (sm (k + 2) f_Book_function [Bk.enc b, .str s]) .fr f.enc := by
  have lk := look_bk b s
  rw [hf] at lk
  simp only [Option.map_some] at lk
  rw [sem_Book_function]
  simp [Y.gives_iff, b_Book_function, lk]
theorem isi_book (k : Nat) (b : Bk) : Y.isiD (En k) (Bk.enc b) (.cls "Book") = some true := by kernel_rfl
theorem t_check_start (b : Bk) (hb : Bk.Ok b) (hu : Bk.Uni b) (hm : fmis b b = none) (s : Str) (f : Fu) (hf : Bk.fn b s = some f) (ks : List Kd) (hl : ks.length = f.opens) (hl2 : ks.length ≤ 60) (hks : ∀ κ ∈ ks, κ.dep ≤ 4 ∧ κ.lim 0 = true) (k : Nat) (hk : 68 ≤ k) :
    Y.Gives (sm k f_check_start [Bk.enc b, .str s, .lst (encK ks)]) .fr .non := by
  obtain ⟨k, rfl⟩ : ∃ j, k = j + 2 := ⟨k - 2, by omega⟩
  obtain ⟨n1, h1⟩ := (t_first_misfit b hb hu (k + 1) (by omega)).n
  rw [hm] at h1
  simp only [encM] at h1
  obtain ⟨n3, h3⟩ := (t_are_kinds ks f.opens 0 (k + 1) (by omega) (by omega) (fun κ hκ => by have := (hks κ hκ).1; omega)).n
  have e : (decide (ks.length = f.opens) && ks.all fun κ => κ.lim 0 && decide (κ.dep ≤ 4)) = true := by
    simp only [hl, decide_true, Bool.true_and, List.all_eq_true, Bool.and_eq_true, decide_eq_true_eq]
    exact fun κ hκ => ⟨(hks κ hκ).2, (hks κ hκ).1⟩
  rw [e] at h3
  obtain ⟨k, rfl⟩ : ∃ j, k = j + 1 := ⟨k - 1, by omega⟩
  obtain ⟨n2, h2⟩ := (t_Book_function b s f hf k).n
  rw [sem_check_start]
  simp at h3
  simp [Y.gives_iff, b_check_start, isi_book, h1, self_fn, h2, h3]
theorem cop_kd : ∀ (κ : Kd) (n : Nat), κ.dep + 1 ≤ n → Y.D.cop n κ.enc = true
  | .num, n, _ => by simp [Kd.enc]
  | .truth, n, _ => by simp [Kd.enc]
  | .opn i, n + 1, _ => by simp [Kd.enc]
  | .pair a b, n + 1, h => by
    simp only [Kd.dep] at h
    simp [Kd.enc, cop_kd a n (by omega), cop_kd b n (by omega)]
theorem cop_kds (ks : List Kd) (n : Nat) (hl : ks.length < 100000) (h : ∀ κ ∈ ks, κ.dep + 1 ≤ n) : Y.D.cop (n + 1) (.lst (encK ks)) = true := by
  simp only [Y.cop_lst, Bool.and_eq_true, decide_eq_true_eq, encK_length]
  refine ⟨hl, Y.copL_all.mpr fun x hx => ?_⟩
  obtain ⟨κ, hκ, rfl⟩ := List.mem_map.mp hx
  exact cop_kd κ n (h κ hκ)
theorem cop_mks (l : List Mk) (hl : l.length ≤ 200) (h : ∀ m ∈ l, Mk.good m = true) : Y.D.cop 62 (.lst (l.map encMk)) = true := by
  simp only [Y.cop_lst, Bool.and_eq_true, decide_eq_true_eq, List.length_map]
  refine ⟨by omega, Y.copL_all.mpr fun x hx => ?_⟩
  obtain ⟨m, hm, rfl⟩ := List.mem_map.mp hx
  obtain ⟨h1, h2, h3⟩ := Mk.good_iff (h m hm)
  have := cop_kds m.2 59 (by omega) fun κ hκ => by have := (h3 κ hκ).1; omega
  simp [encMk, this]
theorem t_All_init (d : Y.D) (n k : Nat) (h : Y.D.cop n (.lst [d]) = true) : True := trivial
theorem t_All (xs : List Y.D) (n k : Nat) (h : Y.D.cop n (.lst xs) = true) (hk : n + 4 ≤ k) : sm k f_All___init__ [.obj "All" [] [], .lst xs] = some (.ok (⟨.non, .fr, true⟩, some (.obj "All" ["pairs"] [.lst xs], true))) := by
  obtain ⟨k, rfl⟩ : ∃ j, k = j + 2 := ⟨k - 2, by omega⟩
  have h1 := t_copied n (.lst xs) (k + 1) h (by omega)
  rw [sem_All___init__]
  simp [b_All___init__, h1, Y.D.copMode, Y.D.kidsAtom]
theorem amLoop_good (b : Bk) : ∀ (n : Nat) (l : List Mk) (t : Nat) (r : List Mk), (∀ m ∈ l, Mk.good m = true) → l.length ≤ 200 → amLoop b n l t = some (some r) → (∀ m ∈ r, Mk.good m = true) ∧ r.length ≤ 200 := by
  have step : ∀ (ms l : List Mk) (r : List Mk), (∀ m ∈ l, Mk.good m = true) → l.length ≤ 200 → amStep l ms = some (some r) → (∀ m ∈ r, Mk.good m = true) ∧ r.length ≤ 200 := by
    intro ms
    induction ms with
    | nil => intro l r hg hl h; cases h; exact ⟨hg, hl⟩
    | cons m ms ih =>
      intro l r hg hl h
      unfold amStep at h
      split at h
      · rename_i hm
        split at h
        · exact ih l r hg hl h
        · split at h
          · cases h
          · rename_i hn
            simp only [not_or] at hn
            refine ih (l ++ [m]) r (fun x hx => ?_) (by simp; omega) h
            rcases List.mem_append.mp hx with z | z
            · exact hg x z
            · rw [List.mem_singleton.mp z]; exact hm
      · cases h
  intro n
  induction n with
  | zero => intro l t r _ _ h; cases h
  | succ n ih =>
    intro l t r hg hl h
    unfold amLoop at h
    split at h
    · cases h; exact ⟨hg, hl⟩
    · split at h
      · cases h
      · split at h
        · split at h
          · cases h
          · cases h
          · rename_i l' hs
            obtain ⟨a1, a2⟩ := step _ _ _ hg hl hs
            exact ih l' _ r a1 a2 h
        · cases h
theorem allMk_good {b : Bk} {m : Mk} {r : List Mk} (h : allMk b m = some (some r)) : (∀ m ∈ r, Mk.good m = true) ∧ r.length ≤ 200 := by
  unfold allMk at h
  split at h
  · rename_i hm
    exact amLoop_good b 210 [m] 0 r (by simpa using hm) (by simp) h
  · cases h
/-- what is asked ahead of makings -/
structure Start (b : Bk) (s : Str) (ks : List Kd) : Prop where
  ok : Bk.Ok b
  uni : Bk.Uni b
  fits : fmis b b = none
  ex : ∃ f, Bk.fn b s = some f ∧ ks.length = f.opens
  len : ks.length ≤ 60
  kinds : ∀ κ ∈ ks, κ.dep ≤ 4 ∧ κ.lim 0 = true
  name : okS s = true
theorem t_makings_all (b : Bk) (s : Str) (ks : List Kd) (St : Start b s ks) (hg : growing b s = some none) (l : List Mk) (ha : allMk b (s, ks) = some (some l)) (k : Nat) (hk : 72 ≤ k) :
    sm k f_makings [Bk.enc b, .str s, .lst (encK ks)] = some (.ok (⟨.obj "All" ["pairs"] [.lst (l.map encMk)], .ow, true⟩, none)) := by
  obtain ⟨k, rfl⟩ : ∃ j, k = j + 2 := ⟨k - 2, by omega⟩
  obtain ⟨f, hf, hl⟩ := St.ex
  obtain ⟨n1, h1⟩ := (t_check_start b St.ok St.uni St.fits s f hf ks hl St.len St.kinds (k + 1) (by omega)).n
  obtain ⟨n2, h2⟩ := (t_growing_ring b St.ok s St.name none hg (k + 1) (by omega)).n
  obtain ⟨n3, h3⟩ := (t_all_makings b St.ok (s, ks) (k + 1) (some l) ha (by omega)).n
  obtain ⟨a1, a2⟩ := allMk_good ha
  have h4 := t_All (l.map encMk) 62 k (cop_mks l a2 a1) (by omega)
  simp only [encOW, owW, encAm, amMode] at h2 h3
  simp only [encMk] at h3
  rw [sem_makings]
  simp [b_makings, h1, h2, h3, h4]
theorem t_makings_many (b : Bk) (s : Str) (ks : List Kd) (St : Start b s ks) (hg : growing b s = some none) (ha : allMk b (s, ks) = some none) (k : Nat) (hk : 72 ≤ k) :
    sm k f_makings [Bk.enc b, .str s, .lst (encK ks)] = some (.ex "TooMany") := by
  obtain ⟨k, rfl⟩ : ∃ j, k = j + 2 := ⟨k - 2, by omega⟩
  obtain ⟨f, hf, hl⟩ := St.ex
  obtain ⟨n1, h1⟩ := (t_check_start b St.ok St.uni St.fits s f hf ks hl St.len St.kinds (k + 1) (by omega)).n
  obtain ⟨n2, h2⟩ := (t_growing_ring b St.ok s St.name none hg (k + 1) (by omega)).n
  obtain ⟨n3, h3⟩ := (t_all_makings b St.ok (s, ks) (k + 1) none ha (by omega)).n
  simp only [encOW, owW, encAm, amMode] at h2 h3
  simp only [encMk] at h3
  rw [sem_makings]
  simp [b_makings, h1, h2, h3]
end Hd
set_option Elab.async false
set_option linter.all false
set_option maxRecDepth 1000000
set_option maxHeartbeats 0
namespace Hd
open PySem PySem.Spec L2
/-! ## the books of the law -/
def fullF : Nat → Nat → Kd
  | 0, _ => .num
  | f + 1, m => if m = 1 then .num else .pair (fullF f (m / 2)) (fullF f (m - m / 2))
def full (m : Nat) : Kd := fullF 7 m
def kinds14 : List Kd := [full 1, full 2, full 3, full 4, full 5, full 6, full 7, .pair .truth (full 1), .pair .truth (full 2), .pair .truth (full 3), .pair .truth (full 4), .pair (full 1) .truth, .pair (full 2) .truth, .pair (full 3) .truth]
def sumT : Nat → List Tm → Tm
  | 0, _ => .nd .yes []
  | _, [] => .nd .yes []
  | _, [t] => t
  | f + 1, ts => .nd .plus [sumT f (ts.take (ts.length / 2)), sumT f (ts.drop (ts.length / 2))]
def wide13 : List Tm := (kinds14.take 13).map fun κ => .nd (.ask "h" [.pair (.opn 0) κ]) []
def some17 : List Tm := (kinds14.map fun κ => .nd (.ask "g" [κ]) []) ++ [.nd (.ask "a" []) [], .nd (.ask "b" []) [], .nd (.ask "c" []) []]
def numT (n : Int) : Tm := .nd (.num n) []
def oneB (n : Int) : Bk := [⟨"main", 0, [], .num, sumT 6 some17⟩, ⟨"g", 1, [], .num, sumT 6 wide13⟩, ⟨"h", 1, [], .num, numT n⟩, ⟨"a", 0, [], .num, numT n⟩, ⟨"b", 0, [], .num, numT n⟩, ⟨"c", 0, [], .num, numT n⟩]
def twoB (n : Int) : Bk := [⟨"main", 0, [], .num, sumT 6 some17⟩, ⟨"g", 1, [], .num, sumT 6 wide13⟩, ⟨"h", 1, [], .num, numT n⟩, ⟨"a", 0, [], .num, numT n⟩, ⟨"b", 0, [], .num, numT n⟩, ⟨"c", 0, [], .num, .nd (.ask "d" []) []⟩, ⟨"d", 0, [], .num, numT n⟩]
def twice : Kd := .pair (.opn 0) (.opn 0)
def lateB : Bk := [⟨"f", 1, [], .num, .nd (.ask "g" [twice]) []⟩, ⟨"g", 1, [], .num, .nd (.ask "h" [twice]) []⟩, ⟨"h", 1, [], .num, .nd (.size (.opn 0)) []⟩]
def overB (n : Int) : Bk := [⟨"f", 1, [], .num, .nd (.ask "h" [.pair (.pair twice twice) .num]) []⟩, ⟨"h", 1, [], .num, numT n⟩]
theorem uni_of {b : Bk} (h : (b.map (·.name)).Nodup) : Bk.Uni b := by
  induction b with
  | nil => intro f hf; cases hf
  | cons g b ih =>
    intro f hf
    simp only [List.map_cons, List.nodup_cons] at h
    unfold Bk.fn
    rw [List.find?_cons]
    by_cases e : g.name = f.name
    · rcases List.mem_cons.mp hf with z | z
      · subst z; simp
      · exact absurd (e ▸ List.mem_map_of_mem z) h.1
    · simp only [e, decide_false]
      rcases List.mem_cons.mp hf with z | z
      · subst z; exact absurd rfl e
      · exact ih h.2 f z
theorem ok_of {b : Bk} (h : b.all Fu.ok = true) : Bk.Ok b := fun f hf => Fu.ok_iff (List.all_eq_true.mp h f hf)
theorem start_of {b : Bk} {s : Str} {ks : List Kd} (h1 : b.all Fu.ok = true) (h2 : decide ((b.map (·.name)).Nodup) = true) (h3 : (fmis b b).isNone = true) (h4 : (match Bk.fn b s with | some f => decide (ks.length = f.opens) | none => false) = true) (h5 : decide (ks.length ≤ 60) = true) (h6 : (ks.all fun κ => decide (κ.dep ≤ 4) && κ.lim 0) = true) (h7 : okS s = true) : Start b s ks := by
  refine ⟨ok_of h1, uni_of (of_decide_eq_true h2), Option.isNone_iff_eq_none.mp h3, ?_, of_decide_eq_true h5, fun κ hκ => ?_, h7⟩
  · split at h4
    · rename_i f hf
      exact ⟨f, hf, of_decide_eq_true h4⟩
    · cases h4
  · have := List.all_eq_true.mp h6 κ hκ
    simp only [Bool.and_eq_true, decide_eq_true_eq] at this
    exact this
theorem st_one (n : Int) : Start (oneB n) "main" [] := start_of (by kernel_rfl) (by kernel_rfl) (by kernel_rfl) (by kernel_rfl) (by kernel_rfl) (by kernel_rfl) (by kernel_rfl)
theorem st_two (n : Int) : Start (twoB n) "main" [] := start_of (by kernel_rfl) (by kernel_rfl) (by kernel_rfl) (by kernel_rfl) (by kernel_rfl) (by kernel_rfl) (by kernel_rfl)
theorem st_late (m : Nat) (h : (decide ((full m).dep ≤ 4) && (full m).lim 0) = true) : Start lateB "f" [full m] := start_of (by kernel_rfl) (by kernel_rfl) (by kernel_rfl) (by kernel_rfl) (by kernel_rfl) (by simpa using h) (by kernel_rfl)
theorem st_over (n : Int) : Start (overB n) "f" [full 15] := start_of (by kernel_rfl) (by kernel_rfl) (by kernel_rfl) (by kernel_rfl) (by kernel_rfl) (by kernel_rfl) (by kernel_rfl)
theorem gr_one (n : Int) : growing (oneB n) "main" = some none := by kernel_rfl
theorem gr_two (n : Int) : growing (twoB n) "main" = some none := by kernel_rfl
theorem gr_late : growing lateB "f" = some none := by kernel_rfl
theorem gr_over (n : Int) : growing (overB n) "f" = some none := by kernel_rfl
def late15 : List Mk := [(("f" : Str), [full 15]), (("g" : Str), [.pair (full 15) (full 15)]), (("h" : Str), [.pair (.pair (full 15) (full 15)) (.pair (full 15) (full 15))])]
theorem am_late15 : allMk lateB ("f", [full 15]) = some (some late15) := by kernel_rfl
theorem am_late16 : allMk lateB ("f", [full 16]) = some none := by kernel_rfl
theorem am_over (n : Int) : allMk (overB n) ("f", [full 15]) = some none := by kernel_rfl
end Hd
set_option Elab.async false
set_option linter.all false
set_option maxRecDepth 1000000
set_option maxHeartbeats 0
namespace Hd
open PySem PySem.Spec L2
theorem am_one0 (n : Int) : (match allMk (oneB n) ("main", []) with | some (some l) => decide (l.length = 200) | _ => false) = true := by kernel_rfl
end Hd
set_option Elab.async false
set_option linter.all false
set_option maxRecDepth 1000000
set_option maxHeartbeats 0
namespace Hd
open PySem PySem.Spec L2
theorem am_two (n : Int) : allMk (twoB n) ("main", []) = some none := by kernel_rfl
end Hd
set_option Elab.async false
set_option linter.all false
set_option maxRecDepth 1000000
set_option maxHeartbeats 0
namespace Hd
open PySem PySem.Spec L2
/-! ## the law's own walk -/
def tell (f : Fu) : Y.D := .tup [.str f.name, .int f.opens, .lst (encK f.takes), f.gives.enc, f.body.enc]
def g0L (n : Int) : Y.G := some ⟨.int n, .fr, true⟩ :: List.replicate 16 none
def tmsD (ts : List Tm) : Y.D := .lst (ts.map Tm.enc)
def told7 (n : Int) : Y.D := .lst ((oneB n).map tell)
def gL (n : Int) (s1 s2 s3 s4 s5 s6 s7 s8 s9 s10 : Option Y.Sl) : Y.G := [some ⟨.int n, .fr, true⟩, s1, s2, s3, s4, s5, s6, s7, s8, s9, s10, none, none, none, none, none, none]
def kD : Y.D := .lst (encK kinds14)
def pS (i : Nat) : Y.S := pr__law_edges_right.getD i .pass
theorem pr_all : pr__law_edges_right = [pS 0, pS 1, pS 2, pS 3, pS 4, pS 5, pS 6, pS 7, pS 8, pS 9, pS 10, pS 11, pS 12, pS 13, pS 14] := by kernel_rfl
theorem w0 (n : Int) : Y.evS (En 73) (pS 0) (gL n none none none none none none none none none none) = some (.ok (.nx, gL n (some ⟨.lst (encK (kinds14.take 11)), .ow, true⟩) none none none none none none none none none)) := by kernel_rfl
theorem w1 (n : Int) : Y.evS (En 73) (pS 1) (gL n (some ⟨.lst (encK (kinds14.take 11)), .ow, true⟩) none none none none none none none none none) = some (.ok (.nx, gL n (some ⟨kD, .ow, true⟩) none none none none none none none none none)) := by kernel_rfl
theorem w2 (n : Int) : Y.evS (En 73) (pS 2) (gL n (some ⟨kD, .ow, true⟩) none none none none none none none none none) = some (.ok (.nx, gL n (some ⟨kD, .ow, true⟩) (some ⟨tmsD wide13, .ow, true⟩) none none none none none none none none)) := by kernel_rfl
theorem w3 (n : Int) : Y.evS (En 73) (pS 3) (gL n (some ⟨kD, .ow, true⟩) (some ⟨tmsD wide13, .ow, true⟩) none none none none none none none none) = some (.ok (.nx, gL n (some ⟨kD, .fr, true⟩) (some ⟨tmsD wide13, .ow, true⟩) (some ⟨tmsD some17, .ow, true⟩) none none none none none none none)) := by kernel_rfl
theorem w4 (n : Int) : Y.evS (En 73) (pS 4) (gL n (some ⟨kD, .fr, true⟩) (some ⟨tmsD wide13, .ow, true⟩) (some ⟨tmsD some17, .ow, true⟩) none none none none none none none) = some (.ok (.nx, gL n (some ⟨kD, .fr, true⟩) (some ⟨tmsD wide13, .fr, true⟩) (some ⟨tmsD some17, .fr, true⟩) (some ⟨.lst (((oneB n).take 2).map tell), .ow, false⟩) none none none none none none)) := by kernel_rfl
abbrev gM (n : Int) (s4 s5 s6 s7 s8 s9 : Option Y.Sl) : Y.G := gL n (some ⟨kD, .fr, true⟩) (some ⟨tmsD wide13, .fr, true⟩) (some ⟨tmsD some17, .fr, true⟩) s4 s5 s6 s7 s8 s9 none
theorem w5 (n : Int) : Y.evS (En 73) (pS 5) (gM n (some ⟨.lst (((oneB n).take 2).map tell), .ow, false⟩) none none none none none) = some (.ok (.nx, gM n (some ⟨.lst (((oneB n).take 3).map tell), .ow, false⟩) none none none none none)) := by kernel_rfl
theorem w6 (n : Int) : Y.evS (En 73) (pS 6) (gM n (some ⟨.lst (((oneB n).take 3).map tell), .ow, false⟩) none none none none none) = some (.ok (.nx, gM n (some ⟨told7 n, .ow, false⟩) none none none none none)) := by kernel_rfl
end Hd
set_option Elab.async false
set_option linter.all false
set_option maxRecDepth 1000000
set_option maxHeartbeats 0
namespace Hd
open PySem PySem.Spec L2
theorem w7 (n : Int) : Y.evS (En 73) (pS 7) (gM n (some ⟨told7 n, .ow, false⟩) none none none none none) = some (.ok (.nx, gM n (some ⟨told7 n, .fr, false⟩) (some ⟨Bk.enc (oneB n), .ow, false⟩) none none none none)) := by kernel_rfl
end Hd
set_option Elab.async false
set_option linter.all false
set_option maxRecDepth 1000000
set_option maxHeartbeats 0
namespace Hd
open PySem PySem.Spec L2
theorem w8 (n : Int) : Y.evS (En 73) (pS 8) (gM n (some ⟨told7 n, .fr, false⟩) (some ⟨Bk.enc (oneB n), .ow, false⟩) none none none none) = some (.ok (.nx, gM n (some ⟨told7 n, .fr, false⟩) (some ⟨Bk.enc (oneB n), .ow, false⟩) (some ⟨Bk.enc (twoB n), .ow, false⟩) none none none)) := by kernel_rfl
end Hd
set_option Elab.async false
set_option linter.all false
set_option maxRecDepth 1000000
set_option maxHeartbeats 0
namespace Hd
open PySem PySem.Spec L2
@[simp] theorem eq_bl (a b : Bool) : Y.D.eqE (.bl a) (.bl b) = some (decide (a = b)) := by
  cases a <;> cases b <;> kernel_rfl
theorem hk_many : Y.lookS h__law_by_it "TooMany" = some "many" := by kernel_rfl
def allD (l : List Mk) : Y.D := .obj "All" ["pairs"] [.lst (l.map encMk)]
theorem by_all (b : Bk) (s : Str) (ks : List Kd) (l : List Mk) (St : Start b s ks) (hg : growing b s = some none) (ha : allMk b (s, ks) = some (some l)) : ∃ n, sm 74 f__law_by_it [Bk.enc b, .str s, .lst (encK ks)] = some (.ok (⟨.tup [.str "all", allD l], .fr, n⟩, none)) := by
  have h1 := t_makings_all b s ks St hg l ha 73 (by omega)
  rw [sem__law_by_it]
  refine Y.Gives.n ?_
  simp [Y.gives_iff, Y.runG, ev__law_by_it, Y.evTryI, Y.seqM, Y.evTry, b0__law_by_it, bs__law_by_it, h1, allD]
theorem by_many (b : Bk) (s : Str) (ks : List Kd) (St : Start b s ks) (hg : growing b s = some none) (ha : allMk b (s, ks) = some none) : ∃ n, sm 74 f__law_by_it [Bk.enc b, .str s, .lst (encK ks)] = some (.ok (⟨.tup [.str "many", .non], .fr, n⟩, none)) := by
  have h1 := t_makings_many b s ks St hg ha 73 (by omega)
  rw [sem__law_by_it]
  refine Y.Gives.n ?_
  simp [Y.gives_iff, Y.runG, ev__law_by_it, Y.evTryI, Y.seqM, Y.evTry, b0__law_by_it, bs__law_by_it, h1, hk_many]
end Hd
set_option Elab.async false
set_option linter.all false
set_option maxRecDepth 1000000
set_option maxHeartbeats 0
namespace Hd
open PySem PySem.Spec L2
theorem eq_many : Y.D.eqE (.tup [.str "many", .non]) (.tup [.str "many", .non]) = some true := by kernel_rfl
theorem f15 : sm 74 f__law_full [.int 15] = some (.ok (⟨(full 15).enc, .fr, true⟩, none)) := by kernel_rfl
theorem f16 : sm 74 f__law_full [.int 16] = some (.ok (⟨(full 16).enc, .fr, true⟩, none)) := by kernel_rfl
theorem bk_over (n : Int) : sm 74 f__law_book [.lst ((overB n).map tell)] = some (.ok (⟨Bk.enc (overB n), .ow, false⟩, none)) := by kernel_rfl
theorem p9 : pS 9 = .ife (.or_ (.cmp .ne (.idx (.call f__law_by_it [.var 5, .str "main", .lst []]) (.int 0)) (.str "all")) (.cmp .ne (.call f__law_by_it [.var 6, .str "main", .lst []]) (.tup [.str "many", .non]))) [.ret (.bl false)] [] := by kernel_rfl
theorem p10 : pS 10 = .ife (.cmp .ne (.bi .len [.att (.call f_makings [.var 5, .str "main", .lst []]) "pairs"]) (.int 200)) [.ret (.bl false)] [] := by kernel_rfl
theorem p14 : pS 14 = .ife (.cmp .ne (.idx (.call f__law_by_it [.var 9, .str "f", .lst [.call f__law_full [.int 15]]]) (.int 0)) (.str "all")) [.ret (.bl false)] [] := by kernel_rfl
theorem one_l (n : Int) : ∃ l, allMk (oneB n) ("main", []) = some (some l) ∧ l.length = 200 := by
  have h := am_one0 n
  split at h
  · rename_i l e
    exact ⟨l, e, of_decide_eq_true h⟩
  · cases h
theorem w9' (j : Nat) (n : Int) (l : List Mk) (n1 n2 : Bool) (h1 : sm (j + 1) f__law_by_it [Bk.enc (oneB n), .str "main", .lst []] = some (.ok (⟨.tup [.str "all", allD l], .fr, n1⟩, none))) (h2 : sm (j + 1) f__law_by_it [Bk.enc (twoB n), .str "main", .lst []] = some (.ok (⟨.tup [.str "many", .non], .fr, n2⟩, none))) :
    Y.evS (En j) (pS 9) (gM n (some ⟨told7 n, .fr, false⟩) (some ⟨Bk.enc (oneB n), .ow, false⟩) (some ⟨Bk.enc (twoB n), .ow, false⟩) none none none) = some (.ok (.nx, gM n (some ⟨told7 n, .fr, false⟩) (some ⟨Bk.enc (oneB n), .fr, false⟩) (some ⟨Bk.enc (twoB n), .fr, false⟩) none none none)) := by
  rw [p9]
  generalize oneB n = bo at *
  generalize twoB n = bt at *
  simp [gL, h1, h2, eq_many]
theorem w9 (n : Int) : Y.evS (En 73) (pS 9) (gM n (some ⟨told7 n, .fr, false⟩) (some ⟨Bk.enc (oneB n), .ow, false⟩) (some ⟨Bk.enc (twoB n), .ow, false⟩) none none none) = some (.ok (.nx, gM n (some ⟨told7 n, .fr, false⟩) (some ⟨Bk.enc (oneB n), .fr, false⟩) (some ⟨Bk.enc (twoB n), .fr, false⟩) none none none)) := by
  obtain ⟨l, hl, hlen⟩ := one_l n
  obtain ⟨n1, h1⟩ := by_all (oneB n) "main" [] l (st_one n) (gr_one n) hl
  obtain ⟨n2, h2⟩ := by_many (twoB n) "main" [] (st_two n) (gr_two n) (am_two n)
  exact w9' 73 n l n1 n2 h1 h2
theorem w10' (j : Nat) (n : Int) (l : List Mk) (hlen : l.length = 200) (h1 : sm (j + 1) f_makings [Bk.enc (oneB n), .str "main", .lst []] = some (.ok (⟨allD l, .ow, true⟩, none))) :
    Y.evS (En j) (pS 10) (gM n (some ⟨told7 n, .fr, false⟩) (some ⟨Bk.enc (oneB n), .fr, false⟩) (some ⟨Bk.enc (twoB n), .fr, false⟩) none none none) = some (.ok (.nx, gM n (some ⟨told7 n, .fr, false⟩) (some ⟨Bk.enc (oneB n), .fr, false⟩) (some ⟨Bk.enc (twoB n), .fr, false⟩) none none none)) := by
  rw [p10]
  generalize oneB n = bo at *
  simp [gL, h1, hlen, allD]
theorem w10 (n : Int) : Y.evS (En 73) (pS 10) (gM n (some ⟨told7 n, .fr, false⟩) (some ⟨Bk.enc (oneB n), .fr, false⟩) (some ⟨Bk.enc (twoB n), .fr, false⟩) none none none) = some (.ok (.nx, gM n (some ⟨told7 n, .fr, false⟩) (some ⟨Bk.enc (oneB n), .fr, false⟩) (some ⟨Bk.enc (twoB n), .fr, false⟩) none none none)) := by
  obtain ⟨l, hl, hlen⟩ := one_l n
  exact w10' 73 n l hlen (t_makings_all (oneB n) "main" [] (st_one n) (gr_one n) l hl 74 (by omega))
def steep : Y.D := .lst ((lateB.take 2).map tell)
theorem w11 (n : Int) (s4 s5 s6 : Option Y.Sl) : Y.evS (En 73) (pS 11) (gM n s4 s5 s6 none none none) = some (.ok (.nx, gM n s4 s5 s6 (some ⟨twice.enc, .fr, true⟩) none none)) := by kernel_rfl
theorem w12 (n : Int) (s4 s5 s6 : Option Y.Sl) : Y.evS (En 73) (pS 12) (gM n s4 s5 s6 (some ⟨twice.enc, .fr, true⟩) none none) = some (.ok (.nx, gM n s4 s5 s6 (some ⟨twice.enc, .fr, true⟩) (some ⟨steep, .ow, true⟩) none)) := by kernel_rfl
theorem w13 (n : Int) (s4 s5 s6 : Option Y.Sl) : Y.evS (En 73) (pS 13) (gM n s4 s5 s6 (some ⟨twice.enc, .fr, true⟩) (some ⟨steep, .ow, true⟩) none) = some (.ok (.nx, gM n s4 s5 s6 (some ⟨twice.enc, .fr, true⟩) (some ⟨steep, .ow, true⟩) (some ⟨Bk.enc lateB, .ow, false⟩))) := by kernel_rfl
theorem by15 : ∃ n, sm 74 f__law_by_it [Bk.enc lateB, .str "f", .lst [(full 15).enc]] = some (.ok (⟨.tup [.str "all", allD late15], .fr, n⟩, none)) := by_all lateB "f" [full 15] late15 (st_late 15 (by kernel_rfl)) gr_late am_late15
theorem by16 : ∃ n, sm 74 f__law_by_it [Bk.enc lateB, .str "f", .lst [(full 16).enc]] = some (.ok (⟨.tup [.str "many", .non], .fr, n⟩, none)) := by_many lateB "f" [full 16] (st_late 16 (by kernel_rfl)) gr_late am_late16
theorem byO (n : Int) : ∃ m, sm 74 f__law_by_it [Bk.enc (overB n), .str "f", .lst [(full 15).enc]] = some (.ok (⟨.tup [.str "many", .non], .fr, m⟩, none)) := by_many (overB n) "f" [full 15] (st_over n) (gr_over n) (am_over n)
theorem mk15 : sm 74 f_makings [Bk.enc lateB, .str "f", .lst [(full 15).enc]] = some (.ok (⟨allD late15, .ow, true⟩, none)) := t_makings_all lateB "f" [full 15] (st_late 15 (by kernel_rfl)) gr_late late15 am_late15 74 (by omega)
theorem w14' (j : Nat) (n : Int) (s4 s5 s6 : Option Y.Sl) (n1 : Bool) (h1 : sm (j + 1) f__law_by_it [Bk.enc lateB, .str "f", .lst [(full 15).enc]] = some (.ok (⟨.tup [.str "all", allD late15], .fr, n1⟩, none))) (h2 : sm (j + 1) f__law_full [.int 15] = some (.ok (⟨(full 15).enc, .fr, true⟩, none))) :
    Y.evS (En j) (pS 14) (gM n s4 s5 s6 (some ⟨twice.enc, .fr, true⟩) (some ⟨steep, .ow, true⟩) (some ⟨Bk.enc lateB, .ow, false⟩)) = some (.ok (.nx, gM n s4 s5 s6 (some ⟨twice.enc, .fr, true⟩) (some ⟨steep, .ow, true⟩) (some ⟨Bk.enc lateB, .fr, false⟩))) := by
  rw [p14]
  generalize lateB = bo at *
  simp [gL, h1, h2]
theorem w14 (n : Int) (s4 s5 s6 : Option Y.Sl) : Y.evS (En 73) (pS 14) (gM n s4 s5 s6 (some ⟨twice.enc, .fr, true⟩) (some ⟨steep, .ow, true⟩) (some ⟨Bk.enc lateB, .ow, false⟩)) = some (.ok (.nx, gM n s4 s5 s6 (some ⟨twice.enc, .fr, true⟩) (some ⟨steep, .ow, true⟩) (some ⟨Bk.enc lateB, .fr, false⟩))) := by
  obtain ⟨n1, h1⟩ := by15
  exact w14' 73 n s4 s5 s6 n1 h1 f15
end Hd
set_option Elab.async false
set_option linter.all false
set_option maxRecDepth 1000000
set_option maxHeartbeats 0
namespace Hd
open PySem PySem.Spec L2
theorem seq_step {E : Y.Ev} {s : Y.S} {pre : List Y.S} {ev : Y.G → Y.M (Y.Fl × Y.G)} {g g1 : Y.G} (h : Y.evS E s g = some (.ok (.nx, g1))) : Y.seqL E (s :: pre) ev g = Y.seqL E pre ev g1 := by
  rw [Y.seqL]
  unfold Y.seqM
  rw [h]
  rfl
theorem seqM_nx {a b : Y.G → Y.M (Y.Fl × Y.G)} {g g1 : Y.G} (h : a g = some (.ok (.nx, g1))) : Y.seqM a b g = b g1 := by
  unfold Y.seqM
  rw [h]
  rfl
theorem runG_rt {nN np : Nat} {ev : Y.G → Y.M (Y.Fl × Y.G)} {ds : List Y.D} {s : Y.Sl} {g1 : Y.G} (hl : ds.length = np) (h : ev (Y.ent none 0 ds ++ List.replicate (nN - np) none) = some (.ok (.rt s, g1))) : Y.runG none nN np ev ds = some (.ok (s, none)) := by
  unfold Y.runG
  rw [if_pos hl, h]
  rfl
theorem fc60 : sm 74 f__law_cells [(Kd.pair (.pair (full 15) (full 15)) (.pair (full 15) (full 15))).enc] = some (.ok (⟨.int 60, .fr, true⟩, none)) := by kernel_rfl
theorem wc' (j : Nat) (n : Int) (d4 d5 d6 : Y.D) (k60 : Y.D) (hk60 : k60 = (Kd.pair (.pair (full 15) (full 15)) (.pair (full 15) (full 15))).enc) (h1 : sm (j + 1) f_makings [Bk.enc lateB, .str "f", .lst [(full 15).enc]] = some (.ok (⟨allD late15, .ow, true⟩, none))) (h2 : sm (j + 1) f__law_full [.int 15] = some (.ok (⟨(full 15).enc, .fr, true⟩, none))) (h3 : sm (j + 1) f__law_cells [k60] = some (.ok (⟨.int 60, .fr, true⟩, none))) :
    Y.evClear (En j) 10 11 mk__law_edges_right cd__law_edges_right pa__law_edges_right (gM n (some ⟨d4, .fr, false⟩) (some ⟨d5, .fr, false⟩) (some ⟨d6, .fr, false⟩) (some ⟨twice.enc, .fr, true⟩) (some ⟨steep, .ow, true⟩) (some ⟨Bk.enc lateB, .fr, false⟩)) =
      some (.ok (.nx, gM n (some ⟨d4, .fr, false⟩) (some ⟨d5, .fr, false⟩) (some ⟨d6, .fr, false⟩) (some ⟨twice.enc, .fr, true⟩) none (some ⟨Bk.enc lateB, .fr, false⟩))) := by
  have ea : allD late15 = .obj "All" ["pairs"] [.lst [.tup [.str "f", .lst [(full 15).enc]], .tup [.str "g", .lst [(Kd.pair (full 15) (full 15)).enc]], .tup [.str "h", .lst [k60]]]] := by rw [hk60]; rfl
  rw [ea] at h1
  clear ea hk60
  generalize Bk.enc lateB = bo at *
  generalize hf15 : (full 15).enc = kf at *
  generalize (Kd.pair (full 15) (full 15)).enc = kg at *
  generalize htw : twice.enc = tw at *
  generalize steep = st at *
  unfold Y.evClear
  have hat : bo.atom = bo.atom := rfl
  simp [gL, mk__law_edges_right, cd__law_edges_right, pa__law_edges_right, Y.keepAux, h1, h2, h3, Y.notIo]
end Hd
set_option Elab.async false
set_option linter.all false
set_option maxRecDepth 1000000
set_option maxHeartbeats 0
namespace Hd
open PySem PySem.Spec L2
theorem wc (n : Int) (d4 d5 d6 : Y.D) : Y.evClear (En 73) 10 11 mk__law_edges_right cd__law_edges_right pa__law_edges_right (gM n (some ⟨d4, .fr, false⟩) (some ⟨d5, .fr, false⟩) (some ⟨d6, .fr, false⟩) (some ⟨twice.enc, .fr, true⟩) (some ⟨steep, .ow, true⟩) (some ⟨Bk.enc lateB, .fr, false⟩)) =
      some (.ok (.nx, gM n (some ⟨d4, .fr, false⟩) (some ⟨d5, .fr, false⟩) (some ⟨d6, .fr, false⟩) (some ⟨twice.enc, .fr, true⟩) none (some ⟨Bk.enc lateB, .fr, false⟩))) := wc' 73 n d4 d5 d6 _ rfl mk15 f15 fc60
def four : Kd := .pair twice twice
theorem wb0 (n : Int) (s4 s5 s6 s9 : Option Y.Sl) : Y.evS (En 73) (bs__law_edges_right.getD 0 .pass) (gM n s4 s5 s6 (some ⟨twice.enc, .fr, true⟩) none s9) = some (.ok (.nx, [some ⟨.int n, .fr, true⟩, some ⟨kD, .fr, true⟩, some ⟨tmsD wide13, .fr, true⟩, some ⟨tmsD some17, .fr, true⟩, s4, s5, s6, some ⟨twice.enc, .fr, true⟩, none, s9, none, none, some ⟨four.enc, .fr, true⟩, none, none, none, none])) := by kernel_rfl
theorem wb1 (n : Int) (s4 s5 s6 s9 : Option Y.Sl) : Y.evS (En 73) (bs__law_edges_right.getD 1 .pass) [some ⟨.int n, .fr, true⟩, some ⟨kD, .fr, true⟩, some ⟨tmsD wide13, .fr, true⟩, some ⟨tmsD some17, .fr, true⟩, s4, s5, s6, some ⟨twice.enc, .fr, true⟩, none, s9, none, none, some ⟨four.enc, .fr, true⟩, none, none, none, none] =
    some (.ok (.nx, [some ⟨.int n, .fr, true⟩, some ⟨kD, .fr, true⟩, some ⟨tmsD wide13, .fr, true⟩, some ⟨tmsD some17, .fr, true⟩, s4, s5, s6, some ⟨twice.enc, .fr, true⟩, none, s9, none, none, some ⟨four.enc, .fr, true⟩, some ⟨.lst ((overB n).map tell), .ow, true⟩, none, none, none])) := by kernel_rfl
theorem bs_all : bs__law_edges_right = [bs__law_edges_right.getD 0 .pass, bs__law_edges_right.getD 1 .pass, .ife (.cmp .ne (.call f__law_by_it [.call f__law_book [.var 13], .str "f", .lst [.call f__law_full [.int 15]]]) (.tup [.str "many", .non])) [.ret (.bl false)] [], .ret (.cmp .eq (.call f__law_by_it [.var 9, .str "f", .lst [.call f__law_full [.int 16]]]) (.tup [.str "many", .non]))] := by kernel_rfl
theorem ss_step {E : Y.Ev} {s : Y.S} {ss : List Y.S} {g g1 : Y.G} (h : Y.evS E s g = some (.ok (.nx, g1))) : Y.evSs E (s :: ss) g = Y.evSs E ss g1 := by
  rw [Y.evSs, h]
  rfl
theorem wbx (j : Nat) (n : Int) (s1 s2 s3 s4 s5 s6 s7 s12 : Option Y.Sl) (dO bO bL k15 k16 : Y.D) (n1 n2 : Bool) (h1 : sm (j + 1) f__law_book [dO] = some (.ok (⟨bO, .ow, false⟩, none))) (h2 : sm (j + 1) f__law_full [.int 15] = some (.ok (⟨k15, .fr, true⟩, none))) (h3 : sm (j + 1) f__law_full [.int 16] = some (.ok (⟨k16, .fr, true⟩, none)))
    (h4 : sm (j + 1) f__law_by_it [bO, .str "f", .lst [k15]] = some (.ok (⟨.tup [.str "many", .non], .fr, n1⟩, none))) (h5 : sm (j + 1) f__law_by_it [bL, .str "f", .lst [k16]] = some (.ok (⟨.tup [.str "many", .non], .fr, n2⟩, none))) :
    Y.rtD (Y.evSs (En j) [.ife (.cmp .ne (.call f__law_by_it [.call f__law_book [.var 13], .str "f", .lst [.call f__law_full [.int 15]]]) (.tup [.str "many", .non])) [.ret (.bl false)] [], .ret (.cmp .eq (.call f__law_by_it [.var 9, .str "f", .lst [.call f__law_full [.int 16]]]) (.tup [.str "many", .non]))] [some ⟨.int n, .fr, true⟩, s1, s2, s3, s4, s5, s6, s7, none, some ⟨bL, .fr, false⟩, none, none, s12, some ⟨dO, .ow, true⟩, none, none, none]) = some (.ok (.bl true, .fr)) := by
  simp [h1, h2, h3, h4, h5, eq_many]
theorem edges (n : Int) : ∃ f, sm 75 f__law_edges_right [.int n] = some (.ok (⟨.bl true, .fr, f⟩, none)) := by
  obtain ⟨n1, b1⟩ := byO n
  obtain ⟨n2, b2⟩ := by16
  obtain ⟨f, g', hb⟩ := Y.rtD_iff (wbx 73 n (some ⟨kD, .fr, true⟩) (some ⟨tmsD wide13, .fr, true⟩) (some ⟨tmsD some17, .fr, true⟩) (some ⟨told7 n, .fr, false⟩) (some ⟨Bk.enc (oneB n), .fr, false⟩) (some ⟨Bk.enc (twoB n), .fr, false⟩) (some ⟨twice.enc, .fr, true⟩) (some ⟨four.enc, .fr, true⟩) (.lst ((overB n).map tell)) (Bk.enc (overB n)) (Bk.enc lateB) _ _ n1 n2 (bk_over n) f15 f16 b1 b2)
  refine ⟨f, (sem__law_edges_right 73 [.int n]).trans (runG_rt rfl (g1 := g') ?_)⟩
  have e0 : Y.ent none 0 [.int n] ++ List.replicate (17 - 1) none = gL n none none none none none none none none none none := rfl
  rw [e0]
  unfold ev__law_edges_right Y.evClearI
  rw [pr_all]
  refine (seq_step (w0 n)).trans ((seq_step (w1 n)).trans ((seq_step (w2 n)).trans ((seq_step (w3 n)).trans ((seq_step (w4 n)).trans ((seq_step (w5 n)).trans ((seq_step (w6 n)).trans ((seq_step (w7 n)).trans ((seq_step (w8 n)).trans ((seq_step (w9 n)).trans ((seq_step (w10 n)).trans ((seq_step (w11 n _ _ _)).trans ((seq_step (w12 n _ _ _)).trans ((seq_step (w13 n _ _ _)).trans ((seq_step (w14 n _ _ _)).trans ?_))))))))))))))
  rw [Y.seqL]
  refine (seqM_nx (wc n _ _ _)).trans ?_
  rw [bs_all]
  exact (ss_step (wb0 n _ _ _ _)).trans ((ss_step (wb1 n _ _ _ _)).trans hb)
end Hd
set_option Elab.async false
set_option linter.all false
set_option maxRecDepth 1000000
set_option maxHeartbeats 0
namespace Hd
open PySem PySem.Spec L2
@[simp] theorem bin_modi (i j : Int) : Y.D.bin .mod (.int i) (.int j) = if j ≠ 0 then some (.int (i.fmod j)) else none := rfl
@[simp] theorem bin_fdivi (i j : Int) : Y.D.bin .fdiv (.int i) (.int j) = if j ≠ 0 ∧ j.natAbs < 1073741824 then some (.int (i.fdiv j)) else none := rfl
theorem bin_muli (i j : Int) : Y.D.bin .mul (.int i) (.int j) = if (-(2 ^ 64) < i ∧ i < 2 ^ 64) ∨ (-(2 ^ 64) < j ∧ j < 2 ^ 64) then some (.int (i * j)) else none := rfl
theorem mul_ok (i j : Int) (h : (-(2 ^ 64) < i ∧ i < 2 ^ 64) ∨ (-(2 ^ 64) < j ∧ j < 2 ^ 64)) : Y.D.bin .mul (.int i) (.int j) = some (.int (i * j)) := by rw [bin_muli, if_pos h]
theorem pow18 : Y.D.bin .pow (.int 10) (.int 18) = some (.int 1000000000000000000) := by kernel_rfl
theorem m124 : Y.D.bin .mod (.int 1) (.int 24) = some (.int 1) := by kernel_rfl
theorem t_draw (c most : Int) (hm : most ≠ 0) (k : Nat) : Y.Gives (sm (k + 2) f__law_draw [.int c, .int 2, .int most]) .fr (.int (((c * 48271 + 2 * 69621).fmod 1000037).fmod most)) := by
  have e1 := mul_ok c 48271 (.inr (by decide))
  have e2 : Y.D.bin .mul (.int 2) (.int 69621) = some (.int (2 * 69621)) := mul_ok 2 69621 (.inr (by decide))
  have e3 : Y.D.bin .mod (.int 2) (.int 16) = some (.int 2) := by kernel_rfl
  have e4 : ∀ a : Int, Y.D.bin .mod (.int a) (.int 1000037) = some (.int (a.fmod 1000037)) := fun a => by rw [bin_modi, if_pos (by decide)]
  have e5 : ∀ a : Int, Y.D.bin .mod (.int a) (.int most) = some (.int (a.fmod most)) := fun a => by rw [bin_modi, if_pos hm]
  rw [sem__law_draw]
  simp [Y.gives_iff, b__law_draw, e1, e2, e3, e4, e5, -bin_modi]
theorem t_number (c : Int) (k : Nat) : ∃ m : Int, Y.Gives (sm (k + 3) f__law_number [.int c, .int 1, .int 900]) .fr (.int m) := by
  have hs0 : c.fmod 1000003 = c % 1000003 := Int.fmod_eq_emod_of_nonneg c (by decide)
  have hs1 : 0 ≤ c.fmod 1000003 := by omega
  have hs2 : c.fmod 1000003 < 1000003 := by omega
  clear hs0
  have e4 : ∀ a : Int, Y.D.bin .mod (.int a) (.int 1009) = some (.int (a.fmod 1009)) := fun a => by rw [bin_modi, if_pos (by decide)]
  have e5 : ∀ a : Int, Y.D.bin .mod (.int a) (.int 900) = some (.int (a.fmod 900)) := fun a => by rw [bin_modi, if_pos (by decide)]
  have e6 : Y.D.bin .mod (.int c) (.int 1000003) = some (.int (c.fmod 1000003)) := by rw [bin_modi, if_pos (by decide)]
  have e7 : ∀ a : Int, Y.D.bin .fdiv (.int a) (.int 1009) = some (.int (a.fdiv 1009)) := fun a => by rw [bin_fdivi, if_pos (by decide)]
  have e8 : Y.D.bin .mod (.int 1) (.int 9) = some (.int 1) := by kernel_rfl
  have e9 : Y.D.bin .mul (.int 977) (.int 1) = some (.int 977) := by kernel_rfl
  have e10 : Y.D.bin .mul (.int 31) (.int 1) = some (.int 31) := by kernel_rfl
  have hr : Y.rngL 0 1 1 = [.int 0] := by kernel_rfl
  have hr2 : Y.rngOk 1 = true := by kernel_rfl
  have emul : Y.D.bin .mul (.int (c.fmod 1000003 + 977)) (.int (c.fmod 1000003 + 31 + 5)) = some (.int ((c.fmod 1000003 + 977) * (c.fmod 1000003 + 31 + 5))) := mul_ok _ _ (.inl ⟨by omega, by omega⟩)
  generalize c.fmod 1000003 = sm1 at *
  obtain ⟨n1, h1⟩ := (t_draw ((sm1 + 977) * (sm1 + 31 + 5)) 999983 (by decide) k).n
  rw [sem__law_number]
  by_cases hp : 0 < (c - 1000000000000000000).fdiv 1009
  · refine ⟨(((c - 1000000000000000000).fdiv 1009).fmod 1009).fmod 900, ?_⟩
    generalize hq : (c - 1000000000000000000).fdiv 1009 = q at *
    simp only [Y.gives_iff]
    simp [b__law_number, l1__law_number, pow18, m124, e4, e5, e7, hr, hr2, hq, hp, -bin_modi, -bin_fdivi]
  · refine ⟨((((sm1 + 977) * (sm1 + 31 + 5) * 48271 + 2 * 69621).fmod 1000037).fmod 999983).fmod 900, ?_⟩
    generalize hq : (c - 1000000000000000000).fdiv 1009 = q at *
    simp [Y.gives_iff, b__law_number, l1__law_number, pow18, m124, e4, e5, e6, e7, e8, e9, e10, emul, hr, hr2, hq, hp, h1, -bin_modi, -bin_fdivi]
end Hd
set_option Elab.async false
set_option linter.all false
set_option maxRecDepth 1000000
set_option maxHeartbeats 0
namespace Hd
open PySem PySem.Spec L2
def tt (x : Int) : Bool := true
theorem plain' (j : Nat) (he : ∀ n : Int, ∃ f, sm (j + 1) f__law_edges_right [.int n] = some (.ok (⟨.bl true, .fr, f⟩, none))) (hn : ∀ c : Int, ∃ m f, sm (j + 1) f__law_number [.int c, .int 1, .int 900] = some (.ok (⟨.int m, .fr, f⟩, none))) (ns : List Int) (hl : ns.length ≤ 63) :
    sm (j + 2) f_law [.scr ns] = some (.ok (⟨.bl true, .fr, true⟩, none)) := by
  have hcl : (Y.cutD ns none (some 3)).length ≤ 63 := by
    unfold Y.cutD
    simp
    omega
  have hsl : Y.slcS none (some 3) ⟨.scr ns, .fr, false⟩ = some ⟨.lst ((Y.cutD ns none (some 3)).map .int), .ow, true⟩ := by
    have hk : (Y.D.lst ((Y.cutD ns none (some 3)).map .int)).kidsAtom = true := by
      simp [Y.D.kidsAtom]
    show some (Y.Sl.mk (.lst ((Y.cutD ns none (some 3)).map .int)) .ow (false || (Y.D.lst ((Y.cutD ns none (some 3)).map .int)).kidsAtom)) = _
    rw [hk]
    rfl
  generalize Y.cutD ns none (some 3) = cs at *
  have hlen : 1 + cs.length ≤ 100000 := by omega
  obtain ⟨f, q⟩ := Y.comp1 (E := En j) (i := 1) (c := .bin .add (.lst [.int 0]) (.slc (.var 0) none (some (.int 3)))) (elt := .call f__law_edges_right [.call f__law_number [.var 1, .int 1, .int 900]]) (dl := .lst ((0 :: cs).map .int)) (m := .ow) (n := true) (g := [some ⟨.scr ns, .fr, false⟩, none]) (0 :: cs) .int (fun x => .bl (tt x)) (by simp [hsl, hlen]) rfl (by simp) (by simp) (by simp; omega) (fun x hx nf => by
    obtain ⟨m, f1, h1⟩ := hn x
    obtain ⟨f2, h2⟩ := he m
    simp [Y.evD, h1, h2, tt])
  rw [show Y.C.comp [1] (.one 1) .any [.bin .add (.lst [.int 0]) (.slc (.var 0) none (some (.int 3)))] none (.call f__law_edges_right [.call f__law_number [.var 1, .int 1, .int 900]]) = q1_law from rfl] at q
  have hall : ((0 :: cs).map tt).all id = true := by simp [tt]
  rw [sem_law]
  generalize (0 :: cs) = ds at *
  simp [b_law, q, -List.all_map, hall]
theorem plain (ns : List Int) (hl : ns.length ≤ 63) : sm 76 f_law [.scr ns] = some (.ok (⟨.bl true, .fr, true⟩, none)) :=
  plain' 74 edges (fun c => by
    obtain ⟨m, h⟩ := t_number c 72
    obtain ⟨f, h⟩ := h.n
    exact ⟨m, f, h⟩) ns hl
end Hd
set_option Elab.async false
set_option linter.all false
set_option maxRecDepth 100000
set_option maxHeartbeats 0
namespace Hd
open PySem PySem.Spec PyProof.Rows L2
theorem law_sp {K : PySem.W.Frag} {H : Hp} {a : Addr} {ns : List Int} (hl : ns.length ≤ 63) (hS : SqL K H a (ns.map V.int)) : Y.spD K none 1 (Y.sem tb.st stp 76 46) [.ref a] H (fun v _ => v = .bl true) fun _ _ _ => False := by
  refine ⟨H, [.scr ns], fun _ _ z => z, rfl, .val (by simp) (.scr hS) .nil, ?_⟩
  have e : Y.sem tb.st stp 76 46 [.scr ns] = some (.ok (⟨.bl true, .fr, true⟩, none)) := plain ns hl
  rw [e]
  intro v F1 H1 cp
  have z := cp.res
  dsimp only at z
  cases z
  rfl
theorem no_x {P : Program} {w : World} {H : Hp} {s s1 : Shared} {e : Value} (z : L2.CX P w [] H s (fun _ _ _ => False) e s1) : False := by
  obtain ⟨_, _, _, _, _, _, _, _, _, _, _, _, z⟩ := z
  exact z
end Hd
open PySem PySem.W PySem.Calls PyProof.Rows
theorem PySem.Challenge.cw_kindmakings_k16_edges_holds : PySem.Challenge.rw_kindmakings_k16_edges.Holds := by
  w_on; o_law
  refine HandSHeadRun.head_any (r := OpenLaw.row PySem.Challenge.rw_kindmakings_k16_edges) (q := view (OpenLaw.row PySem.Challenge.rw_kindmakings_k16_edges).prog [68]) (H := Hd.hk) (ob := Hd.ob) (M := 12000) (loose := Hd.loose) (d := HandSHeadRun.topDef (OpenLaw.row PySem.Challenge.rw_kindmakings_k16_edges).prog 68) (kwd := []) Hd.ob_eq
    (by kernel_rfl) (fun s => by kernel_rfl) Hd.run (by kernel_rfl) (by kernel_rfl) (by kernel_rfl) (by rfl) (by first | assumption | decide +kernel) (by decide +kernel) ⟨rfl, rfl, rfl, rfl, rfl, by decide +kernel⟩ ?hw ?hc
  case hw => w_witness2
  case hc =>
    refine LamX.walk_ofTsE (l := PySem.Challenge.rw_kindmakings_k16_edges) (n := 63) (k := 76) (x := "_law_script") (CX := fun w => L2.CX (PySem.Challenge.rw_kindmakings_k16_edges).prog w) rfl (by decide) (by kernel_rfl) ⟨rfl, by decide, by decide⟩ ?F (fun w H s e s1 z => Hd.no_x z)
    intro w mg fa h Yw G hmg0
    obtain ⟨K, KX, c⟩ := Yw
    have hmg : mg ("law" : PySem.Str) = some (.ref fa) := by
      have e : (HandSHeadRun.topDef (OpenLaw.row PySem.Challenge.rw_kindmakings_k16_edges).prog 68).name = ("law" : PySem.Str) := by kernel_rfl
      rw [← e]
      exact hmg0
    obtain ⟨fd, hb, hF⟩ := Hd.facts2 (P := (PySem.Challenge.rw_kindmakings_k16_edges).prog) (w := w) KX G hmg c
    exact ⟨K, KX, fd, [], _, (fun _ z => nomatch z), (fun _ z => nomatch z), (fun _ z => nomatch z), hb, fun H a ns hl _ _ hS => Hd.law_sp hl hS, fun base z1 z2 _ => hF base z1 z2⟩
