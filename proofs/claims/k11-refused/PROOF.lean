import PyProof.Rows.All
import HandS.Conv
import HandS.Deep
import HandS.Defaults
import HandS.Exc
import HandS.ExcOwn
import HandS.Flow
import HandS.ForMost
import HandS.HeadHook1
import HandS.HeadHook4
import HandS.IsInst
import HandS.Lambda
import HandS.SetFor
import HandS.Style
import HandS.TupAny
import HandS.TupMul
import HandS.Zip
import OpenK.AllK
import Wide.All
import Wide.FinOn
import HandS.ExcField
import HandS.Head2
import KE.KStateDown
import Lean
import HandS.Head0
import HandS.Head1
import HandS.HeadEnd
import HandS.HeadHook2
import HandS.HeadHook3
import PySem.Challenge.RW_kindmakings_k11_refused_functions
import HandS.Nested
import HandS.ExcIs
import HandS.Words
import HandS.Comp
import HandS.ExcCtx
import HandS.ExcInit
import HandS.ExcInitHot
import HandS.RaiseFrom
import HandS.SuiteRaise
import HandS.TryElse
import HandS.More
import PyProof.Rows.SortShellAny
import HandS.List
import KE.Datum
import KE.KDictZip
import HandS.ExcValue
import HandS.Walk
import HandS.Small
import HandS.HeadWalk
import HandS.CallRecv
import HandS.EndBits
import HandS.TryOnly
import HandS.EndTab
import HandS.HotCalls
set_option Elab.async false
set_option linter.all false
set_option maxRecDepth 100000
set_option maxHeartbeats 4000000
namespace Y
open PySem PySem.Spec PyProof.Rows L2
inductive D where
 | non | bl (b : Bool) | int (i : Int) | str (s : Str)
 | scr (ns : List Int)
 | lst (xs : List D) | tup (xs : List D)
 | ktup (xs : List Str)
 | dct (ks : List Key) (xs : List D)
 | dctT (ks : List (List Key)) (xs : List D)
 | obj (c : Str) (fs : List Str) (xs : List D)
 /-- whatever it is -/
 | opq
 /-- a lambda of the text, what it captured -/
 | clo (i : Nat) (xs : List D)
 /-- a caught exception of the class c -/
 | xcp (c : Str)
inductive Ty where
 | ty (n : String)
 | cls (c : Str)
def lamNs : List Str := ["_law_fields_right", "law"]
def lamT (K : PySem.W.Frag) : List (Addr × Str) := lamNs.filterMap fun x => if (He.Fa.glo x).ok K then some ((He.cT K (x, none)).2, (x ++ ".<locals>.") ++ "<lambda>") else none
def tyV' (K : PySem.W.Frag) : Sum String Str → Value
 | .inl a => .type a
 | .inr c => .ref (He.ga K c)
def Ty.u (K : PySem.W.Frag) : Ty → Value
 | .ty n => .type n
 | .cls c => .ref (He.ga K c)
def okN (x : Str) : Bool := !(x == ("__debug__" : Str)) && !(x == ("__classdict__" : Str)) && !(x == ("__name__" : Str))
def all2 {α β : Type} (f : α → β → Bool) : List α → List β → Bool
 | [], [] => true
 | a :: as, b :: bs => f a b && all2 f as bs
 | _, _ => false
def flagN (c : Str) : Bool := match c.cps[0]? with
 | some 33 => true
 | some 46 => true
 | _ => false
def cliN (c : Str) : Str := ("." : Str) ++ c
def clB (K : PySem.W.Frag) (c : Str) : Bool := (He.Fa.cls c).ok K && decide (PySem.W.findIn K (.ref (He.ga K c)) "__class__" = some (some (.builtin "object.__class__"))) &&
 decide (PySem.W.specialIn K (.builtin "object.__class__") "__get__" = some (some (.builtin "getset_descriptor.__get__"))) && decide (PySem.W.takesIn K (.builtin "object.__class__") = some true) && decide (PySem.W.mroIn K (He.ga K c) (.type "object") = some true)
def isiB (K : PySem.W.Frag) (p : Sum String Str × Ty × Bool) : Bool := decide (PySem.W.kitOne K (tyV' K p.1) (p.2.1.u K) = some p.2.2) && (match p.1 with | .inr c => clB K c | .inl _ => true)
def conB (K : PySem.W.Frag) (p : Str × D) : Bool := match p.2 with
 | .int i => (He.Fa.int p.1 i).ok K
 | .str z => (He.Fa.str p.1 z).ok K
 | _ => false
def strsB (l : List Value) (ss : List Str) : Bool := all2 (fun v s => match v with | .str x _ => decide (x = s) | _ => false) l ss
def tupStrB (K : PySem.W.Frag) (b : Addr) (ss : List Str) : Bool := match K.lookup b with
 | some ⟨c, _, .seq its _, _⟩ => decide (c = .type "tuple") && decide (its.size ≤ 1000) && strsB its.toList ss
 | _ => false
def kvB (K : PySem.W.Frag) (a : Addr) (p : Str × List Str) : Bool := match PySem.W.nsIn K a p.1 with
 | some (some (.ref b)) => tupStrB K b p.2
 | _ => false
def keysB (K : PySem.W.Frag) (a : Addr) (ks : List Str) : Bool := match K.lookup a with
 | some ⟨_, _, .dict es _, _⟩ => all2 (fun (e : DictEntry) k => match e.key with | .str x _ => decide (x = k) | _ => false) es.toList ks
 | _ => false
def bareB (K : PySem.W.Frag) (c : Str) : Bool := (He.Fa.glo c).ok K && PySem.W.makesIn K (He.ga K c) && decide (PySem.W.findIn K (.ref (He.ga K c)) "__init__" = some (some (.builtin "object.__init__"))) && decide (PySem.W.mroIn K (He.ga K c) (.type "object") = some true) && PySem.W.keepIn K (.ref (He.ga K c))
def isxB (K : PySem.W.Frag) (p : Str × Ty × Bool) : Bool :=
 decide (PySem.W.kitOne K (.ref (He.ga K p.1)) (p.2.1.u K) = some p.2.2) && (decide (PySem.W.findIn K (.ref (He.ga K p.1)) "__getattribute__" = some (some (.builtin "BaseException.__getattribute__"))) && decide (PySem.W.findIn K (.ref (He.ga K p.1)) "__getattr__" = some none) && decide (PySem.W.subIn K (.ref (He.ga K p.1)) (.type "BaseException") = some true) &&
 PySem.W.hasDictIn K (He.ga K p.1) && decide (PySem.W.findIn K (.ref (He.ga K p.1)) "__class__" = some (some (.builtin "object.__class__"))) && decide (PySem.W.specialIn K (.builtin "object.__class__") "__get__" = some (some (.builtin "getset_descriptor.__get__"))) && decide (PySem.W.takesIn K (.builtin "object.__class__") = some true) && decide (PySem.W.mroIn K (He.ga K p.1) (.type "object") = some true))
structure Tabs where
 glT : List (Str × Nat)
 mtT : List ((Str × Str) × Nat)
 iniT : List (Str × Nat)
 conT : List (Str × D)
 attT : List (Str × Str)
 kdT : List (Str × List (Str × List Str))
 isiT : List (Sum String Str × Ty × Bool)
 clT : List Str
 tab : List (Nat × Option Nat × List D)
 exT : List Str
 bltT : List Str
 bareT : List Str
 isxT : List (Str × Ty × Bool)
def Tabs.ok (t : Tabs) (K : PySem.W.Frag) : Bool :=
 (t.glT.all fun p => (He.Fa.glo p.1).ok K && (He.Fa.keep p.1).ok K) && (t.mtT.all fun p => (He.Fa.cls p.1.1).ok K && (He.Fa.meth p.1.1 p.1.2).ok K) && (t.iniT.all fun p => (He.Fa.glo p.1).ok K && (He.Fa.mkr p.1).ok K) &&
 (t.conT.all fun p => conB K p) && (t.attT.all fun p => (He.Fa.cls p.1).ok K && (He.Fa.noat p.1 p.2).ok K) && (t.isiT.all fun p => isiB K p) && (t.clT.all fun c => (He.Fa.glo c).ok K) && (t.exT.all fun c => (He.Fa.glo c).ok K && (He.Fa.exc c).ok K && okN c && !flagN c) &&
 (t.bltT.all fun x => (He.Fa.free x).ok K) && (t.kdT.all fun p => (He.Fa.glo p.1).ok K && keysB K (He.ga K p.1) (p.2.map (·.1)) && p.2.all fun kv => kvB K (He.ga K p.1) kv) && (t.bareT.all fun c => bareB K c) && (t.isxT.all fun p => isxB K p)
def Tabs.exB (t : Tabs) (x : Str) : Bool := t.exT.contains x
def tabC (K : PySem.W.Frag) (x : Str) : Bool := (lamT K).any (fun q => decide (q = ((He.cT K (x, none)).2, (x ++ ".<locals>.") ++ "<lambda>"))) && (lamT K).all fun q => !decide (q.1 = (He.cT K (x, none)).2) || decide (q.2 = (x ++ ".<locals>.") ++ "<lambda>")
def tryXB (K : PySem.W.Frag) (C : Str) (l : List Str) : Bool := l.all fun c => decide (PySem.W.exmOne K (.ref (He.ga K c)) (.ref (He.ga K C)) = some true)
end Y
namespace HY
open PySem PySem.Spec PyProof.Rows L2
def addY : List Addr → Nat → List Addr → Nat × List Addr
 | [], seen, new => (seen, new)
 | a :: r, seen, new => match Nat.testBit seen a with
  | true => addY r seen new
  | false => addY r (seen ||| (1 <<< a)) (a :: new)
def refsY (g : Addr → Option Obj) : List Addr → List Addr
 | [] => []
 | a :: r => match g a with
  | some o => He.refsD o ++ refsY g r
  | none => refsY g r
def growY (g : Addr → Option Obj) : Nat → Nat → List Addr → List Addr
 | 0, _, front => front
 | n + 1, seen, front => match addY (refsY g front) seen [] with
  | (seen', new) => front ++ growY g n seen' new
def asY (g : Addr → Option Obj) (n : Nat) : List Addr := growY g n (1 <<< mainGlobals) [mainGlobals]
end HY
namespace HYT
open PySem PySem.Spec PyProof.Rows L2 He
def asT (g : Addr → Option Obj) (n : Nat) : List Addr := PySem.cStatics :: HY.asY g n
def obsZ (n : Nat) (fn : List DefD) (ts : List Tab) (tf : List Defn) (ex : PySem.W.Frag → Bool) (g : Addr → Option Obj) : AlX := (obsT [] fn ts (frT g (asT g n)), ex (frT g (asT g n)) && tabsB g tf (frT g (asT g n)))
theorem saysZ_of {n : Nat} {fn : List DefD} {ts : List Tab} {tf : List Defn} {ex : PySem.W.Frag → Bool} {w : World} {h : Heap} (e : obsZ n fn ts tf ex h.get? = valX fn ts w) : SaysX [] fn ts tf ex w h (frT h.get? (asT h.get? n)) := by
 have e1 := congrArg (fun z : AlX => z.1) e
 have e2 := congrArg (fun z : AlX => z.2) e
 have e2 : (ex (frT h.get? (asT h.get? n)) && tabsB h.get? tf (frT h.get? (asT h.get? n))) = true := e2
 rw [Bool.and_eq_true] at e2
 have key : ∀ p ∈ tf, PySem.W.codeHdIn (frT h.get? (asT h.get? n)) (cT (frT h.get? (asT h.get? n)) p).1 (cT (frT h.get? (asT h.get? n)) p).2 = true ∧ ∃ o, h.get? (cT (frT h.get? (asT h.get? n)) p).2 = some o ∧ emptyTab o = true := by
  intro p hp
  have z := List.all_eq_true.mp e2.2 p hp
  rw [Bool.and_eq_true] at z
  refine ⟨z.1, ?_⟩
  have z2 := z.2
  cases q : h.get? (cT (frT h.get? (asT h.get? n)) p).2 with
  | none => rw [q] at z2; cases z2
  | some o => rw [q] at z2; exact ⟨o, rfl, z2⟩
 refine ⟨e1, e2.1, fun p hp => (key p hp).1, fun p hp => ?_, fun p hp => ?_⟩
 ·obtain ⟨_, o, q, z⟩ := key p hp
  exact frT_none q z
 ·obtain ⟨_, o, q, z⟩ := key p hp
  rw [q, emptyTab_eq z]
def hookZ (n : Nat) (fn : List DefD) (ts : List Tab) (tf : List Defn) (ex : PySem.W.Frag → Bool) : PySem.W.Hook where
 α := AlX
 obs := fun s => obsZ n fn ts tf ex s.heap.get?
 val := fun w => valX fn ts w
 says := fun w h => ∃ K : PySem.W.Frag, K.In h ∧ SaysX [] fn ts tf ex w h K
 of := fun _ _ e => ⟨_, frT_in, saysZ_of e⟩
 keeps := fun _ _ _ ⟨K, hK, c⟩ k => ⟨K, PySem.W.Frag.In.keeps hK k, ⟨c.t, c.more, c.hd, c.out, fun p hp => k _ _ (c.empty p hp)⟩⟩
theorem obsZ_eq {n : Nat} {fn : List DefD} {ts : List Tab} {tf : List Defn} {ex : PySem.W.Frag → Bool} {g : Addr → Option Obj} {s : Shared} (h : ∀ a, g a = s.heap.get? a) : obsZ n fn ts tf ex g = (hookZ n fn ts tf ex).obs s := by
 have e : g = s.heap.get? := funext h
 rw [e] <;> rfl
end HYT
namespace HYT
open PySem PySem.W PySem.Calls PyProof.Rows HandSHeadRun
def EqA (r : OpenRow) (q : Program) (M : Nat) (loose : List PySem.Str) (w : World) : Prop :=
 ∀ os : OsState, (endF (stepQ (denQ tabQ) r.prog w) M r.prog w os).map (fun s => (looksF r.prog (boot_heap w.params) s.abs, seenQ q loose (importedModules r.prog.main.body) (fun s => xlAt q [] s && recOk r.toRowW.records s) s.abs)) = some (true, openGood q loose)
def EqB {β : Type} (r : OpenRow) (ob : SharedT → β) (v : β) (M : Nat) (w : World) : Prop :=
 ∀ os : OsState, (endF (stepQ (denQ tabQ) r.prog w) M r.prog w os).map ob = some v
theorem runEq_of {r : OpenRow} {q : Program} {H : Hook} {ob : SharedT → H.α} {M : Nat} {loose : List PySem.Str} {w : World} {β γ : Type} {o1 : SharedT → β} {o2 : SharedT → γ} {v1 : β} {v2 : γ} (F : β → γ → H.α) (ho : ∀ s, ob s = F (o1 s) (o2 s)) (hv : H.val w = F v1 v2)
  (ha : EqA r q M loose w) (hb : EqB r o1 v1 M w) (hc : EqB r o2 v2 M w) : RunEq r q H ob M loose w := fun os => by
 have a := ha os
 have b := hb os
 have c := hc os
 cases e : endF (stepQ (denQ tabQ) r.prog w) M r.prog w os with
 | none => rw [e] at a; cases a
 | some s =>
  rw [e] at a b c
  have a := Option.some.inj a
  have b : o1 s = v1 := Option.some.inj b
  have c : o2 s = v2 := Option.some.inj c
  refine congrArg some ?_
  refine Prod.ext (congrArg (fun z => z.1) a) (Prod.ext (congrArg (fun z => z.2) a) ?_)
  exact (ho s).trans (by rw [b, c, hv])
end HYT
set_option maxHeartbeats 0
namespace Hd
open PySem PySem.Spec PyProof.Rows L2
def f_is_whole : Nat := 0
def f_is_name : Nat := 1
def f_is_kind : Nat := 2
def f_cells_of : Nat := 3
def f_fits_part : Nat := 4
def f_terms_room : Nat := 5
def f_term_room : Nat := 6
def f_is_term : Nat := 7
def f_copied : Nat := 8
def f_Function___init__ : Nat := 9
def f_Function_told : Nat := 10
def f_Book___init__ : Nat := 11
def f_Book_names : Nat := 12
def f_Book_function : Nat := 13
def f_cells : Nat := 14
def f__law_cell_at : Nat := 15
def f__law_kinds_of : Nat := 16
def f__law_refused : Nat := 17
def f__law_every : Nat := 18
def f__law_deep : Nat := 19
def f__law_no_kinds : Nat := 20
def f__law_no_terms : Nat := 21
def f__law_within : Nat := 22
def f__law_fields_right : Nat := 23
def f_law : Nat := 24
def top (i : Nat) : Stmt := PySem.Challenge.pw_kindmakings_k11_refused_functions.main.body.getD i (.Pass ⟨0, 0, 0, 0⟩)
abbrev s_is_whole : Stmt := top 13
abbrev s_is_name : Stmt := top 14
abbrev s_is_kind : Stmt := top 15
abbrev s_cells_of : Stmt := top 16
abbrev s_fits_part : Stmt := top 21
abbrev s_terms_room : Stmt := top 22
abbrev s_term_room : Stmt := top 23
abbrev s_is_term : Stmt := top 24
abbrev s_copied : Stmt := top 25
abbrev s_Function___init__ : Stmt := inClass (top 30) 0
abbrev s_Function_told : Stmt := inClass (top 30) 1
abbrev s_Book___init__ : Stmt := inClass (top 31) 0
abbrev s_Book_names : Stmt := inClass (top 31) 1
abbrev s_Book_function : Stmt := inClass (top 31) 2
abbrev s_cells : Stmt := top 32
abbrev s__law_cell_at : Stmt := top 34
abbrev s__law_kinds_of : Stmt := top 35
abbrev s__law_refused : Stmt := top 36
abbrev s__law_every : Stmt := top 37
abbrev s__law_deep : Stmt := top 38
abbrev s__law_no_kinds : Stmt := top 39
abbrev s__law_no_terms : Stmt := top 40
abbrev s__law_within : Stmt := top 41
abbrev s__law_fields_right : Stmt := top 42
abbrev s_law : Stmt := top 43
def glT : List (Str × Nat) := [("is_whole", 0), ("is_name", 1), ("is_kind", 2), ("cells_of", 3), ("fits_part", 4), ("terms_room", 5), ("term_room", 6), ("is_term", 7), ("copied", 8), ("cells", 14), ("_law_cell_at", 15), ("_law_kinds_of", 16), ("_law_refused", 17), ("_law_every", 18), ("_law_deep", 19), ("_law_no_kinds", 20), ("_law_no_terms", 21), ("_law_within", 22), ("_law_fields_right", 23), ("law", 24)]
def mtT : List ((Str × Str) × Nat) := [(("Function", "told"), 10), (("Book", "names"), 12), (("Book", "function"), 13)]
def iniT : List (Str × Nat) := [("Function", 9), ("Book", 11)]
def conT : List (Str × Y.D) := [("LETTERS", .str "abcdefghijklmnopqrstuvwxyz"), ("MOST_TERMS", .int 40), ("DEEPEST_TERM", .int 6), ("MOST_OPENS", .int 2), ("MOST_TAKES", .int 3), ("MOST_FUNCTIONS", .int 8)]
def attT : List (Str × Str) := [("Function", "name"), ("Function", "opens"), ("Function", "takes"), ("Function", "gives"), ("Function", "body"), ("Book", "table")]
def kdT : List (Str × List (Str × List Str)) := [("FORMS", [("num", ["number"]), ("yes", []), ("no", []), ("take", ["count"]), ("size", ["kind"]), ("plus", ["term", "term"]), ("less", ["term", "term"]), ("pair", ["term", "term"]), ("first", ["term"]), ("second", ["term"]), ("if", ["term", "term", "term"]), ("fail", ["number", "kind"]), ("ask", ["name", "kinds", "terms"])])]
def isiT0 : List (Sum String Str × Y.Ty × Bool) := [(.inl "NoneType", .cls "Function", false), (.inl "bool", .cls "Function", false), (.inl "int", .cls "Function", false), (.inl "str", .cls "Function", false), (.inl "list", .cls "Function", false), (.inl "tuple", .cls "Function", false), (.inl "dict", .cls "Function", false), (.inr "Function", .cls "Function", true), (.inr "Book", .cls "Function", false), (.inl "NoneType", .cls "BadFunction", false), (.inl "bool", .cls "BadFunction", false), (.inl "int", .cls "BadFunction", false), (.inl "str", .cls "BadFunction", false), (.inl "list", .cls "BadFunction", false), (.inl "tuple", .cls "BadFunction", false), (.inl "dict", .cls "BadFunction", false), (.inr "Function", .cls "BadFunction", false), (.inr "Book", .cls "BadFunction", false), (.inl "NoneType", .cls "BadBook", false), (.inl "bool", .cls "BadBook", false), (.inl "int", .cls "BadBook", false), (.inl "str", .cls "BadBook", false), (.inl "list", .cls "BadBook", false), (.inl "tuple", .cls "BadBook", false), (.inl "dict", .cls "BadBook", false)]
def isiT1 : List (Sum String Str × Y.Ty × Bool) := [(.inr "Function", .cls "BadBook", false), (.inr "Book", .cls "BadBook", false), (.inl "NoneType", .cls "BadName", false), (.inl "bool", .cls "BadName", false), (.inl "int", .cls "BadName", false), (.inl "str", .cls "BadName", false), (.inl "list", .cls "BadName", false), (.inl "tuple", .cls "BadName", false), (.inl "dict", .cls "BadName", false), (.inr "Function", .cls "BadName", false), (.inr "Book", .cls "BadName", false), (.inl "NoneType", .cls "BadKinds", false), (.inl "bool", .cls "BadKinds", false), (.inl "int", .cls "BadKinds", false), (.inl "str", .cls "BadKinds", false), (.inl "list", .cls "BadKinds", false), (.inl "tuple", .cls "BadKinds", false), (.inl "dict", .cls "BadKinds", false), (.inr "Function", .cls "BadKinds", false), (.inr "Book", .cls "BadKinds", false), (.inl "NoneType", .cls "BadWorths", false), (.inl "bool", .cls "BadWorths", false), (.inl "int", .cls "BadWorths", false), (.inl "str", .cls "BadWorths", false), (.inl "list", .cls "BadWorths", false)]
def isiT2 : List (Sum String Str × Y.Ty × Bool) := [(.inl "tuple", .cls "BadWorths", false), (.inl "dict", .cls "BadWorths", false), (.inr "Function", .cls "BadWorths", false), (.inr "Book", .cls "BadWorths", false), (.inl "NoneType", .cls "BadMost", false), (.inl "bool", .cls "BadMost", false), (.inl "int", .cls "BadMost", false), (.inl "str", .cls "BadMost", false), (.inl "list", .cls "BadMost", false), (.inl "tuple", .cls "BadMost", false), (.inl "dict", .cls "BadMost", false), (.inr "Function", .cls "BadMost", false), (.inr "Book", .cls "BadMost", false), (.inl "NoneType", .cls "Unfit", false), (.inl "bool", .cls "Unfit", false), (.inl "int", .cls "Unfit", false), (.inl "str", .cls "Unfit", false), (.inl "list", .cls "Unfit", false), (.inl "tuple", .cls "Unfit", false), (.inl "dict", .cls "Unfit", false), (.inr "Function", .cls "Unfit", false), (.inr "Book", .cls "Unfit", false), (.inl "NoneType", .cls "TooMany", false), (.inl "bool", .cls "TooMany", false), (.inl "int", .cls "TooMany", false)]
def isiT3 : List (Sum String Str × Y.Ty × Bool) := [(.inl "str", .cls "TooMany", false), (.inl "list", .cls "TooMany", false), (.inl "tuple", .cls "TooMany", false), (.inl "dict", .cls "TooMany", false), (.inr "Function", .cls "TooMany", false), (.inr "Book", .cls "TooMany", false), (.inl "NoneType", .cls "Unending", false), (.inl "bool", .cls "Unending", false), (.inl "int", .cls "Unending", false), (.inl "str", .cls "Unending", false), (.inl "list", .cls "Unending", false), (.inl "tuple", .cls "Unending", false), (.inl "dict", .cls "Unending", false), (.inr "Function", .cls "Unending", false), (.inr "Book", .cls "Unending", false), (.inr "Function", .ty "int", false), (.inr "Function", .ty "bool", false), (.inr "Function", .ty "str", false), (.inr "Function", .ty "list", false), (.inr "Function", .ty "tuple", false), (.inr "Function", .ty "dict", false), (.inr "Book", .ty "int", false), (.inr "Book", .ty "bool", false), (.inr "Book", .ty "str", false), (.inr "Book", .ty "list", false)]
def isiT4 : List (Sum String Str × Y.Ty × Bool) := [(.inr "Book", .ty "tuple", false), (.inr "Book", .ty "dict", false)]
def isiT : List (Sum String Str × Y.Ty × Bool) := isiT0 ++ isiT1 ++ isiT2 ++ isiT3 ++ isiT4
def clT : List Str := ["MakingError", "BadFunction", "BadBook", "BadName", "BadKinds", "BadWorths", "BadMost", "Unfit", "TooMany", "Unending", "Function", "Book"]
def exT : List Str := ["MakingError", "BadFunction", "BadBook", "BadName", "BadKinds", "BadWorths", "BadMost", "Unfit", "TooMany", "Unending"]
def bltT : List Str := ["ValueError", "abs", "all", "bool", "enumerate", "int", "isinstance", "len", "list", "range", "str", "tuple", "zip"]
def tab : List (Nat × Option Nat × List Y.D) := [(1, none, []), (1, none, []), (3, none, [.int 4]), (1, none, []), (3, none, []), (4, none, []), (4, none, []), (2, none, []), (1, none, []), (6, some 0, []), (1, none, []), (2, some 0, []), (1, none, []), (2, none, []), (1, none, []), (2, none, []), (1, none, []), (3, none, []), (3, none, []), (1, none, []), (1, none, []), (1, none, []), (2, none, []), (1, none, []), (1, none, [])]
def bareT : List Str := []
def isxT0 : List (Str × Y.Ty × Bool) := [("MakingError", .cls "BadFunction", false), ("MakingError", .cls "BadBook", false), ("MakingError", .cls "BadName", false), ("MakingError", .cls "BadKinds", false), ("MakingError", .cls "BadWorths", false), ("MakingError", .cls "BadMost", false), ("MakingError", .cls "Unfit", false), ("MakingError", .cls "TooMany", false), ("MakingError", .cls "Unending", false), ("BadFunction", .cls "BadFunction", true), ("BadFunction", .cls "BadBook", false), ("BadFunction", .cls "BadName", false), ("BadFunction", .cls "BadKinds", false), ("BadFunction", .cls "BadWorths", false), ("BadFunction", .cls "BadMost", false), ("BadFunction", .cls "Unfit", false), ("BadFunction", .cls "TooMany", false), ("BadFunction", .cls "Unending", false), ("BadBook", .cls "BadFunction", false), ("BadBook", .cls "BadBook", true), ("BadBook", .cls "BadName", false), ("BadBook", .cls "BadKinds", false), ("BadBook", .cls "BadWorths", false), ("BadBook", .cls "BadMost", false), ("BadBook", .cls "Unfit", false)]
def isxT1 : List (Str × Y.Ty × Bool) := [("BadBook", .cls "TooMany", false), ("BadBook", .cls "Unending", false), ("BadName", .cls "BadFunction", false), ("BadName", .cls "BadBook", false), ("BadName", .cls "BadName", true), ("BadName", .cls "BadKinds", false), ("BadName", .cls "BadWorths", false), ("BadName", .cls "BadMost", false), ("BadName", .cls "Unfit", false), ("BadName", .cls "TooMany", false), ("BadName", .cls "Unending", false), ("BadKinds", .cls "BadFunction", false), ("BadKinds", .cls "BadBook", false), ("BadKinds", .cls "BadName", false), ("BadKinds", .cls "BadKinds", true), ("BadKinds", .cls "BadWorths", false), ("BadKinds", .cls "BadMost", false), ("BadKinds", .cls "Unfit", false), ("BadKinds", .cls "TooMany", false), ("BadKinds", .cls "Unending", false), ("BadWorths", .cls "BadFunction", false), ("BadWorths", .cls "BadBook", false), ("BadWorths", .cls "BadName", false), ("BadWorths", .cls "BadKinds", false), ("BadWorths", .cls "BadWorths", true)]
def isxT2 : List (Str × Y.Ty × Bool) := [("BadWorths", .cls "BadMost", false), ("BadWorths", .cls "Unfit", false), ("BadWorths", .cls "TooMany", false), ("BadWorths", .cls "Unending", false), ("BadMost", .cls "BadFunction", false), ("BadMost", .cls "BadBook", false), ("BadMost", .cls "BadName", false), ("BadMost", .cls "BadKinds", false), ("BadMost", .cls "BadWorths", false), ("BadMost", .cls "BadMost", true), ("BadMost", .cls "Unfit", false), ("BadMost", .cls "TooMany", false), ("BadMost", .cls "Unending", false), ("Unfit", .cls "BadFunction", false), ("Unfit", .cls "BadBook", false), ("Unfit", .cls "BadName", false), ("Unfit", .cls "BadKinds", false), ("Unfit", .cls "BadWorths", false), ("Unfit", .cls "BadMost", false), ("Unfit", .cls "Unfit", true), ("Unfit", .cls "TooMany", false), ("Unfit", .cls "Unending", false), ("TooMany", .cls "BadFunction", false), ("TooMany", .cls "BadBook", false), ("TooMany", .cls "BadName", false)]
def isxT3 : List (Str × Y.Ty × Bool) := [("TooMany", .cls "BadKinds", false), ("TooMany", .cls "BadWorths", false), ("TooMany", .cls "BadMost", false), ("TooMany", .cls "Unfit", false), ("TooMany", .cls "TooMany", true), ("TooMany", .cls "Unending", false), ("Unending", .cls "BadFunction", false), ("Unending", .cls "BadBook", false), ("Unending", .cls "BadName", false), ("Unending", .cls "BadKinds", false), ("Unending", .cls "BadWorths", false), ("Unending", .cls "BadMost", false), ("Unending", .cls "Unfit", false), ("Unending", .cls "TooMany", false), ("Unending", .cls "Unending", true), ("MakingError", .ty "ValueError", true), ("BadFunction", .ty "ValueError", true), ("BadBook", .ty "ValueError", true), ("BadName", .ty "ValueError", true), ("BadKinds", .ty "ValueError", true), ("BadWorths", .ty "ValueError", true), ("BadMost", .ty "ValueError", true), ("Unfit", .ty "ValueError", true), ("TooMany", .ty "ValueError", true), ("Unending", .ty "ValueError", true)]
def isxT : List (Str × Y.Ty × Bool) := isxT0 ++ isxT1 ++ isxT2 ++ isxT3
def hsT : List Str := ["MakingError", "BadFunction", "BadBook", "BadName", "BadKinds", "BadWorths", "BadMost", "Unfit", "TooMany", "Unending"]
def tb : Y.Tabs := ⟨glT, mtT, iniT, conT, attT, kdT, isiT, clT, tab, exT, bltT, bareT, isxT⟩
def d_is_whole : He.DefD := ⟨("is_whole", none), "is_whole", "is_whole", defArgs s_is_whole, defBody s_is_whole, defScope s_is_whole, [], []⟩
def d_is_name : He.DefD := ⟨("is_name", none), "is_name", "is_name", defArgs s_is_name, defBody s_is_name, defScope s_is_name, [], []⟩
def d_is_kind : He.DefD := ⟨("is_kind", none), "is_kind", "is_kind", defArgs s_is_kind, defBody s_is_kind, defScope s_is_kind, [.int 4], []⟩
def d_cells_of : He.DefD := ⟨("cells_of", none), "cells_of", "cells_of", defArgs s_cells_of, defBody s_cells_of, defScope s_cells_of, [], []⟩
def d_fits_part : He.DefD := ⟨("fits_part", none), "fits_part", "fits_part", defArgs s_fits_part, defBody s_fits_part, defScope s_fits_part, [], []⟩
def d_terms_room : He.DefD := ⟨("terms_room", none), "terms_room", "terms_room", defArgs s_terms_room, defBody s_terms_room, defScope s_terms_room, [], []⟩
def d_term_room : He.DefD := ⟨("term_room", none), "term_room", "term_room", defArgs s_term_room, defBody s_term_room, defScope s_term_room, [], []⟩
def d_is_term : He.DefD := ⟨("is_term", none), "is_term", "is_term", defArgs s_is_term, defBody s_is_term, defScope s_is_term, [], []⟩
def d_copied : He.DefD := ⟨("copied", none), "copied", "copied", defArgs s_copied, defBody s_copied, defScope s_copied, [], []⟩
def d_Function___init__ : He.DefD := ⟨("Function", some "__init__"), "__init__", "Function.__init__", defArgs s_Function___init__, defBody s_Function___init__, defScope s_Function___init__, [], []⟩
def d_Function_told : He.DefD := ⟨("Function", some "told"), "told", "Function.told", defArgs s_Function_told, defBody s_Function_told, defScope s_Function_told, [], []⟩
def d_Book___init__ : He.DefD := ⟨("Book", some "__init__"), "__init__", "Book.__init__", defArgs s_Book___init__, defBody s_Book___init__, defScope s_Book___init__, [], []⟩
def d_Book_names : He.DefD := ⟨("Book", some "names"), "names", "Book.names", defArgs s_Book_names, defBody s_Book_names, defScope s_Book_names, [], []⟩
def d_Book_function : He.DefD := ⟨("Book", some "function"), "function", "Book.function", defArgs s_Book_function, defBody s_Book_function, defScope s_Book_function, [], []⟩
def d_cells : He.DefD := ⟨("cells", none), "cells", "cells", defArgs s_cells, defBody s_cells, defScope s_cells, [], []⟩
def d__law_cell_at : He.DefD := ⟨("_law_cell_at", none), "_law_cell_at", "_law_cell_at", defArgs s__law_cell_at, defBody s__law_cell_at, defScope s__law_cell_at, [], []⟩
def d__law_kinds_of : He.DefD := ⟨("_law_kinds_of", none), "_law_kinds_of", "_law_kinds_of", defArgs s__law_kinds_of, defBody s__law_kinds_of, defScope s__law_kinds_of, [], []⟩
def d__law_refused : He.DefD := ⟨("_law_refused", none), "_law_refused", "_law_refused", defArgs s__law_refused, defBody s__law_refused, defScope s__law_refused, [], []⟩
def d__law_every : He.DefD := ⟨("_law_every", none), "_law_every", "_law_every", defArgs s__law_every, defBody s__law_every, defScope s__law_every, [], []⟩
def d__law_deep : He.DefD := ⟨("_law_deep", none), "_law_deep", "_law_deep", defArgs s__law_deep, defBody s__law_deep, defScope s__law_deep, [], []⟩
def d__law_no_kinds : He.DefD := ⟨("_law_no_kinds", none), "_law_no_kinds", "_law_no_kinds", defArgs s__law_no_kinds, defBody s__law_no_kinds, defScope s__law_no_kinds, [], []⟩
def d__law_no_terms : He.DefD := ⟨("_law_no_terms", none), "_law_no_terms", "_law_no_terms", defArgs s__law_no_terms, defBody s__law_no_terms, defScope s__law_no_terms, [], []⟩
def d__law_within : He.DefD := ⟨("_law_within", none), "_law_within", "_law_within", defArgs s__law_within, defBody s__law_within, defScope s__law_within, [], []⟩
def d__law_fields_right : He.DefD := ⟨("_law_fields_right", none), "_law_fields_right", "_law_fields_right", defArgs s__law_fields_right, defBody s__law_fields_right, defScope s__law_fields_right, [], []⟩
def d_law : He.DefD := ⟨("law", none), "law", "law", defArgs s_law, defBody s_law, defScope s_law, [], []⟩
def fn0 : List He.DefD := [d_is_whole, d_is_name, d_is_kind, d_cells_of, d_fits_part, d_terms_room, d_term_room, d_is_term, d_copied, d_Function___init__, d_Function_told, d_Book___init__, d_Book_names, d_Book_function, d_cells, d__law_cell_at, d__law_kinds_of, d__law_refused, d__law_every, d__law_deep, d__law_no_kinds, d__law_no_terms, d__law_within, d__law_fields_right, d_law]
def fn : List He.DefD := fn0
def ts : List He.Tab := [(fun K => He.ga K "FORMS", ["num", "yes", "no", "take", "size", "plus", "less", "pair", "first", "second", "if", "fail", "ask"])]
def tf : List He.Defn := [("_law_fields_right", none), ("law", none)]
def ex (K : PySem.W.Frag) : Bool := tb.ok K && Y.tryXB K "MakingError" hsT && (((["_law_fields_right", "law"] : List Str).all (Y.tabC K)) && ((Y.lamT K).all fun q => (["_law_fields_right", "law"] : List Str).any fun x => decide ((He.cT K (x, none)).2 = q.1)))
abbrev R : PySem.W.OpenRow := PySem.W.OpenLaw.row PySem.Challenge.rw_kindmakings_k11_refused_functions
abbrev hk : PySem.W.Hook := HYT.hookZ 4 fn ts tf ex
def ob (s : PySem.W.SharedT) : He.AlX := HYT.obsZ 4 fn ts tf ex (HandSHeadRun.getT s)
theorem ob_eq (s : PySem.W.SharedT) : ob s = hk.obs s.abs := HYT.obsZ_eq (HandSHeadRun.getT_eq s)
def loose0 : List PySem.Str := ["__name__", "MakingError", "BadFunction", "BadBook", "BadName", "BadKinds", "BadWorths", "BadMost", "Unfit", "TooMany", "Unending", "LETTERS", "is_whole", "is_name", "is_kind", "cells_of", "MOST_TERMS", "DEEPEST_TERM", "FORMS", "fits_part", "terms_room", "term_room", "is_term", "copied", "MOST_OPENS", "MOST_TAKES", "MOST_FUNCTIONS", "Function", "Book", "cells"]
def loose1 : List PySem.Str := ["_law_cell_at", "_law_kinds_of", "_law_refused", "_law_every", "_law_deep", "_law_no_kinds", "_law_no_terms", "_law_within", "_law_fields_right"]
def loose : List PySem.Str := loose0 ++ loose1
abbrev qv : Program := PySem.W.view R.prog [43]
def ob1 (s : PySem.W.SharedT) : He.AlT := He.obsT [] fn ts (He.frT (HandSHeadRun.getT s) (HYT.asT (HandSHeadRun.getT s) 4))
def ob2 (s : PySem.W.SharedT) : Bool := ex (He.frT (HandSHeadRun.getT s) (HYT.asT (HandSHeadRun.getT s) 4)) && He.tabsB (HandSHeadRun.getT s) tf (He.frT (HandSHeadRun.getT s) (HYT.asT (HandSHeadRun.getT s) 4))
theorem runF_a (w : World) : HYT.EqA R qv 12000 loose (w.withFollow "special-get-raises" false) := by
 intro os
 kernel_rfl
theorem runF_b (w : World) : HYT.EqB R ob1 (He.valT fn ts (w.withFollow "special-get-raises" false)) 12000 (w.withFollow "special-get-raises" false) := by
 intro os
 kernel_rfl
theorem runF_c (w : World) : HYT.EqB R ob2 true 12000 (w.withFollow "special-get-raises" false) := by
 intro os
 kernel_rfl
theorem runF (w : World) : HandSHeadRun.RunEq R qv hk ob 12000 loose (w.withFollow "special-get-raises" false) := HYT.runEq_of (H := hk) Prod.mk (fun _ => rfl) rfl (runF_a w) (runF_b w) (runF_c w)
theorem runT_a (w : World) : HYT.EqA R qv 12000 loose (w.withFollow "special-get-raises" true) := by
 intro os
 kernel_rfl
theorem runT_b (w : World) : HYT.EqB R ob1 (He.valT fn ts (w.withFollow "special-get-raises" true)) 12000 (w.withFollow "special-get-raises" true) := by
 intro os
 kernel_rfl
theorem runT_c (w : World) : HYT.EqB R ob2 true 12000 (w.withFollow "special-get-raises" true) := by
 intro os
 kernel_rfl
theorem runT (w : World) : HandSHeadRun.RunEq R qv hk ob 12000 loose (w.withFollow "special-get-raises" true) := HYT.runEq_of (H := hk) Prod.mk (fun _ => rfl) rfl (runT_a w) (runT_b w) (runT_c w)
theorem run (w : World) : HandSHeadRun.RunEq R qv hk ob 12000 loose w := PySem.W.byRow2 "special-get-raises" runF runT w
end Hd
set_option maxHeartbeats 2000000
namespace Y
open PySem PySem.Spec PyProof.Rows L2
structure LF where
 qual : Str
 params : Arguments
 body : Expr
 scope : Scope
 cl : List (Str × Addr)
 c : Addr
abbrev LF.fd (F : LF) (pm ctv : Value) : FuncData := PySem.W.kla_fn "<lambda>" F.qual F.params F.body F.scope F.cl pm (.ref F.c) ctv
def LamO (f : Addr) (F : LF) : HO := .ext fun h => ∃ (od : Option Addr) (sl : Array (Option Value)) (pm ctv : Value), h.get? f = some (⟨.type "function", od, .func (F.fd pm ctv), sl⟩ : Obj)
def KnO (o : Obj) : HO := .frz o (.own 0)
def CelO (v : V) (o : HO) : Prop := ∃ (ob : Obj) (u : Value), o = KnO ob ∧ ob.data = .cell (some u) ∧ RelV v u
structure LT where
 qual : Str
 params : Arguments
 body : Expr
 scope : Scope
 fr : List Str
def topL (i : Nat) : Stmt := PySem.Challenge.pw_kindmakings_k11_refused_functions.main.body.getD i (.Pass ⟨0, 0, 0, 0⟩)
def lamE' : Nat → Expr → List (Arguments × Expr × Scope)
 | 0, _ => []
 | n + 1, e => match e with
  | .Lambda a b s _ => [(a, b, s)]
  | .List es _ => es.flatMap (lamE' n)
  | .Call f es _ _ => lamE' n f ++ es.flatMap (lamE' n)
  | .BinOp l _ r _ => lamE' n l ++ lamE' n r
  | .BoolOp _ es _ => es.flatMap (lamE' n)
  | .UnaryOp _ e _ => lamE' n e
  | _ => []
def lamS' : Nat → Stmt → List (Arguments × Expr × Scope)
 | 0, _ => []
 | n + 1, s => match s with
  | .Assign _ e _ => lamE' n e
  | .Return (some e) _ => lamE' n e
  | .If e b o _ => lamE' n e ++ b.flatMap (lamS' n) ++ o.flatMap (lamS' n)
  | .For _ e b o _ => lamE' n e ++ b.flatMap (lamS' n) ++ o.flatMap (lamS' n)
  | _ => []
def lamOf (xs : List (Str × List Str)) (ls : List (Arguments × Expr × Scope)) : List LT := (xs.zip ls).map fun (a, b) => ⟨a.1, b.1, b.2.1, b.2.2, a.2⟩
def lamTab : List LT := lamOf [("_law_fields_right.<locals>.<lambda>", ["_law_body"]), ("_law_fields_right.<locals>.<lambda>", ["_law_body"]), ("_law_fields_right.<locals>.<lambda>", ["_law_body"]), ("_law_fields_right.<locals>.<lambda>", ["_law_body"]), ("_law_fields_right.<locals>.<lambda>", [])] ((defBody (topL 42)).flatMap (lamS' 60)) ++ lamOf [("law.<locals>.<lambda>", []), ("law.<locals>.<lambda>", []), ("law.<locals>.<lambda>", ["_law_book"]), ("law.<locals>.<lambda>", [])] ((defBody (topL 43)).flatMap (lamS' 60))
def lamFr (i : Nat) : List Str := (lamTab[i]?.map (·.fr)).getD []
def LamIs (i : Nat) (L : LF) : Prop := ∃ t, lamTab[i]? = some t ∧ L.qual = t.qual ∧ L.params = t.params ∧ L.body = t.body ∧ L.scope = t.scope
structure CloC (G : Hp) (fr : List Str) (cl : List (Str × Addr)) (vs : List V) : Prop where
 len : vs.length = fr.length
 sub : ∀ y c, cl.lookup y = some c → y ∈ fr
 inj : ∀ x y c, cl.lookup x = some c → cl.lookup y = some c → x = y
 has : ∀ (j : Nat) (y : Str), fr[j]? = some y → ∃ c v, cl.lookup y = some c ∧ vs[j]? = some v ∧ ∃ o, G c = some o ∧ CelO v o
theorem CloC.mono2 {G G' : Hp} {fr : List Str} {cl : List (Str × Addr)} {vs : List V} (h : CloC G fr cl vs) (e : ∀ c o, G c = some (KnO o) → G' c = some (KnO o)) : CloC G' fr cl vs :=
 ⟨h.len, h.sub, h.inj, fun j y z => by
  obtain ⟨c, v, h1, h2, o, h3, ob, u, rfl, h5⟩ := h.has j y z
  exact ⟨c, v, h1, h2, _, e _ _ h3, ob, u, rfl, h5⟩⟩
theorem CloC.mono {G G' : Hp} {fr : List Str} {cl : List (Str × Addr)} {vs : List V} (h : CloC G fr cl vs) (e : ∀ b o, G b = some o → G' b = some o) : CloC G' fr cl vs := h.mono2 (fun _ _ z => e _ _ z)
end Y
namespace Y
open PySem PySem.Spec PyProof.Rows L2
def D.atom : D → Bool
 | .non => true | .bl _ => true | .int _ => true | .str _ => true | _ => false
inductive At (K : PySem.W.Frag) (G : Hp) : V → D → Prop
 | non : At K G .non .non
 | bl (b : Bool) : At K G (.bl b) (.bl b)
 | int (i : Int) : At K G (.int i) (.int i)
 | str (x : Str) : At K G (.str x) (.str x)
 | scr {a : Addr} {ns : List Int} : SqL K G a (ns.map V.int) → At K G (.ref a) (.scr ns)
 | opq (v : V) : At K G v .opq
 | clo {f : Addr} {i : Nat} {L : LF} {vs : List V} {ds : List D} : LamIs i L → G f = some (LamO f L) → G L.c = some (LamX.CodeO L.c L.qual) → CloC G (lamFr i) L.cl vs → Paired (At K G) vs ds → At K G (.ref f) (.clo i ds)
 | xcp {a : Addr} {c : Str} {oe : Obj} : G a = some (KnO oe) → Zc (.ref (He.ga K c)) none oe → (∃ vs, oe.data = .fields vs) → At K G (.ref a) (.xcp c)
 | ktup {a : Addr} {xs : List Str} : SqT K (fun _ => none) a (xs.map V.str) → At K G (.ref a) (.ktup xs)
 | lst {a : Addr} {vs : List V} {ds : List D} : G a = some (.lst vs) → Paired (At K G) vs ds → At K G (.ref a) (.lst ds)
 | tup {a : Addr} {vs : List V} {ds : List D} : G a = some (.tup vs) → Paired (At K G) vs ds → At K G (.ref a) (.tup ds)
 | dct {a : Addr} {kvs : List (Key × V)} {ks : List Key} {ds : List D} : Rd G a (.dK kvs) → kvs.map (·.1) = ks → Paired (At K G) (kvs.map (·.2)) ds → At K G (.ref a) (.dct ks ds)
 | dctT {a : Addr} {kvs : List (List Key × V)} {ks : List (List Key)} {ds : List D} : G a = some (.dT kvs) → kvs.map (·.1) = ks → Paired (At K G) (kvs.map (·.2)) ds → At K G (.ref a) (.dctT ks ds)
 | obj {a dx : Addr} {c : Str} {kvs : List (Str × V)} {fs : List Str} {ds : List D} : G a = some (.ins (He.ga K c) dx kvs) → kvs.map (·.1) = fs → Paired (At K G) (kvs.map (·.2)) ds → At K G (.ref a) (.obj c fs ds)
end Y
namespace XC
open PySem PySem.Spec PyProof.Rows L2 PySem.HandSPX
section
variable {M : Model} {A : Around} {E : Value → Shared → Prop} {s : Shared} {env : Env}
def postX (M : Model) (A : Around) (E : Value → Shared → Prop) (use : Option (Value → Sem Unit)) (Q : Value → Shared → Prop) (acc : Value) (ce : Env) (r : Result) (t : Shared) : Prop := match r with
 | .error x => ∃ m, t.heap.Ns ce.locals m ∧ ∀ h, Heap.SameBut ce.locals t.heap h → wpAny M A (passOn "comprehension.variables-let-go" x ce : Sem Value) (fun _ _ => False) E { t with heap := h }
 | .ok _ => match use with
  | none => ∃ m, t.heap.Ns ce.locals m ∧ ∀ h, Heap.SameBut ce.locals t.heap h → Q acc { t with heap := h }
  | some u => wpAny M A (u acc) (fun _ t2 => ∃ m, t2.heap.Ns ce.locals m ∧ ∀ h, Heap.SameBut ce.locals t2.heap h → Q .none { t2 with heap := h }) E t
theorem comp_x {e : Expr} {scope : Scope} {pos : Pos} {newAcc first : Sem Value} {g : Comprehension} {gs : List Comprehension} {cl : List (Str × Addr)} {use : Option (Value → Sem Unit)} {Q : Value → Shared → Prop}
  (hcl : clausesOf e = g :: gs) (hs : ∀ x, foldedSetIterable g.iter env x = pure x) (hclos : closureFor scope env = pure cl) (hkind : scope.kind = .function) (hnames : ∀ x ∈ scope.names, x.2 = .local → scope.names.lookup x.1 = some .local)
  (h : wpAny M A first (fun x t1 => wpAny M A (pyIter x) (fun it t2 => wpAny M A newAcc (fun acc t3 => wpAny M A (newFunctionEnv scope env.globals cl [] env.qual none .none (some env))
   (fun cenv t4 => codeAny M A (.compStart e 0 it acc { cenv with scope := relabel scope env }) (postX M A E use Q acc { cenv with scope := relabel scope env }) t4) E t3) E t2) E t1) E s) :
  wpAny M A (comprehension e scope env pos newAcc false first use) Q E s := by
 unfold comprehension
 rw [hclos, hcl]
 refine wpAny_bind (wpAny_mono h (fun x t1 h1 => ?_) fun _ _ z => z)
 refine wpAny_bind (wpAny_standAt (wpAny_bind (wpAny_of_eq (hs x) (wpAny_bind (wpAny_holding (wpAny_mono h1 (fun it t2 h2 => ?_) fun _ _ z => z))))))
 refine wpAny_standIf (wpAny_bind (wpAny_mono h2 (fun acc t3 h3 => wpAny_bind (wpAny_pure (wpAny_bind (wpAny_mono h3 (fun cenv t4 h4 => ?_) fun _ _ z => z)))) fun _ _ z => z))
 dsimp only
 have kof : ∀ n, scope.names.lookup n = some .local → Env.kindOf { cenv with scope := relabel scope env } n = some .local := fun n hn => lookup_relabel_local hn
 have v1 : ∀ x ∈ (scope.names.filter fun x => (x.2 == .local || x.2 == .cell) && x.1 != (".0" : Str)).reverse, x.2 = .local → Env.kindOf { cenv with scope := relabel scope env } x.1 = some .local := fun x hx hl =>
  kof _ (hnames x (List.mem_filter.mp (List.mem_reverse.mp hx)).1 hl)
 have v2 : ∀ x ∈ (scope.names.filter fun x => (x.2 == .local || x.2 == .cell) && x.1 != (".0" : Str)).reverse.drop 1 ++ (scope.names.filter fun x => (x.2 == .local || x.2 == .cell) && x.1 != (".0" : Str)).reverse.take 1, x.2 = .local → Env.kindOf { cenv with scope := relabel scope env } x.1 = some .local :=
  fun x hx hl => (List.mem_append.mp hx).elim (fun z => v1 x (List.mem_of_mem_drop z) hl) fun z => v1 x (List.mem_of_mem_take z) hl
 refine wpAny_holding (wpAny_bind (wpAny_attempt (wpAny_holding (wpAny_run (codeAny_mono h4 fun r t hr => ?_)))))
 cases r with
 | ok f =>
  cases use with
  | none =>
   obtain ⟨m, hn, hr⟩ := hr
   exact wpAny_bind (wpAny_holding (wpAny_comp_letGo (cenv := { cenv with scope := relabel scope env }) hkind _ t m v1 hn fun h' m' _ hs' => wpAny_pure (hr h' hs')))
  | some u =>
   refine wpAny_bind (wpAny_rule (wpAny_bind (wpAny_holding (wpAny_mono hr (fun _ t2 ⟨m, hn, hr2⟩ => ?_) fun _ _ z => z))))
   exact wpAny_bind (wpAny_comp_letGo (cenv := { cenv with scope := relabel scope env }) hkind _ t2 m v2 hn fun h' m' _ hs' => wpAny_pure (hr2 h' hs'))
 | error x =>
  obtain ⟨m, hn, hr⟩ := hr
  exact wpAny_bind (wpAny_holding (wpAny_comp_letGo (cenv := { cenv with scope := relabel scope env }) hkind _ t m v1 hn fun h' m' _ hs' => wpAny_mono (hr h' hs') (fun _ _ f => f.elim) fun _ _ y => y))
end
theorem note_fl {M : Model} {A : Around} {E : Value → Shared → Prop} {s : Shared} {Z : Obj → Prop} {base : Heap} {env : Env} {outer : List Env} {L e : Addr} {fl : Value} {Q : Unit → Shared → Prop} (hZ : PXN.Steady1 Z) (hfr : A.frames = some (env :: outer)) (hf : env.frame = some L)
  (hkb : base.StaysIn s.heap) (hen : base.get? e = none) (hl : s.heap.FunFrames base (env :: outer)) (ht : TracedZ s.heap base e Z fl) (hfl : (fl == rawInt L) = false)
  (hQ : ∀ h', HeldZ base (env :: outer) e Z L h' → s.heap.UpToSlots h' → Q () { s with heap := h' }) : wpAny M A (noteFrame (.ref e) env) Q E s := by
 obtain ⟨oe, vs, T, oT, ts, he, hz, hd, h1, hnT, hTe, hT, hdT, h3⟩ := ht
 unfold noteFrame
 simp only [hf]
 refine wpAny_bind (wpAny_field he hd h1 ?_)
 rw [if_pos (show (Value.ref T != Value.none) = true from by simp)]
 refine wpAny_bind (wpAny_field hT hdT h3 ?_)
 rw [if_neg (by rw [hfl]; decide)]
 refine wpAny_bind (wpAny_setField hT hdT (Array.getElem?_eq_some_iff.mp h3).1 ?_)
 have oth : ∀ b, b ≠ T → (s.heap.update T (Obj.mapFields (·.setIfInBounds 3 Value.none))).get? b = s.heap.get? b := fun b hb => Heap.get?_update_other _ _ (Ne.symm hb)
 have noR : ∀ b o, s.heap.get? b = some o → (∀ us, o.data ≠ .fields us) → b ≠ T := fun b o hb hnf q => by
  rw [q, hT] at hb
  cases hb
  exact hnf ts hdT
 refine PXN.wpAny_entryZ hZ hfr (hl.of_keeps fun b o hb hnf => ⟨o, (oth b (noR b o hb hnf)).trans hb, rfl⟩) hf ((oth e (Ne.symm hTe)).trans he) (fun b o hb => (oth b fun q => by rw [q, hnT] at hb; cases hb).trans (hkb b o hb))
  hen hd (Array.getElem?_eq_some_iff.mp h1).1 hz fun h' ⟨x1, x2, x3, x4⟩ => ?_
 exact hQ h' ⟨x1, hen, x2, x3⟩ fun b o hb hnf => x4 b o ((oth b (noR b o hb hnf)).trans hb) hnf
theorem rawInt_ne {a b : Addr} (h : a ≠ b) : (rawInt a == rawInt b) = false := by
 cases q : (rawInt a == rawInt b) with
 | false => rfl
 | true =>
  have e : rawInt a = rawInt b := by simpa using q
  simp [rawInt] at e
  exact absurd (Int.ofNat_inj.mp e) h
theorem frames_but {h h' B B' : Heap} {C : Addr} (k : ∀ b, b ≠ C → h'.get? b = h.get? b) (kB : ∀ b, B.get? b = none → B'.get? b = none) : ∀ {l : List Env}, C ∉ l.filterMap (·.frame) → h.FunFrames B l → h'.FunFrames B' l
 | [], _, _ => trivial
 | env :: r, hC, hl => by
  obtain ⟨hk, ⟨L, o, hf, hn, ho, hd⟩, hr⟩ := hl
  rw [List.filterMap_cons, hf] at hC
  have hC' : C ≠ L ∧ C ∉ r.filterMap (·.frame) := by simpa using hC
  exact ⟨hk, ⟨L, o, hf, kB L hn, (k L (Ne.symm hC'.1)).trans ho, hd⟩, frames_but k kB hC'.2 hr⟩
theorem held_but {h h' B B' : Heap} {C a L : Addr} {l : List Env} {Z : Obj → Prop} {oC : Obj} (x : HeldZ B l a Z L h) (k : ∀ b, b ≠ C → h'.get? b = h.get? b) (hC : h.get? C = some oC) (hd : ∀ vs, oC.data ≠ .fields vs) (nC : C ∉ l.filterMap (·.frame))
  (b1 : ∀ b, b ≠ C → B'.get? b = B.get? b) (b2 : B'.get? C = none) : HeldZ B' l a Z L h' := by
 obtain ⟨x1, x2, x3, oe, vs, T, oT, ts, e1, e2, e3, e4, e5, e6, e7, e8, e9⟩ := x
 have kB : ∀ b, B.get? b = none → B'.get? b = none := fun b hb => by
  by_cases e : b = C
  ·rw [e]; exact b2
  ·rw [b1 b e]; exact hb
 have naC : ∀ {b : Addr} {o : Obj} {us : Array Value}, h.get? b = some o → o.data = .fields us → b ≠ C := fun {b o us} z z2 e => by
  rw [e, hC] at z
  cases z
  exact hd us z2
 refine ⟨fun b o hb => ?_, kB a x2, frames_but k kB nC x3, oe, vs, T, oT, ts, (k a (naC e1 e3)).trans e1, e2, e3, e4, kB T e5, e6, (k T (naC e7 e8)).trans e7, e8, e9⟩
 have ne : b ≠ C := fun e => by rw [e, b2] at hb; cases hb
 rw [b1 b ne] at hb
 exact (k b ne).trans (x1 b o hb)
end XC
namespace RX
open PySem PySem.Spec PyProof.Rows L2 PySem.HandSPX
def chn (x : Addr) (c : Value) : HO := .ext fun h => ∃ (o : Obj) (vs : Array Value), h.get? x = some o ∧ o.data = .fields vs ∧ vs[2]? = some c
def KC (H : Hp) : Nat → Addr → Prop
 | 0, x => H x = some (chn x .none)
 | n + 1, x => ∃ y, H x = some (chn x (.ref y)) ∧ KC H n y
theorem KC.mono {H H' : Hp} (e : ∀ b o, H b = some o → H' b = some o) : ∀ {n : Nat} {x : Addr}, KC H n x → KC H' n x
 | 0, _, h => e _ _ h
 | n + 1, _, ⟨y, h1, h2⟩ => ⟨y, e _ _ h1, h2.mono e⟩
theorem KC.is {H : Hp} : ∀ {n : Nat} {x : Addr}, KC H n x → H x ≠ none
 | 0, _, h => by rw [show H _ = _ from h]; simp
 | n + 1, _, ⟨y, h1, _⟩ => by rw [h1]; simp
def Ctx (H : Hp) (o : Obj) : Prop := ∀ vs : Array Value, o.data = .fields vs → vs[2]? = some .none ∨ ∃ n x, vs[2]? = some (.ref x) ∧ KC H n x
theorem steady_ctx {H : Hp} : PXN.Steady1 (Ctx H) := fun o v h => by
 obtain ⟨c, d, dt, sl⟩ := o
 cases dt with
 | fields vs0 =>
  intro vs e
  have e2 : vs0.setIfInBounds 1 v = vs := Data.fields.inj e
  have e3 : (vs0.setIfInBounds 1 v)[2]? = vs0[2]? := by
   first
   | exact Array.getElem?_setIfInBounds_ne (by decide)
   | simp [Array.getElem?_setIfInBounds]
  rw [← e2, e3]; exact h vs0 rfl
 | _ => intro vs e; first | exact Data.noConfusion e | cases e
def Zk (H : Hp) (cls : Value) (d : Option Addr) : Obj → Prop := fun o => o.cls = cls ∧ o.dict = d ∧ Ctx H o
theorem Zk.steady {H : Hp} {cls : Value} {d : Option Addr} : PXN.Steady1 (Zk H cls d) := fun o v h => ⟨PXN.steady_cls o v h.1, PXN.steady_dict o v h.2.1, steady_ctx o v h.2.2⟩
theorem Zk.zc {H : Hp} {cls : Value} {d : Option Addr} {o : Obj} (h : Zk H cls d o) : Zc cls d o := ⟨h.1, h.2.1⟩
theorem Zk.of {H : Hp} {cls : Value} {d : Option Addr} {o : Obj} (h : L2N.Zn cls d o) : Zk H cls d o := ⟨h.1, h.2.1, fun vs e => .inl (h.2.2 vs e)⟩
def XE (X : Cx) (W : WX) (u : Value) (t : Shared) : Prop := ∃ (a : Addr) (B : Heap) (t0 : Shared) (pins : List (Addr × Obj)) (σ : L2.St) (H : Hp) (cls : Value) (d : Option Addr), u = .ref a ∧ L2.Inv X pins σ H t0 ∧
 (∀ b o, t0.heap.get? b = some o → b ∉ frs X.stack → B.get? b = some o) ∧ t0.heap.UpToSlots t.heap ∧ Sky B X.stack a (Zk H cls d) X.env.locals t.heap ∧ H a = none ∧ t.os = t0.os ∧ AllBare t.gens ∧ W cls d σ H
def Takes (X : Cx) (W : WX) : Prop := ∀ u t, XE X W u t → X.xe u t
def CX (P : Program) (w : World) (outer : List Env) (H : Hp) (s : Shared) (E : XK) (u : Value) (t : Shared) : Prop := ∃ (a : Addr) (B : Heap) (H' : Hp) (cls : Value) (d : Option Addr), u = .ref a ∧ FlyingZ B outer a (Zk H' cls d) t.heap ∧ HOk P w H' B ∧
 UB (frs outer) H H' s.heap B t.heap ∧ H' a = none ∧ t.os = s.os ∧ AllBare t.gens ∧ E cls d H'
section
variable {X : Cx} {pins : List (Addr × Obj)} {σ : L2.St} {H : Hp} {s t t0 : Shared} {B : Heap} {W : WX} {E : XK}
theorem XE.of_call (I : L2.Inv X pins σ H s) (hW : ∀ cls d H', E cls d H' → W cls d σ H') {u : Value} (c : CX X.prog X.w X.stack H s E u t) : XE X W u t := by
 obtain ⟨a, B, H', cls, d, rfl, fl, hok, ub, na, os, ag, hE⟩ := c
 obtain ⟨G, g1, g2⟩ := restrict t.heap fun b => (B.get? b).isSome || decide (b ∈ frs X.stack)
 have st : B.StaysIn t.heap := fl.1
 have gB : ∀ b o, B.get? b = some o → G.get? b = some o := fun b o e => (g1 b (by simp [e])).trans (st b o e)
 have gF : ∀ b, b ∈ frs X.stack → G.get? b = t.heap.get? b := fun b hb => g1 b (by simp [hb])
 have og : ∀ b o, G.get? b = some o → t.heap.get? b = some o ∧ ((B.get? b).isSome = true ∨ b ∈ frs X.stack) := fun b o e => by
  cases q : ((B.get? b).isSome || decide (b ∈ frs X.stack)) with
  | false => rw [g2 b q] at e; cases e
  | true => rw [g1 b q] at e; exact ⟨e, by simpa [Bool.or_eq_true] using q⟩
 refine ⟨a, B, { s with heap := G, gens := t.gens, drawn := t.drawn, toks := t.toks }, pins, σ, H', cls, d, rfl, ?_, fun b o e hb => ?_, Heap.UpToSlots.of_keeps fun b o e => (og b o e).1, .inr (.inl fl), na, os, ag, hW _ _ _ hE⟩
 ·refine I.call (ch := []) ⟨fun b o e n hb _ => gB b o (ub.keep b o e n hb), fun b o e n hb _ => (ub.slot b o e hb).imp fun sl q => (gF b hb).trans q, fun b o e n _ => ub.free b o e n, fun b o e _ => ?_, ub.tups, ub.frzs, ub.tbls⟩ (hok.kept gB) ag (fun _ z => nomatch z)
  by_cases hb : b ∈ frs X.stack
  ·obtain ⟨sl, q⟩ := ub.slot b o e hb
   exact ⟨_, (gF b hb).trans q⟩
  ·obtain ⟨o', q⟩ := ub.there b o e hb
   exact ⟨o', gB b o' q⟩
 ·obtain ⟨e', h⟩ := og b o e
  rcases h with h | h
  ·obtain ⟨o', q⟩ := Option.isSome_iff_exists.mp h
   have z := st b o' q
   rw [e'] at z
   cases z
   exact q
  ·exact absurd h hb
theorem XE.new {a : Addr} {oe : Obj} {vs : Array Value} {cls : Value} {d : Option Addr} (I : L2.Inv X pins σ H t0) (k : ∀ b o, t0.heap.get? b = some o → t.heap.get? b = some o) (hne : t0.heap.get? a = none) (he : t.heap.get? a = some oe) (hz : Zk H cls d oe) (hd : oe.data = .fields vs)
  (h1 : vs[1]? = some .none) (na : H a = none) (os : t.os = t0.os) (ag : AllBare t.gens) (w : W cls d σ H) : XE X W (.ref a) t := by
 have hid : (PySem.W.hideAll t0.heap (frs X.stack)).get? a = none := by
  cases q : (PySem.W.hideAll t0.heap (frs X.stack)).get? a with
  | none => rfl
  | some o => have z := PySem.W.of_hideAll _ q; rw [hne] at z; cases z
 refine ⟨a, PySem.W.hideAll t0.heap (frs X.stack), t0, pins, σ, H, cls, d, rfl, I, fun b o e hb => PySem.W.hideAll_get _ e hb, Heap.UpToSlots.of_keeps k, .inl ⟨fun b o e => k b o (PySem.W.of_hideAll _ e), hid, ?_, oe, vs, he, hz, hd, h1⟩, na, os, ag, w⟩
 exact Heap.FunFrames.of_keeps (fun b o e _ => ⟨o, k b o e, rfl⟩) (funFrames_none I.stack fun b hb => PySem.W.hideAll_none _ hb)
theorem XE.leave (hs : X.stack = X.env :: X.outer) (hf : X.env.frame = some X.env.locals) (hex : X.ex = []) {E1 : Value → Shared → Prop} (hW : ∀ cls d σ H, W cls d σ H → E cls d H) {u : Value} (x : XE X W u t) :
  wpAny (model X.prog X.w) X.A (leaving X.env u) (fun _ t2 => CX X.prog X.w X.outer X.H_0 X.s_0 E u t2) E1 t := by
 obtain ⟨a, B, t0, pins, σ, H, cls, d, rfl, I, nb, up, sky, na, os, ag, w⟩ := x
 have hfr : X.A.frames = some (X.env :: X.outer) := by rw [I.ok.frames, hs]
 have nst : ∀ b o, X.s_0.heap.get? b = some o → b ∉ X.fs → b ∉ frs X.stack := fun b o e hb hm => (List.mem_cons.mp (I.stkSub b hm)).elim (fun z => by
  have h1 := Heap.lt_size e
  rw [z] at h1
  exact absurd (Nat.lt_of_lt_of_le h1 I.ok.above) (Nat.lt_irrefl _)) hb
 have hex' : ∀ b, b ∉ X.ex := fun b hb => by rw [hex] at hb; cases hb
 have fin : ∀ h', FlyingZ B X.outer a (Zk H cls d) h' → t.heap.UpToSlots h' → CX X.prog X.w X.outer X.H_0 X.s_0 E (.ref a) { t with heap := h' } := fun h' fl up' => by
  refine ⟨a, B, H, cls, d, rfl, fl, I.inGround nb, ⟨fun b o e n hb => nb b o (I.base.keep b o e n hb (hex' b)) (nst b o e hb), fun b o e hb => ?_, fun b o e n => I.base.free b o e n (hex' b), fun b o e hb => ?_, I.base.tups, I.base.frzs, I.base.tbls⟩, na, os.trans I.os, ag, hW _ _ _ _ w⟩
  ·obtain ⟨_, o0, e0, hnf⟩ := I.ok.funs.mem hb
   rw [e] at e0
   cases e0
   obtain ⟨sl, e1⟩ := I.base.slot b o e (I.ok.frf b hb) hb (hex' b)
   obtain ⟨sl2, e2⟩ := up b _ e1 hnf
   obtain ⟨sl3, e3⟩ := up' b _ e2 hnf
   exact ⟨sl3, e3⟩
  ·obtain ⟨o', e1⟩ := I.base.there b o e (hex' b)
   exact ⟨o', nb b o' e1 (nst b o e hb)⟩
 rw [hs] at sky
 rcases sky with ⟨hB, hn, hl, oe, vs, he, hz, hd, h1⟩ | fl | hd
 ·exact PXN.leaving_firstZ Zk.steady hfr hl hf he hB hn hd h1 hz fin
 ·exact PXN.leaves_onZ Zk.steady hfr hf fl fin
 ·exact leaves_heldZ hf hd fin
theorem takes_of (hs : X.stack = X.env :: X.outer) (hf : X.env.frame = some X.env.locals) (hex : X.ex = []) {E1 : Value → Shared → Prop} (hx : X.xe = fun e t => wpAny (model X.prog X.w) X.A (leaving X.env e) (fun _ t2 => CX X.prog X.w X.outer X.H_0 X.s_0 E e t2) E1 t) :
  Takes X (fun cls d _ H => E cls d H) := fun u t x => by
 rw [hx]; exact XE.leave (W := fun cls d _ H => E cls d H) (E := E) hs hf hex (fun _ _ _ _ h => h) x
theorem passes_call (tk : Takes X W) (hW : ∀ cls d σ H, E cls d H → W cls d σ H) : Passes (CX X.prog X.w) X E := fun _ σ _ _ e t I c => tk e t (XE.of_call I (fun cls d H' h => hW cls d σ H' h) c)
theorem land {M : Model} {A : Around} {E1 : Value → Shared → Prop} {env : Env} {outer : List Env} {L a : Addr} {Z : Obj → Prop} {Q : Unit → Shared → Prop} (hZ : PXN.Steady1 Z) (hfr : A.frames = some (env :: outer)) (hf : env.frame = some L) (x : Sky B (env :: outer) a Z L s.heap)
  (hQ : ∀ h', FlyingZ B (env :: outer) a Z h' → s.heap.UpToSlots h' → Q () { s with heap := h' }) : wpAny M A (noteFrame (.ref a) env) (fun _ t => wpAny M A (setFlight (.ref a) none) Q E1 t) E1 s := by
 have fin : ∀ h1, HeldZ B (env :: outer) a Z L h1 → s.heap.UpToSlots h1 → wpAny M A (setFlight (.ref a) none) Q E1 { s with heap := h1 } := fun h1 hh up => landsZ hh fun h' fl up' => hQ h' fl (up.trans up')
 rcases x with ⟨hB, hn, hl, oe, vs, he, hz, hd, h1⟩ | fl | hh
 ·exact PXN.look_newZ hZ hfr hl hf he hB hn hd h1 hz fin
 ·exact PXN.looks_onZ hZ hfr hf fl fin
 ·exact againZ hf hh.2.2.2 (fin s.heap hh (Heap.UpToSlots.refl _))
end
theorem ps_raise {X : Cx} {W : WX} {e : Expr} {t : L2.St → Hp → XK → Prop} {pos : Pos} (hc : X.calm = true) (tk : Takes X W) (he : L2N.PMk X e t) : PS X (.Raise (some e) none pos) (fun _ σ H => t σ H fun cls d H' => W cls d σ H') := by
 refine ⟨fun pins s σ H D I h => ?_⟩
 show wpAny _ _ (do standAt pos; raiseStmt X.env (some (do let v ← eval e X.env; standAt pos; pure v)) none) _ _ _
 refine wpAny_bind (wpAny_standAt (raise_made (I.ok.hd hc) (wpAny_bind (wpAny_mono (he pins s σ H _ I h) (fun u t1 hu => wpAny_bind (wpAny_standAt (wpAny_pure ?_))) fun _ _ x => x))))
 obtain ⟨a, oe, vs, t0, H', cls, d, rfl, J, k, hne, ha, hz, hd, h1, na, os, ag, r, q⟩ := hu
 obtain ⟨r1, r2⟩ := r (model X.prog X.w) t1.heap (J.kIn.keeps k)
 exact ⟨a, oe, vs, cls, rfl, ha, hz.1, hd, h1, r1, r2, tk _ _ (XE.new J k hne ha (Zk.of hz) hd h1 na os ag q)⟩
theorem weak {X : Cx} {W : WX} {u : Value} {t : Shared} (x : XE X W u t) : L2.XE X W u t := by
 obtain ⟨a, B, t0, pins, σ, H, cls, d, e, I, nb, up, sky, na, os, ag, w⟩ := x
 refine ⟨a, B, t0, pins, σ, H, cls, d, e, I, nb, up, ?_, na, os, ag, w⟩
 have tz : ∀ {fl : Value}, TracedZ t.heap B a (Zk H cls d) fl → TracedZ t.heap B a (Zc cls d) fl := fun ⟨oe, vs, T, oT, ts, h1, h2, h3⟩ => ⟨oe, vs, T, oT, ts, h1, h2.zc, h3⟩
 rcases sky with ⟨hB, hn, hl, oe, vs, he, hz, hd, h1⟩ | fl | hh
 ·exact .inl ⟨hB, hn, hl, oe, vs, he, hz.zc, hd, h1⟩
 ·exact .inr (.inl ⟨fl.1, fl.2.1, fl.2.2.1, tz fl.2.2.2⟩)
 ·exact .inr (.inr ⟨hh.1, hh.2.1, hh.2.2.1, tz hh.2.2.2⟩)
theorem of_l2 {X : Cx} {W : WX} (tk : L2.Takes X W) : Takes X W := fun u t x => tk u t (weak x)
theorem l2_none {X : Cx} : L2.Takes X fun _ _ _ _ => False := fun _ _ ⟨_, _, _, _, _, _, _, _, _, _, _, _, _, _, _, _, w⟩ => w.elim
end RX
namespace Y
open PySem PySem.Spec PyProof.Rows L2
mutual
def D.py : D → Option PyData
 | .non => some .none
 | .bl b => some (.bool b)
 | .int i => some (.int i)
 | .str s => some (.str s)
 | .lst xs => (pyL xs).map .list
 | .tup xs => (pyL xs).map .tuple
 | .scr _ => none
 | .ktup _ => none
 | .dct _ _ => none
 | .dctT _ _ => none
 | .obj _ _ _ => none
 | .opq => none
 | .clo _ _ => none
 | .xcp _ => none
def pyL : List D → Option (List PyData)
 | [] => some []
 | x :: xs => match x.py, pyL xs with
  | some a, some b => some (a :: b)
  | _, _ => none
end
def okP (p : PyData) : Bool := p.canLay0 && decide (p.depth ≤ 128)
def D.eqP (a b : D) : Option Bool := match a.py, b.py with
 | some p, some q => if okP p && okP q then some (PyData.eqv p q) else none
 | none, some q => (match q, a with | .tuple [], .tup _ => some false | _, _ => none)
 | _, _ => none
def D.eqE (a b : D) : Option Bool := match a with
 | .str x => (match b with | .str y => some (decide (x = y)) | _ => D.eqP a b)
 | _ => D.eqP a b
def lim : Nat := 100000
def D.truth : D → Option Bool
 | .non => some false
 | .bl b => some b
 | .int i => some (i != 0)
 | .str s => if s.length ≤ lim then some ((s.length : Int) != 0) else none
 | .scr ns => some (!ns.isEmpty)
 | .lst xs => some (!xs.isEmpty)
 | .tup xs => some (!xs.isEmpty)
 | _ => none
def D.len : D → Option Int
 | .str s => if s.length ≤ lim then some (s.length : Int) else none
 | .scr ns => some (ns.length : Int)
 | .lst xs => some (xs.length : Int)
 | .tup xs => some (xs.length : Int)
 | .ktup xs => some (xs.length : Int)
 | .dct ks _ => some (ks.length : Int)
 | _ => none
def D.key : D → Option Key
 | .int i => some (.inl i)
 | .str s => some (.inr s)
 | _ => none
def keyL : List D → Option (List Key)
 | [] => some []
 | x :: xs => match x.key, keyL xs with
  | some a, some b => some (a :: b)
  | _, _ => none
def D.keyT : D → Option (List Key)
 | .tup xs => keyL xs
 | _ => none
def look {κ α : Type} [DecidableEq κ] : List κ → List α → κ → Option α
 | k :: ks, x :: xs, j => if k = j then some x else look ks xs j
 | _, _, _ => none
def D.idx (x i : D) : Option D := match x with
 | .lst xs => match i with | .int n => atI xs n | _ => none
 | .tup xs => match i with | .int n => atI xs n | _ => none
 | .scr ns => match i with | .int n => (atI ns n).map .int | _ => none
 | .str s => match i with | .int n => if s.length ≤ lim then (atI s.cps.toList n).map fun c => .str ⟨#[c]⟩ else none | _ => none
 | .dct ks xs => match i.key with | some k => look ks xs k | none => none
 | .dctT ks xs => match i.keyT with | some k => look ks xs k | none => none
 | _ => none
def cutD {α : Type} (xs : List α) (lo hi : Option Int) : List α := (xs.drop (HT.sIx xs.length 0 lo)).take (HT.sIx xs.length xs.length hi - HT.sIx xs.length 0 lo)
def D.slc (x : D) (lo hi : Option Int) : Option D := match x with
 | .lst xs => some (.lst (cutD xs lo hi))
 | .tup xs => some (.tup (cutD xs lo hi))
 | .scr ns => some (.lst ((cutD ns lo hi).map .int))
 | _ => none
inductive BOp where
 | add | sub | mul | mod | fdiv | pow
 deriving DecidableEq
def D.add (x y : D) : Option D := match x with
 | .int i => match y with | .int j => some (.int (i + j)) | _ => none
 | .str a => match y with | .str b => if a.length + b.length ≤ lim then some (.str (a ++ b)) else none | _ => none
 | .lst a => match y with | .lst b => if a.length + b.length ≤ lim then some (.lst (a ++ b)) else none | _ => none
 | .tup a => match y with | .tup b => if a.length + b.length ≤ lim then some (.tup (a ++ b)) else none | _ => none
 | _ => none
def D.mul (x y : D) : Option D := match x with
 | .int i => match y with | .int j => if (-(2 ^ 64) < i ∧ i < 2 ^ 64) ∨ (-(2 ^ 64) < j ∧ j < 2 ^ 64) then some (.int (i * j)) else none | _ => none
 | .lst a => match y with | .int j => if -(2 ^ 63) ≤ j ∧ j < 2 ^ 63 ∧ a.length * j.toNat ≤ lim then some (.lst (List.replicate j.toNat a).flatten) else none | _ => none
 | .tup a => match y with | .int j => if 1 ≤ a.length ∧ 2 ≤ j ∧ j ≤ 1000 ∧ a.length ≤ 1000 then some (.tup (List.replicate j.toNat a).flatten) else none | _ => none
 | _ => none
def D.bin (op : BOp) (x y : D) : Option D := match op with
 | .add => x.add y
 | .mul => x.mul y
 | .sub => match x with | .int i => (match y with | .int j => some (.int (i - j)) | _ => none) | _ => none
 | .mod => match x with | .int i => (match y with | .int j => if j ≠ 0 then some (.int (i.fmod j)) else none | _ => none) | _ => none
 | .fdiv => match x with | .int i => (match y with | .int j => if j ≠ 0 ∧ j.natAbs < 1073741824 then some (.int (i.fdiv j)) else none | _ => none) | _ => none
 | .pow => match x with | .int i => (match y with | .int j => if 0 ≤ j ∧ j ≤ 1000000 ∧ i.natAbs < 2 ^ 64 then some (.int (i ^ j.toNat)) else none | _ => none) | _ => none
inductive KOp where
 | eq | ne | lt | le | gt | ge | inn | nin | is_ | isn
 deriving DecidableEq
def D.inn (x y : D) : Option Bool := match y with
 | .lst ys => match D.py x, pyL ys with
  | some p, some qs => if okP p && okP (.list qs) then some (qs.any fun z => PyData.eqv z p) else none
  | _, _ => none
 | .tup ys => match D.py x, pyL ys with
  | some p, some qs => if okP p && okP (.tuple qs) then some (qs.any fun z => PyData.eqv z p) else none
  | _, _ => none
 | .str s => match x with
  | .str t => match t.cps.toList with
   | [c] => some (decide (c ∈ s.cps.toList))
   | _ => none
  | _ => none
 | .dct ks xs => match x.key with | some k => some (look ks xs k).isSome | none => none
 | .dctT ks xs => match x.keyT with | some k => some (look ks xs k).isSome | none => none
 | _ => none
def D.isN : D → Option Bool
 | .non => some true
 | .opq => none
 | .clo _ _ => none
 | .xcp _ => none
 | _ => some false
def D.cmp (op : KOp) (x y : D) : Option Bool := match op with
 | .eq => x.eqE y
 | .ne => (x.eqE y).map (!·)
 | .lt => match x, y with | .int i, .int j => some (decide (i < j)) | _, _ => none
 | .le => match x, y with | .int i, .int j => some (decide (i ≤ j)) | _, _ => none
 | .gt => match x, y with | .int i, .int j => some (decide (j < i)) | _, _ => none
 | .ge => match x, y with | .int i, .int j => some (decide (j ≤ i)) | _, _ => none
 | .inn => x.inn y
 | .nin => (x.inn y).map (!·)
 | .is_ => match y with
  | .non => x.isN
  | .bl b => match x with | .bl a => some (decide (a = b)) | .non => some false | .obj _ _ _ => some false | _ => none
  | _ => none
 | .isn => match y with
  | .non => x.isN.map (!·)
  | .bl b => match x with | .bl a => some (!decide (a = b)) | .non => some true | .obj _ _ _ => some true | _ => none
  | _ => none
def intsD : List D → Option (List Int)
 | [] => some []
 | .int i :: xs => (intsD xs).map (i :: ·)
 | _ :: _ => none
def blsD : List D → Option (List Bool)
 | [] => some []
 | .bl i :: xs => (blsD xs).map (i :: ·)
 | _ :: _ => none
def strItems (s : Str) : List D := s.cps.toList.map fun c => .str ⟨#[c]⟩
def D.items : D → Option (List D)
 | .lst xs => some xs
 | .tup xs => some xs
 | .scr ns => some (ns.map .int)
 | .str s => some (strItems s)
 | _ => none
inductive Mode where
 | fr | ow | io
 deriving DecidableEq
structure Sl where
 d : D
 m : Mode := .fr
 n : Bool := false
abbrev G := List (Option Sl)
structure Xc where
 c : Str
 fs : List (Str × D) := []
instance : Coe Str Xc := ⟨fun c => ⟨c, []⟩⟩
inductive Oc (α : Type) where
 | ok (a : α)
 | ex (c : Xc)
abbrev M (α : Type) := Option (Oc α)
def M.bnd {α β : Type} (m : M α) (f : α → M β) : M β := match m with
 | none => none
 | some (.ex c) => some (.ex c)
 | some (.ok a) => f a
@[simp] theorem bnd_ok {α β : Type} (a : α) (f : α → M β) : M.bnd (some (.ok a)) f = f a := rfl
@[simp] theorem bnd_none {α β : Type} (f : α → M β) : M.bnd none f = none := rfl
@[simp] theorem bnd_ex {α β : Type} (c : Xc) (f : α → M β) : M.bnd (some (.ex c)) f = some (.ex c) := rfl
def M.nox {α : Type} (m : M α) : M α := match m with
 | some (.ex _) => none
 | m => m
@[simp] theorem nox_ok {α : Type} (a : α) : M.nox (some (.ok a)) = some (.ok a) := rfl
@[simp] theorem nox_none {α : Type} : M.nox (none : M α) = none := rfl
@[simp] theorem nox_ex {α : Type} (c : Xc) : M.nox (some (.ex c) : M α) = none := rfl
def M.opt {α : Type} (o : Option α) : M α := o.map .ok
@[simp] theorem opt_some {α : Type} (a : α) : M.opt (some a) = some (.ok a) := rfl
@[simp] theorem opt_none {α : Type} : M.opt (none : Option α) = none := rfl
inductive BI where
 | len | list | tuple | all | any | sum | max1 | max2 | min2 | abs | int | str
 deriving DecidableEq
inductive Tg where
 | one (i : Nat)
 | tup (is : List Nat)
inductive ItK where
 | any | rng1 | rng2 | rng3 | enum | zip | ezip | zipn
 deriving DecidableEq
inductive C where
 | var (i : Nat) | int (i : Int) | str (s : Str) | bl (b : Bool) | non
 | con (x : Str)
 | tup (cs : List C) | lst (cs : List C) | dnew | dnewT
 | bin (op : BOp) (a b : C)
 | neg (a : C)
 | cmp (op : KOp) (a b : C)
 | chain (op op' : KOp) (a b c : C)
 | and_ (a b : C) | or_ (a b : C) | not_ (a : C)
 | ife (t a b : C)
 | idx (a b : C)
 | slc (a : C) (lo hi : Option C)
 | rev (a : C)
 | lrg (a : C)
 | sset (a : C)
 | cnt (a b : C)
 | att (a : C) (f : Str)
 | call (f : Nat) (args : List C)
 | new (c : Str) (f : Nat) (args : List C)
 | meth (m : Str) (io : Option Nat) (o : C) (args : List C)
 | bi (b : BI) (args : List C)
 | isi (a : C) (t : Ty)
 | index (o a : C)
 | dget (o a : C)
 | kget (x : Str) (a : C)
 | kin (neg : Bool) (x : Str) (a : C)
 | bare (x : Str)
 | peek (c : C)
 | comp (own : List Nat) (tg : Tg) (k : ItK) (its : List C) (cond : Option C) (elt : C)
 | compX (own : List Nat) (tg : Tg) (k : ItK) (its : List C) (elt : C)
 | cini (x : Str) (f : Nat) (args : List C)
inductive S where
 | asg (i : Nat) (c : C)
 | asgT (is : List Nat) (c : C)
 | par2 (i j : Nat) (a b : C)
 | par3 (i j k : Nat) (a b c : C)
 | aug (i : Nat) (op : BOp) (c : C)
 | setI (i : Nat) (k v : C)
 | setA (i : Nat) (f : Str) (v : C)
 | app (i : Nat) (c : C)
 | ext (i : Nat) (c : C)
 | expr (c : C)
 | ife (t : C) (a b : List S)
 | for_ (tg : Tg) (k : ItK) (its : List C) (body : List S)
 | forD (i j : Nat) (f : Str) (body : List S)
 | while_ (t : C) (body : List S)
 | ret (c : C)
 | retN
 | raise (c : Str)
 | raiseH (a b : C)
 | augA (i : Nat) (f : Str) (n : Int)
 | tryH (iF : Nat) (c : C) (iL : Nat) (ss : List S)
 | pass | brk | cont
structure Ev where
 fn : Nat → List D → M (Sl × Option (D × Bool))
 fm : Nat → List D → M (Sl × Option (D × Bool))
 io : Nat → Option Nat
 dfl : Nat → List D
 np : Nat → Nat
 con : Str → Option D
 att : Str → Str → Bool
 isi : Sum String Str → Ty → Option Bool
 isx : Str → Ty → Option Bool
 mt : Str → Str → Option Nat
 ini : Str → Option Nat
 gl : Str → Option Nat
 cl : Str → Bool
 kd : Str → Option (List (Str × List Str))
 bare : Str → Bool
def G.get (g : G) (i : Nat) : Option Sl := (g[i]?).join
def G.put (g : G) (i : Nat) (s : Sl) : G := g.set i (some s)
def D.kidsAtom : D → Bool
 | .lst xs => xs.all D.atom
 | .tup xs => xs.all D.atom
 | .dct _ xs => xs.all D.atom
 | .dctT _ xs => xs.all D.atom
 | .obj _ _ xs => xs.all D.atom
 | _ => true
def takeV (g : G) (i : Nat) : M (Sl × G) := match g.get i with
 | some ⟨d, .fr, n⟩ => some (.ok (⟨d, .fr, n || d.atom⟩, g))
 | some ⟨d, .ow, n⟩ => some (.ok (⟨d, .fr, n⟩, g.put i ⟨d, .fr, n⟩))
 | _ => none
def Sl.frz (s : Sl) : Sl := ⟨s.d, .fr, s.n⟩
inductive Op where
 | val (s : Sl)
 | slot (i : Nat)
def Op.get (g : G) : Op → Option Sl
 | .val s => some s
 | .slot i => (g.get i).map fun s => ⟨s.d, s.m, s.n || s.d.atom⟩
def atm (d : D) : Sl := ⟨d, .fr, true⟩
def mkL (m : Mode) (d : D) (ss : List Sl) : Sl := ⟨d, m, ss.all (·.n)⟩
def dsL (ss : List Sl) : List D := ss.map (·.d)
mutual
def D.flat : D → Bool
 | .non => true
 | .bl _ => true
 | .int _ => true
 | .str _ => true
 | .tup xs => flatL xs
 | _ => false
def flatL : List D → Bool
 | [] => true
 | x :: xs => x.flat && flatL xs
end
def keyD : Key → D
 | .inl i => .int i
 | .inr s => .str s
def showP (p : PyData) : Bool := p.canLay0 && p.showable && decide (p.depth ≤ 64) && decide (p.shown.length ≤ 16000000)
def strD (d : D) : Option Sl := match d with
 | .lst xs => (match (D.lst xs).py with
  | some p => if showP p then some (atm (.str p.shown)) else none
  | none => none)
 | .tup xs => (match (D.tup xs).py with
  | some p => if showP p then some (atm (.str p.shown)) else none
  | none => none)
 | .int i => if showP (.int i) then some (atm (.str (PyData.int i).shown)) else none
 | .bl b => some (atm (.str (PyData.bool b).shown))
 | _ => none
def biD (b : BI) (args : List Sl) : Option Sl := match b, args with
 | .str, [x] => strD x.d
 | .len, [x] => x.d.len.map fun n => atm (.int n)
 | .list, [x] => match x.d with
  | .lst xs => some ⟨.lst xs, .ow, x.n || flatL xs⟩
  | .tup xs => some ⟨.lst xs, .ow, x.n || flatL xs⟩
  | .scr ns => some ⟨.lst (ns.map .int), .ow, true⟩
  | .dct ks _ => some ⟨.lst (ks.map keyD), .ow, true⟩
  | _ => none
 | .tuple, [x] => match x.d with
  | .lst xs => some ⟨.tup xs, .fr, x.n⟩
  | .tup xs => some ⟨.tup xs, .fr, x.n⟩
  | _ => none
 | .all, [x] => match x.d with | .lst xs => (blsD xs).map fun bs => atm (.bl (bs.all id)) | _ => none
 | .any, [x] => match x.d with | .lst xs => (blsD xs).map fun bs => atm (.bl (bs.any id)) | _ => none
 | .sum, [x] => match x.d with | .lst xs => (intsD xs).map fun ns => atm (.int ns.sum) | _ => none
 | .max1, [x] => match x.d with | .lst xs => (intsD xs).bind fun ns => (ns.max?).map fun m => atm (.int m) | _ => none
 | .max2, [x, y] => match x.d, y.d with | .int i, .int j => some (atm (.int (if j > i then j else i))) | _, _ => none
 | .min2, [x, y] => match x.d, y.d with | .int i, .int j => some (atm (.int (if j < i then j else i))) | _, _ => none
 | .abs, [x] => match x.d with | .int i => some (atm (.int (if i < 0 then -i else i))) | _ => none
 | .int, [x] => match x.d with | .int i => some (atm (.int i)) | .bl k => some (atm (.int (if k then 1 else 0))) | _ => none
 | _, _ => none
def tyName : D → Option (Sum String Str)
 | .non => some (.inl "NoneType")
 | .bl _ => some (.inl "bool")
 | .int _ => some (.inl "int")
 | .str _ => some (.inl "str")
 | .scr _ => some (.inl "list")
 | .lst _ => some (.inl "list")
 | .tup _ => some (.inl "tuple")
 | .ktup _ => none
 | .dct _ _ => some (.inl "dict")
 | .dctT _ _ => some (.inl "dict")
 | .obj c _ _ => some (.inr c)
 | .opq => none
 | .clo _ _ => none
 | .xcp _ => none
def isiD (E : Ev) (d : D) (t : Ty) : Option Bool := match tyName d with
 | some (.inl a) => (match t with
  | .ty b => kitB a b
  | t => E.isi (.inl a) t)
 | some a => E.isi a t
 | none => match d with
  | .xcp c => E.isx c t
  | _ => none
def indexD (x : D) : List D → Nat → Option Nat
 | [], _ => none
 | y :: ys, n => match y.eqE x with
  | some true => some n
  | some false => indexD x ys (n + 1)
  | none => none
def rngL (lo : Int) (n : Nat) (c : Int) : List D := (List.range n).map fun (k : Nat) => .int (lo + (k : Int) * c)
def enumL (xs : List D) : List D := (xs.zipIdx).map fun (x, k) => .tup [.int (k : Nat), x]
def zipL (xs ys : List D) : List D := (xs.zip ys).map fun (x, y) => .tup [x, y]
def rngOk (i : Int) : Bool := decide (-(2 ^ 62) ≤ i) && decide (i < 2 ^ 62)
def itemsK (k : ItK) (args : List Sl) : Option (List D × Bool) := match k, args with
 | .any, [x] => x.d.items.map fun l => (l, x.n)
 | .rng1, [x] => match x.d with | .int j => if rngOk j then some (rngL 0 j.toNat 1, true) else none | _ => none
 | .rng2, [x, y] => match x.d, y.d with | .int i, .int j => if rngOk i && rngOk j then some (rngL i (j - i).toNat 1, true) else none | _, _ => none
 | .rng3, [x, y, z] => match x.d, y.d, z.d with
  | .int i, .int j, .int c => if c ≠ 0 ∧ c.natAbs < 1073741824 ∧ Builtin.Range.small i j c = true ∧ 0 ≤ Builtin.Range.rangeSize i j c then some (rngL i (Builtin.Range.rangeSize i j c).toNat c, true) else none
  | _, _, _ => none
 | .enum, [x] => match x.d with | .lst xs => some (enumL xs, x.n) | _ => none
 | .zip, [x, y] => match x.d, y.d with
  | .lst xs, .lst ys => some (zipL xs ys, x.n && y.n)
  | .tup xs, .tup ys => some (zipL xs ys, x.n && y.n)
  | .tup xs, .ktup ys => some (zipL xs (ys.map .str), x.n)
  | _, _ => none
 | .zipn, [x, y] => match x.d, y.d with | .lst xs, .lst ys => some (zipL xs ys, x.n && y.n) | _, _ => none
 | .ezip, [x, y] => match x.d, y.d with | .lst xs, .lst ys => some (enumL (zipL xs ys), x.n && y.n) | _, _ => none
 | _, _ => none
def putAll : G → List Nat → List D → Bool → Option G
 | g, [], [], _ => some g
 | g, i :: is, d :: ds, n => match g.get i with
  | some ⟨_, .io, _⟩ => none
  | _ => if i < g.length then putAll (g.put i ⟨d, .fr, n || d.atom⟩) is ds n else none
 | _, _, _, _ => none
def bindT (g : G) (t : Tg) (d : D) (n : Bool) : Option G := match t with
 | .one i => putAll g [i] [d] n
 | .tup is => match d with
  | .tup ds => putAll g is ds n
  | _ => none
inductive Ar where
 | val (s : Sl)
 | slot (i : Nat)
 | tmp (s : Sl)
def Ar.d (g : G) : Ar → Option D
 | .val s => some s.d
 | .tmp s => some s.d
 | .slot i => match g.get i with
  | some s => if s.m = .fr then none else some s.d
  | none => none
def arsD (g : G) : List Ar → Option (List D)
 | [] => some []
 | a :: as => match a.d g, arsD g as with
  | some d, some ds => some (d :: ds)
  | _, _ => none
def ioOf : List Ar → Option (Option Nat)
 | [] => none
 | .slot i :: _ => some (some i)
 | .tmp _ :: _ => some none
 | .val _ :: as => ioOf as
def ioLt (io : Option Nat) (n : Nat) : Bool := match io with
 | none => true
 | some j => decide (j < n) && decide (j ≠ 100)
def doCall (fn : List D → M (Sl × Option (D × Bool))) (io : Option Nat) (np : Nat) (more : List D) (as : List Ar) (g : G) : M (Sl × G) :=
 if as.length + more.length = np ∧ ioLt io as.length = true then match arsD g as with
 | some ds => M.bnd (fn (ds ++ more)) fun (r, o) => match ioOf as with
  | none => (match o with
   | none => some (.ok (⟨r.d, r.m, r.n || r.d.atom⟩, g))
   | some _ => none)
  | some none => (match o with
   | some _ => some (.ok (⟨r.d, r.m, r.n || r.d.atom⟩, g))
   | none => none)
  | some (some i) => (match o with
   | some dn => (match g.get i with
    | some s => if s.m = .fr then none else some (.ok (⟨r.d, r.m, r.n || r.d.atom⟩, g.put i ⟨dn.1, s.m, dn.1.kidsAtom⟩))
    | none => none)
   | none => none)
 | none => none
 else none
def moreOf (E : Ev) (f n : Nat) : List D := (E.dfl f).drop ((E.dfl f).length + n - E.np f)
def selfD (E : Ev) (m : Str) : D → Option Nat
 | .obj c fs _ => if fs.contains m then none else E.mt c m
 | _ => none
def selfFid (E : Ev) (m : Str) (g : G) (a : Ar) : Option Nat := match a with
 | .val s => selfD E m s.d
 | .slot i => match g.get i with
  | some s => selfD E m s.d
  | none => none
 | .tmp s => selfD E m s.d
inductive Fl where
 | nx | rt (s : Sl) | bk | ct
def G.wipe (g : G) : List Nat → G
 | [] => g
 | v :: vs => (G.wipe g vs).set v none
def ownOk (g : G) (own : List Nat) : Bool := own.all fun i => decide (i < g.length) && match g.get i with
 | some ⟨_, .fr, _⟩ => true
 | none => true
 | _ => false
def G.restore (g g0 : G) : List Nat → G
 | [] => g
 | v :: vs => (G.restore g g0 vs).set v (g0[v]?).join
def compL (f : D → G → M (Option Sl × G)) : List D → G → M (List Sl × G)
 | [], g => some (.ok ([], g))
 | d :: ds, g => M.bnd (f d g) fun (o, g1) => M.bnd (compL f ds g1) fun (ss, g2) => some (.ok (match o with | some s => s :: ss | none => ss, g2))
def forL (f : D → G → M (Fl × G)) : List D → G → M (Fl × G)
 | [], g => some (.ok (.nx, g))
 | d :: ds, g => M.bnd (f d g) fun (fl, g1) => match fl with
  | .nx => forL f ds g1
  | .ct => forL f ds g1
  | .bk => some (.ok (.nx, g1))
  | .rt s => some (.ok (.rt s, g1))
def whileL (t : G → M (Bool × G)) (b : G → M (Fl × G)) : Nat → G → M (Fl × G)
 | 0, _ => none
 | n + 1, g => M.bnd (t g) fun (k, g1) => if k then M.bnd (b g1) fun (fl, g2) => match fl with
   | .nx => whileL t b n g2
   | .ct => whileL t b n g2
   | .bk => some (.ok (.nx, g2))
   | .rt s => some (.ok (.rt s, g2))
  else some (.ok (.nx, g1))
def whileN : Nat := 100000
def bySh (d : D) (n : Bool) : Sl := match d with
 | .lst _ => ⟨d, .ow, n⟩
 | .tup _ => ⟨d, .fr, n⟩
 | _ => atm d
def resBin (op : BOp) (x y : Sl) : Option Sl := (x.d.bin op y.d).map fun d => bySh d (x.n && y.n)
def opd (c : C) (ev : G → M (Sl × G)) (g : G) : M (Op × G) := match c with
 | .var i => match g.get i with
  | some _ => some (.ok (.slot i, g))
  | none => none
 | _ => M.bnd (ev g) fun (s, g1) => some (.ok (.val s.frz, g1))
def tst (c : C) (ev : G → M (Sl × G)) (g : G) : M (Bool × G) := M.bnd (opd c ev g) fun (o, g1) => match o.get g1 with
 | some s => match s.d.truth with
  | some k => some (.ok (k, g1))
  | none => none
 | none => none
def arg1 (io : Option Nat) (j : Nat) (c : C) (ev : G → M (Sl × G)) (g : G) : M (Ar × G) :=
 if io = some j then match c with
  | .var i => match g.get i with
   | some ⟨_, .fr, _⟩ => none
   | some _ => some (.ok (Ar.slot i, g))
   | none => none
  | _ => M.bnd (ev g) fun (s, g1) => if s.m = .ow then some (.ok (Ar.tmp s, g1)) else none
 else M.bnd (ev g) fun (s, g1) => some (.ok (Ar.val s.frz, g1))
def op2 (a b : C) (ea eb : G → M (Sl × G)) (f : Sl → Sl → Option Sl) (g : G) : M (Sl × G) :=
 M.bnd (opd a ea g) fun (oa, g1) => M.bnd (opd b eb g1) fun (ob, g2) => match oa.get g2, ob.get g2 with
  | some x, some y => match f x y with
   | some s => some (.ok (s, g2))
   | none => none
  | _, _ => none
def op2p (pre : D → Bool) (a b : C) (ea eb : G → M (Sl × G)) (f : Sl → Sl → Option Sl) (g : G) : M (Sl × G) :=
 M.bnd (opd a ea g) fun (oa, g1) => match oa.get g1 with
  | some x0 => if pre x0.d then M.bnd (opd b eb g1) fun (ob, g2) => (match oa.get g2, ob.get g2 with
   | some x, some y => match f x y with
    | some s => some (.ok (s, g2))
    | none => none
   | _, _ => none) else none
  | none => none
def isLst : D → Bool
 | .lst _ => true
 | _ => false
def isDct : D → Bool
 | .dct _ _ => true
 | _ => false
def op1 (a : C) (ea : G → M (Sl × G)) (f : Sl → Option Sl) (g : G) : M (Sl × G) :=
 M.bnd (opd a ea g) fun (oa, g1) => match oa.get g1 with
  | some x => match f x with
   | some s => some (.ok (s, g1))
   | none => none
  | none => none
def cmpS (op : KOp) (x y : Sl) : Option Sl := (x.d.cmp op y.d).map fun k => atm (.bl k)
def negS (x : Sl) : Option Sl := match x.d with | .int i => some (atm (.int (-i))) | _ => none
def idxS (x y : Sl) : Option Sl := (x.d.idx y.d).map fun d => ⟨d, .fr, x.n || d.atom⟩
def lrgS (x : Sl) : Option Sl := match x.d with | .int j => if rngOk j && decide (j ≤ 16777216) then some ⟨.lst (rngL 0 j.toNat 1), .ow, true⟩ else none | _ => none
def insI (k : Int) : List Int → List Int
 | [] => [k]
 | x :: xs => if k < x then k :: x :: xs else if k = x then x :: xs else x :: insI k xs
def srtI : List Int → List Int
 | [] => []
 | x :: xs => insI x (srtI xs)
def ssetS (x : Sl) : Option Sl := match x.d with
 | .lst xs => (match intsD xs with
  | some ns => if ns.all (fun k => decide (0 ≤ k ∧ k < 4000)) then some ⟨.lst ((srtI ns).map .int), .ow, true⟩ else none
  | none => none)
 | _ => none
def revS (x : Sl) : Option Sl := match x.d with | .lst xs => some ⟨.lst xs.reverse, .ow, x.n⟩ | _ => none
def attS (E : Ev) (f : Str) (x : Sl) : Option Sl := match x.d with | .obj c fs xs => if E.att c f then (look fs xs f).map fun d => ⟨d, .fr, x.n || d.atom⟩ else none | _ => none
def isiS (E : Ev) (t : Ty) (x : Sl) : Option Sl := (isiD E x.d t).map fun k => atm (.bl k)
def shapD (d : D) : Bool := match d.py with
 | some p => SeqAt.shaped p
 | none => false
def indexS (x y : Sl) : Option Sl := match x.d with
 | .lst xs => if shapD y.d && shapD (.lst xs) then (match D.inn y.d (.lst xs), indexD y.d xs 0 with
  | some true, some k => some (atm (.int (k : Nat)))
  | _, _ => none) else none
 | _ => none
def blsOf : List D → Option (List Bool)
 | [] => some []
 | .bl b :: ds => (blsOf ds).map (b :: ·)
 | _ :: _ => none
def cntS (x y : Sl) : Option Sl := match x.d, y.d with
 | .lst ds, .bl b => (blsOf ds).map fun bs => atm (.int ((bs.countP fun z => decide (z = b) : Nat) : Int))
 | _, _ => none
def dgetS (x y : Sl) : Option Sl := match x.d with
 | .dct ks xs => (y.d.key).map fun k => match look ks xs k with
  | some d => ⟨d, .fr, x.n || d.atom⟩
  | none => atm .non
 | _ => none
def slcS (l h : Option Int) (x : Sl) : Option Sl := (x.d.slc l h).map fun d => match d with
 | .lst xs => ⟨.lst xs, .ow, x.n || (D.lst xs).kidsAtom⟩
 | d => ⟨d, .fr, x.n⟩
def kgetS (E : Ev) (x : Str) (s : Sl) : Option Sl := match s.d with
 | .str z => match E.kd x with
  | some kvs => (kvs.lookup z).map fun ss => ⟨.ktup ss, .fr, true⟩
  | none => none
 | _ => none
def kinS (E : Ev) (neg : Bool) (x : Str) (s : Sl) : Option Sl := match s.d with
 | .str z => match E.kd x with
  | some kvs => some (atm (.bl (if neg then !(kvs.lookup z).isSome else (kvs.lookup z).isSome)))
  | none => none
 | _ => none
def boolE (ev : G → M (Sl × G)) (g : G) : M (Bool × G) := M.bnd (ev g) fun (s, g1) => match s.d with
 | .bl k => some (.ok (k, g1))
 | _ => none
def peekG (g : G) : G := g.map fun o => o.map fun s => ⟨s.d, .fr, s.d.atom⟩
mutual
def evE (E : Ev) : C → G → M (Sl × G)
 | .var i, g => takeV g i
 | .int i, g => some (.ok (atm (.int i), g))
 | .str s, g => some (.ok (atm (.str s), g))
 | .bl b, g => some (.ok (atm (.bl b), g))
 | .non, g => some (.ok (atm .non, g))
 | .con x, g => match E.con x with
  | some d => if d.atom then some (.ok (atm d, g)) else none
  | none => none
 | .tup cs, g => M.bnd (evV E cs g) fun (ss, g1) => if ss.length ≤ lim then some (.ok (mkL .fr (.tup (dsL ss)) ss, g1)) else none
 | .lst cs, g => M.bnd (evV E cs g) fun (ss, g1) => if ss.length ≤ lim then some (.ok (mkL .ow (.lst (dsL ss)) ss, g1)) else none
 | .dnew, g => some (.ok (⟨.dct [] [], .ow, true⟩, g))
 | .dnewT, g => some (.ok (⟨.dctT [] [], .ow, true⟩, g))
 | .bin op a b, g => op2 a b (evE E a) (evE E b) (resBin op) g
 | .neg a, g => op1 a (evE E a) negS g
 | .cmp op a b, g => op2 a b (evE E a) (evE E b) (cmpS op) g
 | .chain op op' a b c, g => M.bnd (opd a (evE E a) g) fun (oa, g1) => M.bnd (opd b (evE E b) g1) fun (ob, g2) => match oa.get g2, ob.get g2 with
  | some x, some y => match x.d.cmp op y.d with
   | some true => M.bnd (opd c (evE E c) g2) fun (oc, g3) => match ob.get g3, oc.get g3 with
    | some y, some z => match y.d.cmp op' z.d with
     | some k => some (.ok (atm (.bl k), g3))
     | none => none
    | _, _ => none
   | some false => some (.ok (atm (.bl false), g2))
   | none => none
  | _, _ => none
 | .and_ a b, g => M.bnd (boolE (evE E a) g) fun (k, g1) => if k then M.bnd (boolE (evE E b) g1) fun (k, g2) => some (.ok (atm (.bl k), g2)) else some (.ok (atm (.bl false), g1))
 | .or_ a b, g => M.bnd (boolE (evE E a) g) fun (k, g1) => if k then some (.ok (atm (.bl true), g1)) else M.bnd (boolE (evE E b) g1) fun (k, g2) => some (.ok (atm (.bl k), g2))
 | .not_ a, g => M.bnd (boolE (evE E a) g) fun (k, g1) => some (.ok (atm (.bl (!k)), g1))
 | .ife t a b, g => M.bnd (tst t (evE E t) g) fun (k, g1) => if k then evE E a g1 else evE E b g1
 | .idx a b, g => op2 a b (evE E a) (evE E b) idxS g
 | .slc a lo hi, g => M.bnd (opd a (evE E a) g) fun (oa, g1) => M.bnd (evP E lo g1) fun (l, g2) => M.bnd (evP E hi g2) fun (h, g3) => match oa.get g3 with
  | some x => match slcS l h x with
   | some s => some (.ok (s, g3))
   | none => none
  | none => none
 | .rev a, g => op1 a (evE E a) revS g
 | .lrg a, g => op1 a (evE E a) lrgS g
 | .sset a, g => op1 a (evE E a) ssetS g
 | .att a f, g => op1 a (evE E a) (attS E f) g
 | .call f args, g => M.bnd (evA E (E.io f) 0 args g) fun (as, g1) => doCall (E.fn f) (E.io f) (E.np f) (moreOf E f args.length) as g1
 | .bare x, g => if E.bare x = true then some (.ok (⟨.obj x [] [], .ow, true⟩, g)) else none
 | .peek c, g => match evE E c (peekG g) with
  | some (.ok (s, _)) => if s.d.atom = true then some (.ok (atm s.d, g)) else if s.m = .ow ∧ s.d.kidsAtom = true then some (.ok (⟨s.d, .ow, true⟩, g)) else none
  | _ => none
 | .new c f args, g => M.bnd (evA E (E.io f) 1 args g) fun (as, g1) => if E.io f = some 0 ∧ E.ini c = some f ∧ as.length + 1 + (moreOf E f (args.length + 1)).length = E.np f then match arsD g1 as with
   | some ds => M.bnd (E.fm f (.obj c [] [] :: (ds ++ moreOf E f (args.length + 1)))) fun (r, o) => match r.d, o with
    | .non, some dn => some (.ok (⟨dn.1, .ow, dn.2 || dn.1.kidsAtom⟩, g1))
    | _, _ => none
   | none => none
  else none
 | .meth m io o args, g => M.bnd (arg1 io 0 o (evE E o) g) fun (a, g1) => match selfFid E m g1 a with
  | some f => M.bnd (evA E io 1 args g1) fun (as, g2) => if E.io f = io then doCall (E.fn f) io (E.np f) (moreOf E f (args.length + 1)) (a :: as) g2 else none
  | none => none
 | .bi b args, g => M.bnd (evOs E args g) fun (os, g1) => match os.mapM (·.get g1) with
  | some ss => match biD b ss with
   | some s => some (.ok (s, g1))
   | none => none
  | none => none
 | .isi a t, g => op1 a (evE E a) (isiS E t) g
 | .index o a, g => op2p isLst o a (evE E o) (evE E a) indexS g
 | .cnt o a, g => op2p isLst o a (evE E o) (evE E a) cntS g
 | .dget o a, g => op2p isDct o a (evE E o) (evE E a) dgetS g
 | .kget x a, g => op1 a (evE E a) (kgetS E x) g
 | .kin neg x a, g => op1 a (evE E a) (kinS E neg x) g
 | .comp own tg k its cond elt, g => M.bnd (evV E its g) fun (ss, g1) => match itemsK k ss with
  | some (items, n) => if ownOk g1 own then
    M.bnd (compL (fun d g2 => match bindT g2 tg d n with
     | some g3 => M.bnd (evTO E cond g3).nox fun (k, g4) => if k then M.bnd (evE E elt g4).nox fun (s, g5) => some (.ok (some s.frz, G.wipe g5 own)) else some (.ok (none, G.wipe g4 own))
     | none => none) items (G.wipe g1 own)) fun (rs, g6) =>
     if rs.length < lim then some (.ok (⟨.lst (dsL rs), .ow, rs.all (·.n)⟩, G.restore g6 g1 own)) else none
   else none
  | none => none
 | .compX own tg k its elt, g => M.bnd (evV E its g) fun (ss, g1) => match itemsK k ss with
  | some (items, n) => if ownOk g1 own = true ∧ items.length < lim then
    M.bnd (compL (fun d g2 => match bindT g2 tg d n with
     | some g3 => M.bnd (evE E elt g3) fun (s, g5) => some (.ok (some s.frz, G.wipe g5 own))
     | none => none) items (G.wipe g1 own)) fun (rs, g6) =>
     if rs.length < lim then some (.ok (⟨.lst (dsL rs), .ow, rs.all (·.n)⟩, G.restore g6 g1 own)) else none
   else none
  | none => none
 | .cini x f args, g => M.bnd (evA E (some 0) 0 args g) fun (as, g1) => if E.io f = some 0 ∧ E.ini x = some f ∧ as.length = E.np f then doCall (E.fm f) (some 0) (E.np f) [] as g1 else none
def evOs (E : Ev) : List C → G → M (List Op × G)
 | [], g => some (.ok ([], g))
 | c :: cs, g => M.bnd (opd c (evE E c) g) fun (o, g1) => M.bnd (evOs E cs g1) fun (os, g2) => some (.ok (o :: os, g2))
def evV (E : Ev) : List C → G → M (List Sl × G)
 | [], g => some (.ok ([], g))
 | c :: cs, g => M.bnd (evE E c g) fun (s, g1) => M.bnd (evV E cs g1) fun (ss, g2) => some (.ok (s.frz :: ss, g2))
def evA (E : Ev) (io : Option Nat) : Nat → List C → G → M (List Ar × G)
 | _, [], g => some (.ok ([], g))
 | j, c :: cs, g => M.bnd (arg1 io j c (evE E c) g) fun (a, g1) => M.bnd (evA E io (j + 1) cs g1) fun (as, g2) => some (.ok (a :: as, g2))
def evP (E : Ev) : Option C → G → M (Option Int × G)
 | none, g => some (.ok (none, g))
 | some c, g => M.bnd (evE E c g) fun (s, g1) => match s.d with
  | .int i => some (.ok (some i, g1))
  | _ => none
def evTO (E : Ev) : Option C → G → M (Bool × G)
 | none, g => some (.ok (true, g))
 | some c, g => tst c (evE E c) g
end
def evT (E : Ev) (c : C) : G → M (Bool × G) := tst c (evE E c)
def mapSet {κ : Type} [DecidableEq κ] : List κ → List D → κ → D → List D
 | k :: ks, x :: xs, j, v => (if k = j then v else x) :: mapSet ks xs j v
 | _, xs, _, _ => xs
def setAll {κ : Type} [DecidableEq κ] (ks : List κ) (xs : List D) (j : κ) (v : D) : List κ × List D :=
 if ks.any (fun k => decide (k = j)) then (ks, mapSet ks xs j v) else (ks ++ [j], xs ++ [v])
def setKey {κ : Type} [DecidableEq κ] : List κ → List D → κ → D → List κ × List D
 | k :: ks, x :: xs, j, v => if k = j then (k :: ks, v :: xs) else let r := setKey ks xs j v; (k :: r.1, x :: r.2)
 | _, _, j, v => ([j], [v])
def D.setI (x k v : D) : Option D := match x with
 | .lst xs => match k with | .int i => (ixN xs.length i).map fun j => .lst (xs.set j v) | _ => none
 | .dct ks xs => match k.key with | some j => if ks.length < lim ∧ ks.length = xs.length then let r := setAll ks xs j v; some (.dct r.1 r.2) else none | none => none
 | .dctT ks xs => match k.keyT with | some j => if ks.length < lim ∧ ks.length = xs.length then let r := setAll ks xs j v; some (.dctT r.1 r.2) else none | none => none
 | _ => none
def D.setA (x : D) (E : Ev) (f : Str) (v : D) : Option D := match x with
 | .obj c fs xs => if E.att c f = true ∧ fs.length < 100 ∧ fs.length = xs.length then let r := setKey fs xs f v; some (.obj c r.1 r.2) else none
 | _ => none
def D.augA (x : D) (E : Ev) (f : Str) (n : Int) : Option D := match x with
 | .obj c fs xs => if E.att c f = true ∧ fs.length < 100 ∧ fs.length = xs.length then (match look fs xs f with
  | some (.int m) => let r := setKey fs xs f (.int (m + n)); some (.obj c r.1 r.2)
  | _ => none) else none
 | _ => none
def mutSlot (g : G) (i : Nat) (f : D → Option D) (n : Bool) : M (Fl × G) := match g.get i with
 | some ⟨d, .fr, _⟩ => none
 | some ⟨d, m, n0⟩ => match f d with
  | some d' => some (.ok (.nx, g.put i ⟨d', m, n0 && n⟩))
  | none => none
 | none => none
def D.app (v : D) (x : D) : Option D := match x with | .lst xs => if xs.length < lim then some (.lst (xs ++ [v])) else none | _ => none
def D.ext (v : D) (x : D) : Option D := match x, v with | .lst xs, .lst ys => if xs.length + ys.length ≤ lim then some (.lst (xs ++ ys)) else none | _, _ => none
def setSlot (g : G) (i : Nat) (s : Sl) : Option G := match g.get i with
 | some ⟨_, .io, _⟩ => none
 | _ => if i < g.length then some (g.put i s) else none
def ownL (g : G) (i : Nat) : Bool := match g.get i with
 | some ⟨.lst _, .ow, _⟩ => true
 | some ⟨.lst _, .io, _⟩ => true
 | _ => false
def rootS (s : Sl) : Sl := match s.m with
 | .fr => ⟨s.d, .fr, s.d.atom⟩
 | m => ⟨s.d, m, s.d.kidsAtom⟩
def rootG (g : G) : Option G := if g.all (fun o => match o with | some ⟨_, .ow, _⟩ => false | _ => true) = true then some (g.map (Option.map rootS)) else none
def haltX (g : G) (iL : Nat) (x : Xc) : M (Fl × G) := match x.fs with
 | [(f1, .lst ch), (f2, n)] => if x.c = "Halt" ∧ f1 = "chain" ∧ f2 = "number" ∧ ch.length < 1000 then (match g.get iL with
  | some ⟨l, .fr, _⟩ => some (.ex ⟨"Halt", [("chain", .lst (l :: ch)), ("number", n)]⟩)
  | _ => none) else none
 | _ => none
mutual
def evS (E : Ev) : S → G → M (Fl × G)
 | .asg i c, g => M.bnd (evE E c g) fun (s, g1) => match setSlot g1 i s with
  | some g2 => some (.ok (.nx, g2))
  | none => none
 | .asgT is c, g => M.bnd (evE E c g) fun (s, g1) => match s.d with
  | .tup ds => match putAll g1 is ds s.n with
   | some g2 => some (.ok (.nx, g2))
   | none => none
  | _ => none
 | .par2 i j a b, g => M.bnd (evE E a g) fun (s, g1) => M.bnd (evE E b g1) fun (t, g2) => if i = j then none else match setSlot g2 i s with
  | some g3 => match setSlot g3 j t with
   | some g4 => some (.ok (.nx, g4))
   | none => none
  | none => none
 | .par3 i j k a b c, g => M.bnd (evE E a g) fun (s, g1) => M.bnd (evE E b g1) fun (t, g2) => M.bnd (evE E c g2) fun (u, g3) => if i = j ∨ i = k ∨ j = k then none else match setSlot g3 i s with
  | some g4 => match setSlot g4 j t with
   | some g5 => match setSlot g5 k u with
    | some g6 => some (.ok (.nx, g6))
    | none => none
   | none => none
  | none => none
 | .aug i op c, g => match g.get i with
  | some ⟨.int x, .fr, _⟩ => M.bnd (evE E c g) fun (s, g1) => match g1.get i, s.d with
   | some ⟨.int _, .fr, _⟩, .int y => match D.bin op (.int x) (.int y) with
    | some d => if op = .add ∨ op = .sub then some (.ok (.nx, g1.put i (atm d))) else none
    | none => none
   | _, _ => none
  | _ => none
 | .setI i k v, g => M.bnd (evE E v g) fun (s, g1) => if (g1.get i).isSome = true then M.bnd (opd k (evE E k) g1) fun (o, g2) => (match o.get g2 with
  | some y => mutSlot g2 i (fun x => x.setI y.d s.d) s.n
  | none => none) else none
 | .setA i f v, g => M.bnd (evE E v g) fun (s, g1) => mutSlot g1 i (fun x => x.setA E f s.d) s.n
 | .app i c, g => if ownL g i then M.bnd (evE E c g) fun (s, g1) => mutSlot g1 i (D.app s.d) s.n else none
 | .ext i c, g => if ownL g i then M.bnd (evE E c g) fun (s, g1) => mutSlot g1 i (D.ext s.d) s.n else none
 | .expr c, g => M.bnd (evE E c g) fun (_, g1) => some (.ok (.nx, g1))
 | .ife t a b, g => M.bnd (evT E t g) fun (k, g1) => if k then evSs E a g1 else evSs E b g1
 | .for_ tg k its body, g => M.nox (M.bnd (evV E its g) fun (ss, g1) => match itemsK k ss with
  | some (items, n) => forL (fun d g2 => match bindT g2 tg d n with
   | some g3 => evSs E body g3
   | none => none) items g1
  | none => none)
 | .forD i j f body, g => M.nox (match g.get j with
  | some ⟨.obj c fs xs, _, _⟩ => if E.att c f = true then (match look fs xs f with
   | some (.dct ks _) => forL (fun d g2 => match putAll g2 [i] [d] true with
    | some g3 => evSs E body g3
    | none => none) (ks.map keyD) g
   | _ => none) else none
  | _ => none)
 | .while_ t body, g => M.nox (whileL (evT E t) (evSs E body) whileN g)
 | .ret c, g => match c with
  | .var i => match g.get i with
   | some ⟨d, .ow, n⟩ => some (.ok (.rt ⟨d, .ow, n⟩, g.set i none))
   | _ => M.bnd (evE E c g) fun (s, g1) => some (.ok (.rt s, g1))
  | _ => M.bnd (evE E c g) fun (s, g1) => some (.ok (.rt s, g1))
 | .retN, g => some (.ok (.rt (atm .non), g))
 | .raise c, g => some (.ex c)
 | .raiseH a b, g => M.bnd (evV E [a, b] g) fun (ss, _) => match ss with
  | [x, y] => some (.ex ⟨"Halt", [("chain", y.d), ("number", x.d)]⟩)
  | _ => none
 | .tryH iF c iL ss, g => match rootG g with
  | some g0 => (match M.bnd (evE E c g0) (fun (s, g1) => match setSlot g1 iF s with
    | some g2 => some (.ok g2)
    | none => none) with
   | some (.ok g2) => evSs E ss g2
   | some (.ex x) => haltX g0 iL x
   | none => none)
  | none => none
 | .augA i f n, g => mutSlot g i (fun x => x.augA E f n) true
 | .pass, g => some (.ok (.nx, g))
 | .brk, g => some (.ok (.bk, g))
 | .cont, g => some (.ok (.ct, g))
def evSs (E : Ev) : List S → G → M (Fl × G)
 | [], g => some (.ok (.nx, g))
 | s :: ss, g => M.bnd (evS E s g) fun (fl, g1) => match fl with
  | .nx => evSs E ss g1
  | fl => some (.ok (fl, g1))
end
end Y
namespace Y
open PySem PySem.Spec PyProof.Rows L2
theorem ex_seqL {K : PySem.W.Frag} {H H' : Hp} {a : Addr} {xs : List V} (e : Same H H') (h : SqL K H a xs) : SqL K H' a xs := e.seq h
theorem ex_seqT {K : PySem.W.Frag} {H H' : Hp} {a : Addr} {xs : List V} (e : Same H H') (h : SqT K H a xs) : SqT K H' a xs := by
 rcases h with (h | ⟨o, h⟩) | h
 ·exact .inl (.inl (e _ _ h))
 ·exact .inl (.inr ⟨o, e _ _ h⟩)
 ·exact .inr h
section
variable {K : PySem.W.Frag} {F F' H : Hp}
mutual
theorem At.mono (e : Same F F') : ∀ (d : D) (v : V), At K F v d → At K F' v d
 | .non, _, h => by cases h; exact .non
 | .bl b, _, h => by cases h; exact .bl b
 | .int i, _, h => by cases h; exact .int i
 | .str s, _, h => by cases h; exact .str s
 | .scr ns, _, h => by cases h with | scr h1 => exact .scr (ex_seqL e h1)
 | .ktup xs, _, h => by cases h with | ktup h1 => exact .ktup h1
 | .opq, v, _ => .opq v
 | .clo i xs, _, h => by cases h with | clo h1 h2 h3 h4 h5 => exact .clo h1 (e _ _ h2) (e _ _ h3) (h4.mono e) (atL_mono e xs _ h5)
 | .xcp c, _, h => by cases h with | xcp h1 h2 h3 => exact .xcp (e _ _ h1) h2 h3
 | .lst xs, _, h => by cases h with | lst h1 h2 => exact .lst (e _ _ h1) (atL_mono e xs _ h2)
 | .tup xs, _, h => by cases h with | tup h1 h2 => exact .tup (e _ _ h1) (atL_mono e xs _ h2)
 | .dct ks xs, _, h => by cases h with | dct h1 h2 h3 => exact .dct (h1.elim (fun z => .inl (e _ _ z)) fun ⟨o, z⟩ => .inr ⟨o, e _ _ z⟩) h2 (atL_mono e xs _ h3)
 | .dctT ks xs, _, h => by cases h with | dctT h1 h2 h3 => exact .dctT (e _ _ h1) h2 (atL_mono e xs _ h3)
 | .obj c fs xs, _, h => by cases h with | obj h1 h2 h3 => exact .obj (e _ _ h1) h2 (atL_mono e xs _ h3)
theorem atL_mono (e : Same F F') : ∀ (ds : List D) (vs : List V), Paired (At K F) vs ds → Paired (At K F') vs ds
 | [], _, h => by cases h; exact .nil
 | d :: ds, _, h => by cases h with | cons h1 h2 => exact .cons (At.mono e d _ h1) (atL_mono e ds _ h2)
end
theorem At.atom {G : Hp} : ∀ {d : D} {v : V}, At K F v d → d.atom = true → At K G v d
 | .non, _, h, _ => by cases h; exact .non
 | .bl b, _, h, _ => by cases h; exact .bl b
 | .int i, _, h, _ => by cases h; exact .int i
 | .str s, _, h, _ => by cases h; exact .str s
 | .scr _, _, _, e => by cases e
 | .ktup _, _, _, e => by cases e
 | .opq, _, _, e => by cases e
 | .clo _ _, _, _, e => by cases e
 | .xcp _, _, _, e => by cases e
 | .lst _, _, _, e => by cases e
 | .tup _, _, _, e => by cases e
 | .dct _ _, _, _, e => by cases e
 | .dctT _ _, _, _, e => by cases e
 | .obj _ _ _, _, _, e => by cases e
theorem atL_atom {G : Hp} : ∀ {ds : List D} {vs : List V}, Paired (At K F) vs ds → ds.all D.atom = true → Paired (At K G) vs ds
 | [], _, h, _ => by cases h; exact .nil
 | d :: ds, _, h, e => by
  cases h with
  | cons h1 h2 =>
   rw [List.all_cons, Bool.and_eq_true] at e
   exact .cons (h1.atom e.1) (atL_atom h2 e.2)
end
def tupO : Option HO → Bool
 | some (.tup _) => true
 | _ => false
def FN (H0 F : Hp) (n : Bool) : Hp := fun b => if n = true ∧ (H0 b).isSome = true ∧ tupO (F b) = false then none else F b
theorem FN_false {H0 F : Hp} : FN H0 F false = F := by
 funext b
 simp [FN]
theorem FN_le {H0 F : Hp} {n : Bool} : Same (FN H0 F n) F := fun b o h => by
 unfold FN at h
 split at h
 ·cases h
 ·exact h
theorem FN_out {H0 F : Hp} {n : Bool} {b : Addr} {o : HO} (h : FN H0 F n b = some o) : F b = some o ∧ (n = true → H0 b = none ∨ tupO (some o) = true) := by
 unfold FN at h
 split at h
 ·cases h
 ·rename_i h1
  refine ⟨h, fun hn => ?_⟩
  cases e : H0 b with
  | none => exact .inl rfl
  | some x =>
   cases q : tupO (some o) with
   | true => exact .inr rfl
   | false => exact absurd ⟨hn, by rw [e]; rfl, by rw [h]; exact q⟩ h1
theorem FN_in {H0 F : Hp} {n : Bool} {b : Addr} {o : HO} (h : F b = some o) (k : n = true → H0 b = none ∨ tupO (some o) = true) : FN H0 F n b = some o := by
 unfold FN
 rw [if_neg]
 ·exact h
 ·rintro ⟨h1, h2, h3⟩
  rcases k h1 with e | e
  ·rw [e] at h2; cases h2
  ·rw [h, e] at h3; cases h3
theorem FN_sub {H0 H1 F : Hp} {n : Bool} (h : ∀ b, (H0 b).isSome = true → (H1 b).isSome = true) : Same (FN H1 F n) (FN H0 F n) := fun b o z => by
 obtain ⟨h1, h2⟩ := FN_out z
 refine FN_in h1 fun hn => ?_
 rcases h2 hn with e | e
 ·refine .inl ?_
  cases q : H0 b with
  | none => rfl
  | some x => have := h b (by rw [q]; rfl); rw [e] at this; cases this
 ·exact .inr e
theorem FN_mono {H0 F F' : Hp} {n : Bool} (e : Same F F') : Same (FN H0 F n) (FN H0 F' n) := fun b o h => by
 obtain ⟨h1, h2⟩ := FN_out h
 exact FN_in (e _ _ h1) h2
theorem FN_imp {H0 F : Hp} {n m : Bool} (h : m = true → n = true) : Same (FN H0 F n) (FN H0 F m) := fun b o q => by
 obtain ⟨h1, h2⟩ := FN_out q
 exact FN_in h1 fun z => h2 (h z)
theorem FN_new {H0 F : Hp} {n : Bool} {b : Addr} (h : H0 b = none) : FN H0 F n b = F b := by
 unfold FN
 rw [if_neg]
 rw [h]
 simp
section
variable {K : PySem.W.Frag} {H0 F G : Hp} {n m : Bool}
mutual
theorem At.flat (e : Same G F) : ∀ (d : D) (v : V), At K G v d → d.flat = true → At K (FN H0 F m) v d
 | .non, _, h, _ => by cases h; exact .non
 | .bl b, _, h, _ => by cases h; exact .bl b
 | .int i, _, h, _ => by cases h; exact .int i
 | .str s, _, h, _ => by cases h; exact .str s
 | .tup xs, _, h, k => by cases h with | tup h1 h2 => exact .tup (FN_in (e _ _ h1) fun _ => .inr rfl) (atL_flat e xs _ h2 k)
 | .scr _, _, _, e => by cases e
 | .ktup _, _, _, e => by cases e
 | .opq, _, _, e => by cases e
 | .clo _ _, _, _, e => by cases e
 | .xcp _, _, _, e => by cases e
 | .lst _, _, _, e => by cases e
 | .dct _ _, _, _, e => by cases e
 | .dctT _ _, _, _, e => by cases e
 | .obj _ _ _, _, _, e => by cases e
theorem atL_flat (e : Same G F) : ∀ (ds : List D) (vs : List V), Paired (At K G) vs ds → flatL ds = true → Paired (At K (FN H0 F m)) vs ds
 | [], _, h, _ => by cases h; exact .nil
 | d :: ds, _, h, k => by
  unfold flatL at k
  rw [Bool.and_eq_true] at k
  cases h with | cons h1 h2 => exact .cons (At.flat e d _ h1 k.1) (atL_flat e ds _ h2 k.2)
end
theorem atL_orFlat {ds : List D} {vs : List V} (h : Paired (At K (FN H0 F n)) vs ds) : Paired (At K (FN H0 F (n || flatL ds))) vs ds := by
 cases k : flatL ds with
 | false => rw [Bool.or_false]; exact h
 | true => exact atL_flat FN_le ds vs h k
end
inductive Top (K : PySem.W.Frag) (F H : Hp) (p : Addr) : D → Prop
 | lst {vs : List V} {ds : List D} : H p = some (.lst vs) → Paired (At K F) vs ds → Top K F H p (.lst ds)
 | dct {kvs : List (Key × V)} {ks : List Key} {ds : List D} : H p = some (.dK kvs) → kvs.map (·.1) = ks → Paired (At K F) (kvs.map (·.2)) ds → Top K F H p (.dct ks ds)
 | dctT {kvs : List (List Key × V)} {ks : List (List Key)} {ds : List D} : H p = some (.dT kvs) → kvs.map (·.1) = ks → Paired (At K F) (kvs.map (·.2)) ds → Top K F H p (.dctT ks ds)
 | obj {dx : Addr} {c : Str} {kvs : List (Str × V)} {fs : List Str} {ds : List D} : H p = some (.ins (He.ga K c) dx kvs) → kvs.map (·.1) = fs → Paired (At K F) (kvs.map (·.2)) ds → Top K F H p (.obj c fs ds)
theorem Top.mono {K : PySem.W.Frag} {F F' H H' : Hp} {p : Addr} {d : D} (h : Top K F H p d) (e : Same F F') (hp : H' p = H p) : Top K F' H' p d := by
 cases h with
 | lst h1 h2 => exact .lst (by rw [hp]; exact h1) (atL_mono e _ _ h2)
 | dct h1 h2 h3 => exact .dct (by rw [hp]; exact h1) h2 (atL_mono e _ _ h3)
 | dctT h1 h2 h3 => exact .dctT (by rw [hp]; exact h1) h2 (atL_mono e _ _ h3)
 | obj h1 h2 h3 => exact .obj (by rw [hp]; exact h1) h2 (atL_mono e _ _ h3)
theorem Top.is {K : PySem.W.Frag} {F H : Hp} {p : Addr} {d : D} (h : Top K F H p d) : ∃ o, H p = some o := by
 cases h <;> exact ⟨_, by assumption⟩
theorem Top.atoms {K : PySem.W.Frag} {F G H : Hp} {p : Addr} {d : D} (h : Top K F H p d) (e : d.kidsAtom = true) : Top K G H p d := by
 cases h with
 | lst h1 h2 => exact .lst h1 (atL_atom h2 e)
 | dct h1 h2 h3 => exact .dct h1 h2 (atL_atom h3 e)
 | dctT h1 h2 h3 => exact .dctT h1 h2 (atL_atom h3 e)
 | obj h1 h2 h3 => exact .obj h1 h2 (atL_atom h3 e)
theorem Top.at {K : PySem.W.Frag} {F F' H : Hp} {p : Addr} {d : D} (h : Top K F H p d) (e : Same F F') (hp : F' p = H p) : At K F' (.ref p) d := by
 cases h with
 | lst h1 h2 => exact .lst (by rw [hp]; exact h1) (atL_mono e _ _ h2)
 | dct h1 h2 h3 => exact .dct (.inl (by rw [hp]; exact h1)) h2 (atL_mono e _ _ h3)
 | dctT h1 h2 h3 => exact .dctT (by rw [hp]; exact h1) h2 (atL_mono e _ _ h3)
 | obj h1 h2 h3 => exact .obj (by rw [hp]; exact h1) h2 (atL_mono e _ _ h3)
def nt (o : HO) : Prop := ∀ ps, o ≠ .tbl ps
theorem Top.nt {K : PySem.W.Frag} {F H : Hp} {p : Addr} {d : D} {u : HO} (h : Top K F H p d) (e : H p = some u) : nt u := fun ps z => by
 subst z
 cases h with
 | lst h1 => rw [h1] at e; cases e
 | dct h1 => rw [h1] at e; cases e
 | dctT h1 => rw [h1] at e; cases e
 | obj h1 => rw [h1] at e; cases e
theorem Top.nx {K : PySem.W.Frag} {F H : Hp} {p : Addr} {d : D} (h : Top K F H p d) (φ : Heap → Prop) : H p ≠ some (.ext φ) := fun e => by
 cases h with
 | lst h1 => rw [h1] at e; cases e
 | dct h1 => rw [h1] at e; cases e
 | dctT h1 => rw [h1] at e; cases e
 | obj h1 => rw [h1] at e; cases e
theorem nt_lst {xs : List V} : nt (.lst xs) := fun _ z => by cases z
theorem nt_tup {xs : List V} : nt (.tup xs) := fun _ z => by cases z
theorem nt_dK {xs : List (Key × V)} : nt (.dK xs) := fun _ z => by cases z
structure Tb (K : PySem.W.Frag) (F H : Hp) : Prop where
 tab : LamX.Tabs (lamT K) H
 fnt : ∀ b o, F b = some o → nt o
theorem Tb.ext {K : PySem.W.Frag} {F H H' : Hp} (t : Tb K F H) (e : ∀ b o, H b = some o → H' b = some o) : Tb K F H' := ⟨t.tab.ext e, t.fnt⟩
theorem Tb.alloc {K : PySem.W.Frag} {F H : Hp} {p : Addr} {o : HO} (t : Tb K F H) (h : H p = none) : Tb K F (upd H p o) := t.ext fun b u q => by
 rw [upd_ne (ne_of_none q h)]
 exact q
theorem Tb.freeze {K : PySem.W.Frag} {F H : Hp} {p : Addr} {o : HO} (t : Tb K F H) (h : nt o) : Tb K (upd F p o) H := ⟨t.tab, fun b u q => by
 by_cases hb : b = p
 ·subst hb
  rw [upd_same] at q
  cases q
  exact h
 ·rw [upd_ne hb] at q
  exact t.fnt b u q⟩
theorem Tb.setA {K : PySem.W.Frag} {F H H' : Hp} {p : Addr} (t : Tb K F H) (h : ∀ ps, H p ≠ some (.tbl ps)) (h2 : ∀ φ, H p ≠ some (.ext φ)) (e : ∀ b, b ≠ p → ∀ o, H b = some o → H' b = some o) : Tb K F H' := ⟨fun q hq => by
 obtain ⟨ps, h3, h4, h5⟩ := t.tab q hq
 have n1 : q.1 ≠ p := fun z => h ps (by rw [← z]; exact h3)
 refine ⟨ps, e _ n1 _ h3, h4, fun pos cv hc => ?_⟩
 obtain ⟨c, e1, e2⟩ := h5 pos cv hc
 exact ⟨c, e1, e _ (fun z => by rw [z] at e2; unfold LamX.CodeO at e2; exact h2 _ e2) _ e2⟩, t.fnt⟩
theorem Tb.set {K : PySem.W.Frag} {F G H H' : Hp} {p : Addr} {d : D} (t : Tb K F H) (h : Top K G H p d) (e : ∀ b, b ≠ p → ∀ o, H b = some o → H' b = some o) : Tb K F H' :=
 t.setA (fun ps z => h.nt z ps rfl) h.nx e
theorem Tb.upd {K : PySem.W.Frag} {F G H : Hp} {p : Addr} {d : D} {o : HO} (t : Tb K F H) (h : Top K G H p d) : Tb K F (upd H p o) := t.set h fun b hb o z => by
 rw [upd_ne hb]; exact z
def isT : Option HO → Bool
 | some (.tbl _) => true
 | _ => false
theorem isT_nt {o : HO} (h : nt o) : isT (some o) = false := by
 unfold isT
 split
 ·rename_i ps e
  cases e
  exact absurd rfl (h ps)
 ·rfl
theorem isT_no {o : HO} (h : isT (some o) = false) : nt o := fun ps z => by
 subst z
 cases h
def NT (H : Hp) : Hp := fun b => if isT (H b) = true then none else H b
theorem NT_le {H : Hp} : Same (NT H) H := fun b o z => by
 unfold NT at z
 split at z
 ·cases z
 ·exact z
theorem NT_in {H : Hp} {b : Addr} {o : HO} (h : H b = some o) (n : nt o) : NT H b = some o := by
 unfold NT
 rw [if_neg (by rw [h, isT_nt n]; simp)]
 exact h
theorem NT_fnt {H : Hp} {b : Addr} {o : HO} (h : NT H b = some o) : nt o := by
 unfold NT at h
 split at h
 ·cases h
 ·rename_i k
  rw [h] at k
  exact isT_no (by cases q : isT (some o) with | true => exact absurd q k | false => rfl)
structure Fr where
 K : PySem.W.Frag
 H0 : Hp
 F0 : Hp
 io : List (Nat × Addr)
def SlAt (R : Fr) (F H : Hp) (i : Nat) (v : V) (s : Sl) : Prop := match s.m with
 | .fr => At R.K (FN R.H0 F s.n) v s.d
 | .ow => ∃ p, v = .ref p ∧ F p = none ∧ R.H0 p = none ∧ Top R.K (FN R.H0 F s.n) H p s.d
 | .io => ∃ p, v = .ref p ∧ F p = none ∧ (i, p) ∈ R.io ∧ Top R.K (FN R.H0 F s.n) H p s.d
def Own (g : G) (σ : L2.St) (b : Addr) : Prop := ∃ i s, g.get i = some s ∧ s.m ≠ .fr ∧ σ[i]? = some (some (.ref b))
structure Rel (R : Fr) (F : Hp) (g : G) (σ : L2.St) (H : Hp) : Prop where
 len : σ.length = g.length
 at_ : ∀ i s, g.get i = some s → ∃ v, σ[i]? = some (some v) ∧ SlAt R F H i v s
 dis : ∀ i j s t p, g.get i = some s → g.get j = some t → s.m ≠ .fr → t.m ≠ .fr → σ[i]? = some (some (.ref p)) → σ[j]? = some (some (.ref p)) → i = j
 ex : Same F H
 keep : ∀ b o, R.H0 b = some o → nt o → (∀ q ∈ R.io, q.2 ≠ b) → H b = some o
 there : ∀ b, (R.H0 b).isSome = true → (H b).isSome = true
 ios : ∀ q ∈ R.io, (R.H0 q.2).isSome = true
 iog : ∀ q ∈ R.io, ∃ s, g.get q.1 = some s ∧ s.m = .io ∧ σ[q.1]? = some (some (.ref q.2))
 f0 : Same R.F0 F
 fn : ∀ b, R.F0 b = none → (R.H0 b).isSome = true → F b = none
 tb : Tb R.K F H
structure Step (g : G) (σ : L2.St) (F H : Hp) (g' : G) (F' H' : Hp) : Prop where
 exF : Same F F'
 fr : ∀ b o, H b = some o → nt o → ¬ Own g σ b → H' b = some o
 nF : ∀ b, F b = none → (H b).isSome = true → ¬ Own g σ b → F' b = none
 own : ∀ b, Own g' σ b → Own g σ b
 there : ∀ b, (H b).isSome = true → (H' b).isSome = true
theorem Step.refl (g : G) (σ : L2.St) (F H : Hp) : Step g σ F H g F H := ⟨Same.refl F, fun _ _ h _ _ => h, fun _ h _ _ => h, fun _ h => h, fun _ h => h⟩
theorem Step.trans {g g1 g2 : G} {σ : L2.St} {F H F1 H1 F2 H2 : Hp} (a : Step g σ F H g1 F1 H1) (b : Step g1 σ F1 H1 g2 F2 H2) : Step g σ F H g2 F2 H2 where
 exF := a.exF.trans b.exF
 fr := fun x o h t n => b.fr x o (a.fr x o h t n) t fun z => n (a.own x z)
 nF := fun x h1 h2 n => b.nF x (a.nF x h1 h2 n) (a.there x h2) fun z => n (a.own x z)
 own := fun x z => a.own x (b.own x z)
 there := fun x z => b.there x (a.there x z)
def ResAt (R : Fr) (g' : G) (σ : L2.St) (H F' H' : Hp) (v : V) (s : Sl) : Prop := match s.m with
 | .fr => At R.K (FN R.H0 F' s.n) v s.d
 | .ow => ∃ p, v = .ref p ∧ H p = none ∧ F' p = none ∧ ¬ Own g' σ p ∧ Top R.K (FN R.H0 F' s.n) H' p s.d
 | .io => False
def wp {α : Type} (m : M α) (C : α → Prop) (W : Xc → Prop) : Prop := match m with
 | none => False
 | some (.ok a) => C a
 | some (.ex c) => W c
theorem wp_bnd {α β : Type} {m : M α} {f : α → M β} {C : β → Prop} {W : Xc → Prop} (h : wp (M.bnd m f) C W) : wp m (fun a => wp (f a) C W) W := by
 cases m with
 | none => exact h
 | some o => cases o <;> exact h
theorem wp_mono {α : Type} {m : M α} {C C' : α → Prop} {W W' : Xc → Prop} (h : wp m C W) (h1 : ∀ a, C a → C' a) (h2 : ∀ c, W c → W' c) : wp m C' W' := by
 cases m with
 | none => exact h
 | some o => cases o with
  | ok a => exact h1 _ h
  | ex c => exact h2 _ h
def XdOk (K : PySem.W.Frag) (F' H' : Hp) (c : Xc) (d : Option Addr) : Prop := (c.fs = [] → d = none) ∧ (c.fs ≠ [] → ∃ a kvs, d = some a ∧ H' a = some (.xd kvs) ∧ kvs.map (·.1) = c.fs.map (·.1) ∧ Paired (At K F') (kvs.map (·.2)) (c.fs.map (·.2)))
theorem XdOk.plain {K : PySem.W.Frag} {F' H' : Hp} {c : Str} : XdOk K F' H' ⟨c, []⟩ none := ⟨fun _ => rfl, fun h => absurd rfl h⟩
def hAt {α : Type} (h : Str → Option α) (c : Xc) : Option α := match c.fs with
 | [] => h c.c
 | _ :: _ => none
@[simp] theorem hAt_plain {α : Type} (h : Str → Option α) (c : Str) : hAt h ⟨c, []⟩ = h c := rfl
def ExW (R : Fr) (W : XK) (c : Xc) : Prop := ∀ d F' H', XdOk R.K F' H' c d → Same R.F0 F' → Same F' H' → Tb R.K F' H' → (∀ b, R.F0 b = none → (R.H0 b).isSome = true → F' b = none) →
 (∀ b o, R.H0 b = some o → nt o → (∀ q ∈ R.io, q.2 ≠ b) → H' b = some o) → (∀ b, (R.H0 b).isSome = true → (H' b).isSome = true) → W (.ref (He.ga R.K c.c)) d H'
def TE_ (R : Fr) (W : XK) (ev : G → M (Sl × G)) : TE := fun σ H Q => ∃ F g, Rel R F g σ H ∧
 wp (ev g) (fun (s, g') => ∀ v F' H', Rel R F' g' σ H' → Step g σ F H g' F' H' → ResAt R g' σ H F' H' v s → Q v H') (ExW R W)
end Y
namespace Y
open PySem PySem.Spec L2
theorem wp_nox {α : Type} {m : M α} {C : α → Prop} {W : Xc → Prop} (h : wp m.nox C W) : wp m C (fun _ => False) := by
 cases m with
 | none => exact h
 | some o => cases o with
  | ok a => exact h
  | ex c => exact h
theorem PE.imp {X : Cx} {e : Expr} {t t' : TE} (h : PE X e t) (i : ∀ σ H Q, t' σ H Q → t σ H Q) : PE X e t' := ⟨fun pins s σ H Q I q => h.run pins s σ H Q I (i σ H Q q)⟩
theorem PT.imp {X : Cx} {e : Expr} {t t' : TT} (h : PT X e t) (i : ∀ σ H Q, t' σ H Q → t σ H Q) : PT X e t' := ⟨fun pins s σ H Q I q => h.run pins s σ H Q I (i σ H Q q)⟩
theorem PW.imp {X : Cx} {e : Expr} {t t' : TT} (h : PW X e t) (i : ∀ σ H Q, t' σ H Q → t σ H Q) : PW X e t' := ⟨fun wh pins s σ H Q I q => h.run wh pins s σ H Q I (i σ H Q q)⟩
theorem PA.imp {X : Cx} {es : List Expr} {t t' : TA} (h : PA X es t) (i : ∀ σ H Q, t' σ H Q → t σ H Q) : PA X es t' := ⟨fun pos pins s σ H Q I q => h.run pos pins s σ H Q I (i σ H Q q)⟩
theorem PS.imp {X : Cx} {st : Stmt} {t t' : TS} (h : PS X st t) (i : ∀ D σ H, t' D σ H → t D σ H) : PS X st t' := ⟨fun pins s σ H D I q => h.run pins s σ H D I (i D σ H q)⟩
theorem PSs.imp {X : Cx} {st : List Stmt} {t t' : TS} (h : PSs X st t) (i : ∀ D σ H, t' D σ H → t D σ H) : PSs X st t' := ⟨fun pins s σ H D I q => h.run pins s σ H D I (i D σ H q)⟩
theorem PI.imp {X : Cx} {tg it : Expr} {t t' : TI} (h : PI X tg it t) (i : ∀ σ H R, t' σ H R → t σ H R) : PI X tg it t' := ⟨fun pins s σ H R I q => h.run pins s σ H R I (i σ H R q)⟩
section
variable {R : Fr} {F F' H H' : Hp} {g g' : G} {σ : L2.St} {p : Addr} {o : HO} {d : D} {v : V} {n : Bool} {i : Nat}
theorem slAt_mono {s : Sl} (h : SlAt R F H i v s) (e : Same F F') (nf : s.m ≠ .fr → ∀ p, v = .ref p → F p = none → F' p = none) (hp : s.m ≠ .fr → ∀ p, v = .ref p → H' p = H p) : SlAt R F' H' i v s := by
 obtain ⟨d, m, n⟩ := s
 cases m with
 | fr => exact At.mono (FN_mono e) _ _ h
 | ow =>
  obtain ⟨p, rfl, h1, h2, h3⟩ := h
  exact ⟨p, rfl, nf (by simp) p rfl h1, h2, h3.mono (FN_mono e) (hp (by simp) p rfl)⟩
 | io =>
  obtain ⟨p, rfl, h1, h2, h3⟩ := h
  exact ⟨p, rfl, nf (by simp) p rfl h1, h2, h3.mono (FN_mono e) (hp (by simp) p rfl)⟩
theorem slAt_own {s : Sl} (h : SlAt R F H i v s) (hm : s.m ≠ .fr) : ∃ p, v = .ref p ∧ F p = none ∧ Top R.K (FN R.H0 F s.n) H p s.d := by
 obtain ⟨d, m, n⟩ := s
 cases m with
 | fr => exact absurd rfl hm
 | ow =>
  obtain ⟨p, rfl, h1, h2, h3⟩ := h
  exact ⟨p, rfl, h1, h3⟩
 | io =>
  obtain ⟨p, rfl, h1, h2, h3⟩ := h
  exact ⟨p, rfl, h1, h3⟩
theorem Rel.own_some (r : Rel R F g σ H) {b : Addr} (h : Own g σ b) : F b = none ∧ ∃ u, H b = some u := by
 obtain ⟨i, s, h1, h2, h3⟩ := h
 obtain ⟨v, h4, h5⟩ := r.at_ i s h1
 rw [h3] at h4
 cases h4
 obtain ⟨p, e, h6, h7⟩ := slAt_own h5 h2
 cases e
 exact ⟨h6, h7.is⟩
theorem Rel.own_someN (r : Rel R F g σ H) {b : Addr} (h : Own g σ b) : F b = none ∧ ∃ u, H b = some u ∧ nt u := by
 obtain ⟨i, s, h1, h2, h3⟩ := h
 obtain ⟨v, h4, h5⟩ := r.at_ i s h1
 rw [h3] at h4
 cases h4
 obtain ⟨p, e, h6, h7⟩ := slAt_own h5 h2
 cases e
 obtain ⟨u, hu⟩ := h7.is
 exact ⟨h6, u, hu, h7.nt hu⟩
theorem Rel.fresh (r : Rel R F g σ H) (h : H p = none) : F p = none ∧ R.H0 p = none ∧ ¬ Own g σ p := by
 refine ⟨?_, ?_, fun z => ?_⟩
 ·cases q : F p with
  | none => rfl
  | some u => rw [r.ex p u q] at h; cases h
 ·cases q : R.H0 p with
  | none => rfl
  | some u =>
   have := r.there p (by rw [q]; rfl)
   rw [h] at this
   cases this
 ·obtain ⟨_, u, hu⟩ := r.own_some z
  rw [h] at hu
  cases hu
theorem Rel.alloc (r : Rel R F g σ H) (h : H p = none) : Rel R F g σ (upd H p o) := by
 obtain ⟨f0, h0, no⟩ := r.fresh h
 have keepsH : ∀ b u, H b = some u → upd H p o b = some u := fun b u q => by
  rw [upd_ne (ne_of_none q h)]
  exact q
 refine ⟨r.len, fun i s hi => ?_, r.dis, fun b u q => keepsH b u (r.ex b u q), fun b u q t n => keepsH b u (r.keep b u q t n), fun b q => ?_, r.ios, r.iog, r.f0, r.fn, r.tb.alloc h⟩
 ·obtain ⟨v, h1, h2⟩ := r.at_ i s hi
  refine ⟨v, h1, slAt_mono h2 (Same.refl F) (fun _ _ _ z => z) fun hm q e => ?_⟩
  subst e
  obtain ⟨_, u, hu⟩ := r.own_some (b := q) ⟨i, s, hi, hm, h1⟩
  exact upd_ne (ne_of_none hu h)
 ·obtain ⟨u, hu⟩ := Option.isSome_iff_exists.mp (r.there b q)
  rw [keepsH b u hu]
  rfl
theorem same_upd {F : Hp} {p : Addr} {o : HO} (h : F p = none) : Same F (upd F p o) := fun b u q => by
 rw [upd_ne (ne_of_none q h)]
 exact q
theorem Rel.freeze (r : Rel R F g σ H) (hf : F p = none) (hp : H p = some o) (no : ¬ Own g σ p) (h0 : R.H0 p = none) (hn : nt o) : Rel R (upd F p o) g σ H := by
 refine ⟨r.len, fun i s hi => ?_, r.dis, fun b u q => ?_, r.keep, r.there, r.ios, r.iog, r.f0.trans (same_upd hf), fun b h1 h2 => by rw [upd_ne (fun e => by rw [e, h0] at h2; cases h2)]; exact r.fn b h1 h2, r.tb.freeze hn⟩
 ·obtain ⟨v, h1, h2⟩ := r.at_ i s hi
  refine ⟨v, h1, slAt_mono h2 (same_upd hf) (fun hm q e z => ?_) fun _ _ _ => rfl⟩
  subst e
  rw [upd_ne (fun e => no (by rw [← e]; exact ⟨i, s, hi, hm, h1⟩))]
  exact z
 ·by_cases hb : b = p
  ·subst hb
   rw [upd_same] at q
   cases q
   exact hp
  ·rw [upd_ne hb] at q
   exact r.ex b u q
theorem Step.alloc (r : Rel R F g σ H) (h : H p = none) : Step g σ F H g F (upd H p o) :=
 ⟨Same.refl F, fun b u q _ _ => by rw [upd_ne (ne_of_none q h)]; exact q, fun _ q _ _ => q, fun _ z => z, fun b q => by
  obtain ⟨u, hu⟩ := Option.isSome_iff_exists.mp q
  rw [upd_ne (ne_of_none hu h), hu]
  rfl⟩
theorem Step.freeze {g0 : G} {F0 H0 : Hp} (st : Step g0 σ F0 H0 g F H) (hp : H0 p = none) (hf : F p = none) : Step g0 σ F0 H0 g (upd F p o) H :=
 ⟨st.exF.trans (same_upd hf), st.fr, fun b h1 h2 h3 => by
  rw [upd_ne (fun e => by subst e; rw [hp] at h2; cases h2)]
  exact st.nF b h1 h2 h3, st.own, st.there⟩
theorem Step.gone {g0 : G} {F0 H0 : Hp} (st : Step g0 σ F0 H0 g F H) (h : H p = none) : H0 p = none := by
 cases q : H0 p with
 | none => rfl
 | some u =>
  have := st.there p (by rw [q]; rfl)
  rw [h] at this
  cases this
theorem ResAt.frz {g0 : G} {F0 H0 : Hp} {s : Sl} (r : Rel R F g σ H) (st : Step g0 σ F0 H0 g F H) (r0 : Rel R F0 g0 σ H0) (h : ResAt R g σ H0 F H v s) :
  ∃ F', Rel R F' g σ H ∧ Step g0 σ F0 H0 g F' H ∧ At R.K (FN R.H0 F' s.n) v s.d := by
 obtain ⟨d, m, n⟩ := s
 cases m with
 | fr => exact ⟨F, r, st, h⟩
 | io => exact h.elim
 | ow =>
  obtain ⟨p, rfl, h1, h2, h3, h4⟩ := h
  obtain ⟨u, hu⟩ := h4.is
  refine ⟨upd F p u, r.freeze h2 hu h3 (r0.fresh h1).2.1 (h4.nt hu), st.freeze h1 h2, h4.at (FN_mono (same_upd h2)) ?_⟩
  rw [FN_new (r0.fresh h1).2.1, upd_same, hu]
abbrev Kont (R : Fr) (g : G) (σ : L2.St) (F H : Hp) (s : Sl) (g' : G) (Q : VK) : Prop := ∀ v F' H', Rel R F' g' σ H' → Step g σ F H g' F' H' → ResAt R g' σ H F' H' v s → Q v H'
theorem kont_fr {F2 H2 : Hp} {g2 : G} {Q : VK} (k : Kont R g σ F H ⟨d, .fr, n⟩ g2 Q) (r : Rel R F2 g2 σ H2) (st : Step g σ F H g2 F2 H2) (h : At R.K (FN R.H0 F2 n) v d) : Q v H2 := k v F2 H2 r st h
theorem kont_ow {F2 H2 : Hp} {g2 : G} {Q : VK} (k : Kont R g σ F H ⟨d, .ow, n⟩ g2 Q) (r : Rel R F2 g2 σ H2) (st : Step g σ F H g2 F2 H2) (hp : H2 p = none) (h : Top R.K (FN R.H0 F2 n) (upd H2 p o) p d) : Q (.ref p) (upd H2 p o) := by
 obtain ⟨f0, h0, no⟩ := r.fresh hp
 exact k _ F2 _ (r.alloc hp) (st.trans (.alloc r hp)) ⟨p, rfl, st.gone hp, f0, no, h⟩
theorem kont_tup {F2 H2 : Hp} {g2 : G} {Q : VK} {vs : List V} {ds : List D} (k : Kont R g σ F H ⟨.tup ds, .fr, n⟩ g2 Q) (r : Rel R F2 g2 σ H2) (st : Step g σ F H g2 F2 H2) (hp : H2 p = none) (h : Paired (At R.K (FN R.H0 F2 n)) vs ds) : Q (.ref p) (upd H2 p (.tup vs)) := by
 obtain ⟨f0, h0, no⟩ := r.fresh hp
 have e : Same (FN R.H0 F2 n) (FN R.H0 (upd F2 p (.tup vs)) n) := FN_mono (same_upd f0)
 refine k _ (upd F2 p (.tup vs)) _ ((r.alloc hp).freeze f0 upd_same no (r.fresh hp).2.1 nt_tup) ((st.trans (.alloc r hp)).freeze (st.gone hp) f0) (.tup ?_ (atL_mono e _ _ h))
 rw [FN_new h0, upd_same]
inductive View (K : PySem.W.Frag) (F H : Hp) : V → D → Prop
 | atom {v : V} {d : D} : At K F v d → d.atom = true → View K F H v d
 | scr {a : Addr} {ns : List Int} : SqL K H a (ns.map V.int) → At K F (.ref a) (.scr ns) → View K F H (.ref a) (.scr ns)
 | ktup {a : Addr} {xs : List Str} : SqT K (fun _ => none) a (xs.map V.str) → View K F H (.ref a) (.ktup xs)
 | tup {a : Addr} {vs : List V} {ds : List D} : H a = some (.tup vs) → Paired (At K F) vs ds → At K F (.ref a) (.tup ds) → View K F H (.ref a) (.tup ds)
 | dct {a : Addr} {kvs : List (Key × V)} {ks : List Key} {ds : List D} : Rd H a (.dK kvs) → kvs.map (·.1) = ks → Paired (At K F) (kvs.map (·.2)) ds → View K F H (.ref a) (.dct ks ds)
 | top {a : Addr} {d : D} : Top K F H a d → View K F H (.ref a) d
 | opq {v : V} : View K F H v .opq
 | clo {a : Addr} {i : Nat} {ds : List D} : At K F (.ref a) (.clo i ds) → View K F H (.ref a) (.clo i ds)
 | xcp {a : Addr} {c : Str} {oe : Obj} : H a = some (KnO oe) → Zc (.ref (He.ga K c)) none oe → (∃ vs, oe.data = .fields vs) → View K F H (.ref a) (.xcp c)
theorem At.view {K : PySem.W.Frag} (e : Same F H) : ∀ {d : D} {v : V}, At K F v d → View K F H v d := fun {d v} h => by
 cases h with
 | non => exact .atom .non rfl
 | bl b => exact .atom (.bl b) rfl
 | int b => exact .atom (.int b) rfl
 | str b => exact .atom (.str b) rfl
 | scr h1 => exact .scr (e.seq h1) (.scr h1)
 | ktup h1 => exact .ktup h1
 | opq v => exact .opq
 | clo h1 h2 h3 h4 h5 => exact .clo (.clo h1 h2 h3 h4 h5)
 | xcp h1 h2 h3 => exact .xcp (e _ _ h1) h2 h3
 | lst h1 h2 => exact .top (.lst (e _ _ h1) h2)
 | tup h1 h2 => exact .tup (e _ _ h1) h2 (.tup h1 h2)
 | dct h1 h2 h3 => exact .dct (h1.elim (fun z => .inl (e _ _ z)) fun ⟨o, z⟩ => .inr ⟨o, e _ _ z⟩) h2 h3
 | dctT h1 h2 h3 => exact .top (.dctT (e _ _ h1) h2 h3)
 | obj h1 h2 h3 => exact .top (.obj (e _ _ h1) h2 h3)
theorem View.at {K : PySem.W.Frag} (e : Same F H) : ∀ {d : D} {v : V}, View K F H v d → At K H v d := fun {d v} h => by
 cases h with
 | atom h1 h2 => exact h1.atom h2
 | scr h1 _ => exact .scr h1
 | ktup h1 => exact .ktup h1
 | tup h1 h2 _ => exact .tup h1 (atL_mono e _ _ h2)
 | dct h1 h2 h3 => exact .dct h1 h2 (atL_mono e _ _ h3)
 | top h => exact h.at e rfl
 | opq => exact .opq _
 | clo h => exact At.mono e _ _ h
 | xcp h1 h2 h3 => exact .xcp h1 h2 h3
def OpAt (R : Fr) (F : Hp) (σ : L2.St) (v : V) : Op → Prop
 | .val s => At R.K (FN R.H0 F s.n) v s.d
 | .slot i => σ[i]? = some (some v)
theorem OpAt.mono {o : Op} (h : OpAt R F σ v o) (e : Same F F') : OpAt R F' σ v o := by
 cases o with
 | val s => exact At.mono (FN_mono e) _ _ h
 | slot i => exact h
theorem OpAt.view {o : Op} {s : Sl} (h : OpAt R F σ v o) (r : Rel R F g σ H) (e : o.get g = some s) : View R.K (FN R.H0 F s.n) H v s.d := by
 have eF : Same (FN R.H0 F s.n) H := FN_le.trans r.ex
 cases o with
 | val t =>
  cases e
  exact At.view eF h
 | slot i =>
  have e' : (g.get i).map (fun s => (⟨s.d, s.m, s.n || s.d.atom⟩ : Sl)) = some s := e
  cases q : g.get i with
  | none => rw [q] at e'; cases e'
  | some t =>
   rw [q] at e'
   cases e'
   obtain ⟨v', h1, h2⟩ := r.at_ i t q
   have h' : σ[i]? = some (some v) := h
   rw [h'] at h1
   cases h1
   obtain ⟨d, m, n⟩ := t
   show View R.K (FN R.H0 F (n || d.atom)) H v d
   cases ha : d.atom with
   | true =>
    cases m with
    | fr => exact .atom (At.atom h2 ha) ha
    | ow =>
     obtain ⟨p, rfl, _, _, h3⟩ := h2
     cases h3 <;> cases ha
    | io =>
     obtain ⟨p, rfl, _, _, h3⟩ := h2
     cases h3 <;> cases ha
   | false =>
    rw [Bool.or_false]
    cases m with
    | fr => exact At.view (FN_le.trans r.ex) h2
    | ow =>
     obtain ⟨p, rfl, _, _, h3⟩ := h2
     exact .top h3
    | io =>
     obtain ⟨p, rfl, _, _, h3⟩ := h2
     exact .top h3
end
def TO_ (R : Fr) (W : XK) (ev : G → M (Op × G)) : TE := fun σ H Q => ∃ F g, Rel R F g σ H ∧
 wp (ev g) (fun (o, g') => ∀ v F' H', Rel R F' g' σ H' → Step g σ F H g' F' H' → OpAt R F' σ v o → Q v H') (ExW R W)
def TF_ (R : Fr) (W : XK) (ev : G → M (Sl × G)) : TE := fun σ H Q => ∃ F g, Rel R F g σ H ∧
 wp (ev g) (fun (s, g') => ∀ v F' H', Rel R F' g' σ H' → Step g σ F H g' F' H' → At R.K (FN R.H0 F' s.n) v s.d → Q v H') (ExW R W)
section
variable {X : Cx} {R : Fr} {W : XK} {e : Expr} {ev : G → M (Sl × G)}
theorem pe_frz (h : PE X e (TE_ R W ev)) : PE X e (TF_ R W ev) := PE.imp h fun σ H Q ⟨F, g, r, q⟩ => by
 refine ⟨F, g, r, wp_mono q (fun (s, g1) k v F' H' r' st res => ?_) fun _ z => z⟩
 obtain ⟨F2, r2, st2, h2⟩ := res.frz r' st r
 exact k v F2 H' r2 st2 h2
theorem pe_opd {c : C} (hc : ∀ i, c ≠ .var i) (h : PE X e (TE_ R W ev)) : PE X e (TO_ R W (opd c ev)) := by
 have h1 : opd c ev = fun g => M.bnd (ev g) fun (s, g1) => some (.ok (.val s.frz, g1)) := by
  funext g
  cases c <;> first | rfl | exact absurd rfl (hc _)
 rw [h1]
 refine PE.imp (pe_frz h) fun σ H Q ⟨F, g, r, q⟩ => ⟨F, g, r, wp_mono (wp_bnd q) (fun (s, g1) k v F' H' r' st h2 => ?_) fun _ z => z⟩
 exact k v F' H' r' st h2
theorem pe_slot {x : Str} {pos : Pos} {i : Nat} (h : PE X (.Name x pos) (tVar i)) : PE X (.Name x pos) (TO_ R W (opd (.var i) ev)) := PE.imp h fun σ H Q ⟨F, g, r, q⟩ => by
 have q' : wp (match g.get i with | some _ => some (.ok (Op.slot i, g)) | none => none) (fun (o, g') => ∀ v F' H', Rel R F' g' σ H' → Step g σ F H g' F' H' → OpAt R F' σ v o → Q v H') (ExW R W) := q
 cases e : g.get i with
 | none => rw [e] at q'; exact q'.elim
 | some s =>
  rw [e] at q'
  obtain ⟨v, h1, _⟩ := r.at_ i s e
  exact ⟨v, h1, q' v F H r (Step.refl g σ F H) h1⟩
end
end Y
namespace Y
open PySem PySem.Spec L2
def Res1 (R : Fr) (r : V → Hp → VK → Prop) (f : Sl → Option Sl) : Prop := ∀ (x : V) (sx s : Sl) (F H : Hp) (g : G) (σ : L2.St) (g0 : G) (F0 H0 : Hp) (Q : VK), Rel R F g σ H → Step g0 σ F0 H0 g F H →
 View R.K (FN R.H0 F sx.n) H x sx.d → f sx = some s → Kont R g0 σ F0 H0 s g Q → r x H Q
def Res2 (R : Fr) (r : R2) (f : Sl → Sl → Option Sl) : Prop := ∀ (x y : V) (sx sy s : Sl) (F H : Hp) (g : G) (σ : L2.St) (g0 : G) (F0 H0 : Hp) (Q : VK), Rel R F g σ H → Step g0 σ F0 H0 g F H →
 View R.K (FN R.H0 F sx.n) H x sx.d → View R.K (FN R.H0 F sy.n) H y sy.d → f sx sy = some s → Kont R g0 σ F0 H0 s g Q → r x y H Q
section
variable {R : Fr} {W : XK} {σ : L2.St} {H : Hp} {Q : VK} {ca cb : C} {eva evb : G → M (Sl × G)}
theorem imp_op1 {r : V → Hp → VK → Prop} {f : Sl → Option Sl} (h : Res1 R r f) (q : TE_ R W (op1 ca eva f) σ H Q) : tUn r (TO_ R W (opd ca eva)) σ H Q := by
 obtain ⟨F, g, rl, q⟩ := q
 refine ⟨F, g, rl, wp_mono (wp_bnd q) (fun (oa, g1) q1 v F1 H1 r1 st1 o1 => ?_) fun _ z => z⟩
 cases e : oa.get g1 with
 | none => simp only [e] at q1; exact q1.elim
 | some x =>
  simp only [e] at q1
  cases e2 : f x with
  | none => simp only [e2] at q1; exact q1.elim
  | some s =>
   simp only [e2] at q1
   exact h v x s F1 H1 g1 σ g F H Q r1 st1 (o1.view r1 e) e2 q1
theorem imp_op2 {r : R2} {f : Sl → Sl → Option Sl} (h : Res2 R r f) (q : TE_ R W (op2 ca cb eva evb f) σ H Q) : tOp r (TO_ R W (opd ca eva)) (TO_ R W (opd cb evb)) σ H Q := by
 obtain ⟨F, g, rl, q⟩ := q
 refine ⟨F, g, rl, wp_mono (wp_bnd q) (fun (oa, g1) q1 v F1 H1 r1 st1 o1 => ⟨F1, g1, r1, wp_mono (wp_bnd q1) (fun (ob, g2) q2 w F2 H2 r2 st2 o2 => ?_) fun _ z => z⟩) fun _ z => z⟩
 cases e : oa.get g2 with
 | none => simp only [e] at q2; exact q2.elim
 | some x =>
  cases e1 : ob.get g2 with
  | none => simp only [e, e1] at q2; exact q2.elim
  | some y =>
   simp only [e, e1] at q2
   cases e2 : f x y with
   | none => simp only [e2] at q2; exact q2.elim
   | some s =>
    simp only [e2] at q2
    exact h v w x y s F2 H2 g2 σ g F H Q r2 (st1.trans st2) ((o1.mono st2.exF).view r2 e) (o2.view r2 e1) e2 q2
end
section
variable {K : PySem.W.Frag} {F H : Hp} {v : V}
theorem View.as_int {i : Int} (h : View K F H v (.int i)) : v = .int i := by
 cases h with
 | atom h _ => cases h; rfl
 | top h => cases h
theorem View.as_bl {i : Bool} (h : View K F H v (.bl i)) : v = .bl i := by
 cases h with
 | atom h _ => cases h; rfl
 | top h => cases h
theorem View.as_str {i : Str} (h : View K F H v (.str i)) : v = .str i := by
 cases h with
 | atom h _ => cases h; rfl
 | top h => cases h
theorem View.as_non (h : View K F H v .non) : v = .non := by
 cases h with
 | atom h _ => cases h; rfl
 | top h => cases h
theorem View.as_lst {ds : List D} (h : View K F H v (.lst ds)) : ∃ a vs, v = .ref a ∧ H a = some (.lst vs) ∧ Paired (At K F) vs ds := by
 cases h with
 | atom h e => cases e
 | top h =>
  cases h with
  | lst h1 h2 => exact ⟨_, _, rfl, h1, h2⟩
theorem View.as_tup {ds : List D} (h : View K F H v (.tup ds)) : ∃ a vs, v = .ref a ∧ H a = some (.tup vs) ∧ Paired (At K F) vs ds ∧ At K F v (.tup ds) := by
 cases h with
 | atom h e => cases e
 | tup h1 h2 h3 => exact ⟨_, _, rfl, h1, h2, h3⟩
 | top h => cases h
theorem View.as_ktup {xs : List Str} (h : View K F H v (.ktup xs)) : ∃ a, v = .ref a ∧ SqT K H a (xs.map V.str) := by
 cases h with
 | atom h e => cases e
 | ktup h => exact ⟨_, rfl, ex_seqT (fun b o z => by cases z) h⟩
 | top h => cases h
theorem View.as_scr {ns : List Int} (h : View K F H v (.scr ns)) : ∃ a, v = .ref a ∧ SqL K H a (ns.map V.int) := by
 cases h with
 | atom h e => cases e
 | scr h _ => exact ⟨_, rfl, h⟩
 | top h => cases h
theorem View.as_dct {ks : List Key} {ds : List D} (h : View K F H v (.dct ks ds)) : ∃ a kvs, v = .ref a ∧ Rd H a (.dK kvs) ∧ kvs.map (·.1) = ks ∧ Paired (At K F) (kvs.map (·.2)) ds := by
 cases h with
 | atom h e => cases e
 | top h =>
  cases h with
  | dct h1 h2 h3 => exact ⟨_, _, rfl, .inl h1, h2, h3⟩
 | dct h1 h2 h3 => exact ⟨_, _, rfl, h1, h2, h3⟩
theorem View.as_dctT {ks : List (List Key)} {ds : List D} (h : View K F H v (.dctT ks ds)) : ∃ a kvs, v = .ref a ∧ H a = some (.dT kvs) ∧ kvs.map (·.1) = ks ∧ Paired (At K F) (kvs.map (·.2)) ds := by
 cases h with
 | atom h e => cases e
 | top h =>
  cases h with
  | dctT h1 h2 h3 => exact ⟨_, _, rfl, h1, h2, h3⟩
theorem View.as_obj {c : Str} {fs : List Str} {ds : List D} (h : View K F H v (.obj c fs ds)) : ∃ a dx kvs, v = .ref a ∧ H a = some (.ins (He.ga K c) dx kvs) ∧ kvs.map (·.1) = fs ∧ Paired (At K F) (kvs.map (·.2)) ds := by
 cases h with
 | atom h e => cases e
 | top h =>
  cases h with
  | obj h1 h2 h3 => exact ⟨_, _, _, rfl, h1, h2, h3⟩
end
end Y
namespace PySem
open L2 Y
theorem Paired.yapp {α β : Type} {F : α → β → Prop} : ∀ {xs : List α} {ys : List β} {xs' : List α} {ys' : List β}, Paired F xs ys → Paired F xs' ys' → Paired F (xs ++ xs') (ys ++ ys')
 | _, _, _, _, .nil, s => s
 | _, _, _, _, .cons r t, s => .cons r (Paired.yapp t s)
theorem Paired.yat {α β : Type} {F : α → β → Prop} : ∀ {xs : List α} {ys : List β} {i : Nat} {y : β}, Paired F xs ys → ys[i]? = some y → ∃ x, xs[i]? = some x ∧ F x y
 | _, _, i, _, .nil, e => by simp at e
 | _, _, 0, _, .cons r _, e => by simp at e; subst e; exact ⟨_, rfl, r⟩
 | _, _, i + 1, _, .cons _ t, e => by
  obtain ⟨x, h1, h2⟩ := Paired.yat (i := i) t (by simpa using e)
  exact ⟨x, by simpa using h1, h2⟩
theorem Paired.yatL {α β : Type} {F : α → β → Prop} : ∀ {xs : List α} {ys : List β} {i : Nat} {x : α}, Paired F xs ys → xs[i]? = some x → ∃ y, ys[i]? = some y ∧ F x y
 | _, _, i, _, .nil, e => by simp at e
 | _, _, 0, _, .cons r _, e => by simp at e; subst e; exact ⟨_, rfl, r⟩
 | _, _, i + 1, _, .cons _ t, e => by
  obtain ⟨x, h1, h2⟩ := Paired.yatL (i := i) t (by simpa using e)
  exact ⟨x, by simpa using h1, h2⟩
theorem Paired.yatI {α β : Type} {F : α → β → Prop} {xs : List α} {ys : List β} {i : Int} {y : β} (h : Paired F xs ys) (e : atI ys i = some y) : ∃ x, atI xs i = some x ∧ F x y := by
 unfold L2.atI at e ⊢
 rw [h.length]
 cases q : ixN ys.length i with
 | none => rw [q] at e; cases e
 | some j =>
  rw [q] at e
  exact h.yat (show ys[j]? = some y from e)
theorem Paired.ydrop {α β : Type} {F : α → β → Prop} : ∀ {xs : List α} {ys : List β} (n : Nat), Paired F xs ys → Paired F (xs.drop n) (ys.drop n)
 | _, _, 0, r => r
 | _, _, _ + 1, .nil => .nil
 | _, _, n + 1, .cons _ t => Paired.ydrop n t
theorem Paired.ytake {α β : Type} {F : α → β → Prop} : ∀ {xs : List α} {ys : List β} (n : Nat), Paired F xs ys → Paired F (xs.take n) (ys.take n)
 | _, _, 0, _ => .nil
 | _, _, _ + 1, .nil => .nil
 | _, _, n + 1, .cons r t => .cons r (Paired.ytake n t)
theorem Paired.ycut {α β : Type} {F : α → β → Prop} {xs : List α} {ys : List β} (lo hi : Option Int) (h : Paired F xs ys) : Paired F (cutD xs lo hi) (cutD ys lo hi) := by
 unfold cutD
 rw [h.length]
 exact (h.ydrop _).ytake _
theorem Paired.yrev {α β : Type} {F : α → β → Prop} {xs : List α} {ys : List β} (h : Paired F xs ys) : Paired F xs.reverse ys.reverse := by
 induction h with
 | nil => exact .nil
 | cons r t ih =>
  rw [List.reverse_cons, List.reverse_cons]
  exact ih.yapp (.cons r .nil)
theorem Paired.yrep {α β : Type} {F : α → β → Prop} {xs : List α} {ys : List β} (h : Paired F xs ys) : ∀ k : Nat, Paired F (List.replicate k xs).flatten (List.replicate k ys).flatten
 | 0 => .nil
 | k + 1 => by
  rw [List.replicate_succ, List.replicate_succ, List.flatten_cons, List.flatten_cons]
  exact h.yapp (Paired.yrep h k)
theorem Paired.ysnoc {α β : Type} {F : α → β → Prop} {xs : List α} {ys : List β} {x : α} {y : β} (h : Paired F xs ys) (r : F x y) : Paired F (xs ++ [x]) (ys ++ [y]) := h.yapp (.cons r .nil)
theorem Paired.yset {α β : Type} {F : α → β → Prop} {x : α} {y : β} (r : F x y) : ∀ {xs : List α} {ys : List β} (i : Nat), Paired F xs ys → Paired F (xs.set i x) (ys.set i y)
 | _, _, _, .nil => .nil
 | _, _, 0, .cons _ t => .cons r t
 | _, _, i + 1, .cons q t => .cons q (Paired.yset r i t)
theorem Paired.yimp {α β : Type} {F F' : α → β → Prop} : ∀ {xs : List α} {ys : List β}, Paired F xs ys → (∀ x y, F x y → F' x y) → Paired F' xs ys
 | _, _, .nil, _ => .nil
 | _, _, .cons r t, i => .cons (i _ _ r) (Paired.yimp t i)
end PySem
namespace Y
open PySem PySem.Spec L2
theorem lim_size {n : Nat} (h : n ≤ lim) : n ≤ sizeLine := Nat.le_trans h (by decide)
theorem lim_lt {n : Nat} (h : n < lim) : n < sizeLine := Nat.lt_of_lt_of_le h (by decide)
section
variable {R : Fr}
theorem atm_k {g0 g : G} {σ : L2.St} {F0 H0 F H : Hp} {Q : VK} {d : D} {v : V} (k : Kont R g0 σ F0 H0 (atm d) g Q) (r : Rel R F g σ H) (st : Step g0 σ F0 H0 g F H) (h : At R.K (FN R.H0 F true) v d) : Q v H := kont_fr k r st h
abbrev rBin : BOp → PySem.W.Frag → R2
 | .add, K => fun x y H Q => rI0 (fun i j => .int (i + j)) x y H Q ∨ (fun (x y : V) (H : Hp) (Q : VK) => ∃ i j, x = .str i ∧ y = .str j ∧ i.length + j.length ≤ sizeLine ∧ Q (.str (i ++ j)) H) x y H Q ∨ rCat x y H Q ∨ rCatA K x y H Q
 | .sub, _ => rI0 fun i j => .int (i - j)
 | .mul, K => fun x y H Q => rI CMul (fun i j => .int (i * j)) x y H Q ∨ rRep x y H Q ∨ rRepT K x y H Q
 | .mod, _ => rI (fun _ j => j ≠ 0) fun i j => .int (i.fmod j)
 | .fdiv, _ => rI CDivN fun i j => .int (i.fdiv j)
 | .pow, _ => rI CPow fun i j => .int (i ^ j.toNat)
end
end Y
namespace Y
open PySem PySem.Spec L2
section
variable {K : PySem.W.Frag} {H : Hp}
mutual
theorem At.dp : ∀ (d : D) (v : V) (p : PyData), At K H v d → d.py = some p → Dp K H v p
 | .non, _, _, h, e => by cases h; cases e; exact .non
 | .bl b, _, _, h, e => by cases h; cases e; exact .bl b
 | .int b, _, _, h, e => by cases h; cases e; exact .int b
 | .str b, _, _, h, e => by cases h; cases e; exact .str b
 | .lst xs, _, p, h, e => by
  cases h with
  | lst h1 h2 =>
   unfold D.py at e
   cases q : pyL xs with
   | none => rw [q] at e; cases e
   | some ps => rw [q] at e; cases e; exact .lst (SqL.of h1) (atL_dp xs _ ps h2 q)
 | .tup xs, _, p, h, e => by
  cases h with
  | tup h1 h2 =>
   unfold D.py at e
   cases q : pyL xs with
   | none => rw [q] at e; cases e
   | some ps => rw [q] at e; cases e; exact .tup (SqT.of h1) (atL_dp xs _ ps h2 q)
 | .scr _, _, _, _, e => by cases e
 | .ktup _, _, _, _, e => by cases e
 | .opq, _, _, _, e => by cases e
 | .clo _ _, _, _, _, e => by cases e
 | .xcp _, _, _, _, e => by cases e
 | .dct _ _, _, _, _, e => by cases e
 | .dctT _ _, _, _, _, e => by cases e
 | .obj _ _ _, _, _, _, e => by cases e
theorem atL_dp : ∀ (ds : List D) (vs : List V) (ps : List PyData), Paired (At K H) vs ds → pyL ds = some ps → DpAll K H vs ps
 | [], _, _, h, e => by cases h; cases e; exact .nil
 | d :: ds, _, ps, h, e => by
  cases h with
  | cons h1 h2 =>
   unfold pyL at e
   cases q : d.py with
   | none => rw [q] at e; cases e
   | some a =>
    cases q2 : pyL ds with
    | none => rw [q, q2] at e; cases e
    | some b =>
     rw [q, q2] at e
     cases e
     exact .cons (At.dp d _ a h1 q) (atL_dp ds _ b h2 q2)
end
end
section
variable {R : Fr}
theorem atL_and {F : Hp} {n m : Bool} {vs : List V} {ds : List D} (h : Paired (At R.K (FN R.H0 F n)) vs ds) : Paired (At R.K (FN R.H0 F (n && m))) vs ds :=
 atL_mono (FN_imp fun q => (Bool.and_eq_true_iff.mp q).1) _ _ h
theorem atL_and' {F : Hp} {n m : Bool} {vs : List V} {ds : List D} (h : Paired (At R.K (FN R.H0 F m)) vs ds) : Paired (At R.K (FN R.H0 F (n && m))) vs ds :=
 atL_mono (FN_imp fun q => (Bool.and_eq_true_iff.mp q).2) _ _ h
theorem res_add : Res2 R (rBin .add R.K) (resBin .add) := by
 intro x y ⟨dx, mx, nx⟩ ⟨dy, my, ny⟩ s F H g σ g0 F0 H0 Q r st vx vy e k
 have e' : (D.add dx dy).map (fun d => bySh d (nx && ny)) = some s := e
 cases dx with
 | int i =>
  cases dy with
  | int j =>
   cases e'
   obtain rfl := vx.as_int
   obtain rfl := vy.as_int
   exact .inl ⟨_, _, rfl, rfl, atm_k k r st (.int _)⟩
  | _ => cases e'
 | str a =>
  cases dy with
  | str b =>
   obtain rfl := vx.as_str
   obtain rfl := vy.as_str
   unfold D.add at e'
   dsimp only at e'
   split at e'
   ·rename_i hl
    cases e'
    exact .inr (.inl ⟨_, _, rfl, rfl, lim_size hl, atm_k k r st (.str _)⟩)
   ·cases e'
  | _ => cases e'
 | lst a =>
  cases dy with
  | lst b =>
   unfold D.add at e'
   dsimp only at e'
   split at e'
   ·rename_i hl
    cases e'
    obtain ⟨p, vs, rfl, hp, pa⟩ := vx.as_lst
    obtain ⟨q, us, rfl, hq, pb⟩ := vy.as_lst
    refine .inr (.inr (.inl ⟨p, q, vs, us, rfl, rfl, hp, hq, by rw [pa.length, pb.length]; exact lim_size hl, fun z hz => ?_⟩))
    exact kont_ow k r st hz (.lst upd_same ((atL_and pa).yapp (atL_and' pb)))
   ·cases e'
  | _ => cases e'
 | tup a =>
  cases dy with
  | tup b =>
   unfold D.add at e'
   dsimp only at e'
   split at e'
   ·rename_i hl
    cases e'
    obtain ⟨p, vs, rfl, hp, pa, aa⟩ := vx.as_tup
    obtain ⟨q, us, rfl, hq, pb, ab⟩ := vy.as_tup
    refine .inr (.inr (.inr ⟨p, q, vs, us, rfl, rfl, SqT.of hp, SqT.of hq, by rw [pa.length, pb.length]; exact lim_size hl, fun z => ?_, fun _ z => ?_, fun _ _ z hz => ?_⟩))
    ·subst z
     cases pa
     exact kont_fr k r st (At.mono (FN_imp fun w => (Bool.and_eq_true_iff.mp w).2) _ _ ab)
    ·subst z
     cases pb
     rw [List.append_nil] at k
     exact kont_fr k r st (At.mono (FN_imp fun w => (Bool.and_eq_true_iff.mp w).1) _ _ aa)
    ·exact kont_tup k r st hz ((atL_and pa).yapp (atL_and' pb))
   ·cases e'
  | _ => cases e'
 | _ => cases e'
theorem res_sub : Res2 R (rBin .sub R.K) (resBin .sub) := by
 intro x y ⟨dx, mx, nx⟩ ⟨dy, my, ny⟩ s F H g σ g0 F0 H0 Q r st vx vy e k
 have e' : (D.bin .sub dx dy).map (fun d => bySh d (nx && ny)) = some s := e
 cases dx with
 | int i =>
  cases dy with
  | int j =>
   cases e'
   obtain rfl := vx.as_int
   obtain rfl := vy.as_int
   exact ⟨_, _, rfl, rfl, atm_k k r st (.int _)⟩
  | _ => cases e'
 | _ => cases e'
theorem res_mod : Res2 R (rBin .mod R.K) (resBin .mod) := by
 intro x y ⟨dx, mx, nx⟩ ⟨dy, my, ny⟩ s F H g σ g0 F0 H0 Q r st vx vy e k
 have e' : (D.bin .mod dx dy).map (fun d => bySh d (nx && ny)) = some s := e
 cases dx with
 | int i =>
  cases dy with
  | int j =>
   obtain rfl := vx.as_int
   obtain rfl := vy.as_int
   unfold D.bin at e'
   dsimp only at e'
   split at e'
   ·cases e'
    exact ⟨_, _, rfl, rfl, by assumption, atm_k k r st (.int _)⟩
   ·cases e'
  | _ => cases e'
 | _ => cases e'
theorem res_fdiv : Res2 R (rBin .fdiv R.K) (resBin .fdiv) := by
 intro x y ⟨dx, mx, nx⟩ ⟨dy, my, ny⟩ s F H g σ g0 F0 H0 Q r st vx vy e k
 have e' : (D.bin .fdiv dx dy).map (fun d => bySh d (nx && ny)) = some s := e
 cases dx with
 | int i =>
  cases dy with
  | int j =>
   obtain rfl := vx.as_int
   obtain rfl := vy.as_int
   unfold D.bin at e'
   dsimp only at e'
   split at e'
   ·cases e'
    exact ⟨_, _, rfl, rfl, by assumption, atm_k k r st (.int _)⟩
   ·cases e'
  | _ => cases e'
 | _ => cases e'
theorem res_pow : Res2 R (rBin .pow R.K) (resBin .pow) := by
 intro x y ⟨dx, mx, nx⟩ ⟨dy, my, ny⟩ s F H g σ g0 F0 H0 Q r st vx vy e k
 have e' : (D.bin .pow dx dy).map (fun d => bySh d (nx && ny)) = some s := e
 cases dx with
 | int i =>
  cases dy with
  | int j =>
   obtain rfl := vx.as_int
   obtain rfl := vy.as_int
   unfold D.bin at e'
   dsimp only at e'
   split at e'
   ·cases e'
    exact ⟨_, _, rfl, rfl, by assumption, atm_k k r st (.int _)⟩
   ·cases e'
  | _ => cases e'
 | _ => cases e'
theorem res_mul : Res2 R (rBin .mul R.K) (resBin .mul) := by
 intro x y ⟨dx, mx, nx⟩ ⟨dy, my, ny⟩ s F H g σ g0 F0 H0 Q r st vx vy e k
 have e' : (D.mul dx dy).map (fun d => bySh d (nx && ny)) = some s := e
 cases dx with
 | int i =>
  cases dy with
  | int j =>
   obtain rfl := vx.as_int
   obtain rfl := vy.as_int
   unfold D.mul at e'
   dsimp only at e'
   split at e'
   ·rename_i hc
    cases e'
    exact .inl ⟨_, _, rfl, rfl, hc, atm_k k r st (.int _)⟩
   ·cases e'
  | _ => cases e'
 | lst a =>
  cases dy with
  | int j =>
   obtain ⟨p, vs, rfl, hp, pa⟩ := vx.as_lst
   obtain rfl := vy.as_int
   unfold D.mul at e'
   dsimp only at e'
   split at e'
   ·rename_i hc
    cases e'
    refine .inr (.inl ⟨p, j, vs, rfl, rfl, hp, hc.1, hc.2.1, by rw [pa.length]; exact lim_size hc.2.2, fun z hz => ?_⟩)
    exact kont_ow k r st hz (.lst upd_same ((atL_and pa).yrep _))
   ·cases e'
  | _ => cases e'
 | tup a =>
  cases dy with
  | int j =>
   obtain ⟨p, vs, rfl, hp, pa, _⟩ := vx.as_tup
   obtain rfl := vy.as_int
   unfold D.mul at e'
   dsimp only at e'
   split at e'
   ·rename_i hc
    cases e'
    refine .inr (.inr ⟨p, j, vs, rfl, rfl, SqT.of hp, fun z => ?_, hc.2.1, hc.2.2.1, by rw [pa.length]; exact hc.2.2.2, fun z hz => ?_⟩)
    ·subst z
     cases pa
     exact absurd hc.1 (by decide)
    ·exact kont_tup k r st hz ((atL_and pa).yrep _)
   ·cases e'
  | _ => cases e'
 | _ => cases e'
theorem res_bin (op : BOp) : Res2 R (rBin op R.K) (resBin op) := by
 cases op
 ·exact res_add
 ·exact res_sub
 ·exact res_mul
 ·exact res_mod
 ·exact res_fdiv
 ·exact res_pow
end
def BOp.py : BOp → Operator
 | .add => .Add | .sub => .Sub | .mul => .Mult | .mod => .Mod | .fdiv => .FloorDiv | .pow => .Pow
theorem op_bin {X : Cx} (op : BOp) : OpR X (binaryOp op.py) (rBin op X.K) := by
 cases op
 ·exact OpR.or op_add (OpR.or op_add_str (OpR.or op_cat op_catA))
 ·exact op_sub
 ·exact OpR.or op_mul (OpR.or op_rep op_repT)
 ·exact op_modN
 ·exact op_fdivN
 ·exact op_pow
theorem okP_iff {p : PyData} (h : okP p = true) : p.canLay0 = true ∧ p.depth ≤ 128 := by
 unfold okP at h
 simpa using h
def rEqY (K : PySem.W.Frag) : R2 := fun x y H Q => ∃ d e, Dp K H x d ∧ Dp K H y e ∧ okP d = true ∧ okP e = true ∧ Q (.bl (PyData.eqv d e)) H
def rNeY (K : PySem.W.Frag) : R2 := fun x y H Q => ∃ d e, Dp K H x d ∧ Dp K H y e ∧ okP d = true ∧ okP e = true ∧ Q (.bl (!PyData.eqv d e)) H
def rInY (K : PySem.W.Frag) : R2 := fun x y H Q => ∃ d ds, Dp K H x d ∧ Dp K H y (.list ds) ∧ okP d = true ∧ okP (.list ds) = true ∧ Q (.bl (ds.any fun z => PyData.eqv z d)) H
def rNotInY (K : PySem.W.Frag) : R2 := fun x y H Q => ∃ d ds, Dp K H x d ∧ Dp K H y (.list ds) ∧ okP d = true ∧ okP (.list ds) = true ∧ Q (.bl (!ds.any fun z => PyData.eqv z d)) H
def rInTD (K : PySem.W.Frag) : R2 := fun x y H Q => ∃ d ds, Dp K H x d ∧ Dp K H y (.tuple ds) ∧ okP d = true ∧ okP (.tuple ds) = true ∧ Q (.bl (ds.any fun z => PyData.eqv z d)) H
def rNotInTD (K : PySem.W.Frag) : R2 := fun x y H Q => ∃ d ds, Dp K H x d ∧ Dp K H y (.tuple ds) ∧ okP d = true ∧ okP (.tuple ds) = true ∧ Q (.bl (!ds.any fun z => PyData.eqv z d)) H
section
variable {X : Cx}
theorem op_eqY (hu : X.A.units + 140 < cLine) : OpR X (compareOp .Eq) (rEqY X.K) := by
 intro pins s σ H x y v u Q I rx ry h
 obtain ⟨d, e, hd, he, sd, se, q⟩ := h
 obtain ⟨as, r1⟩ := Dp.reads I d x v hd rx
 obtain ⟨bs, r2⟩ := Dp.reads I e y u he ry
 obtain ⟨c1, c2⟩ := okP_iff sd
 obtain ⟨c3, c4⟩ := okP_iff se
 exact SeqAt.compareEq_reads r1 r2 c1 c3 (by have := Nat.min_le_left d.depth e.depth; omega) ⟨.bl _, H, I, rfl, q⟩
theorem op_neY (hu : X.A.units + 140 < cLine) : OpR X (compareOp .NotEq) (rNeY X.K) := by
 intro pins s σ H x y v u Q I rx ry h
 obtain ⟨d, e, hd, he, sd, se, q⟩ := h
 obtain ⟨as, r1⟩ := Dp.reads I d x v hd rx
 obtain ⟨bs, r2⟩ := Dp.reads I e y u he ry
 obtain ⟨c1, c2⟩ := okP_iff sd
 obtain ⟨c3, c4⟩ := okP_iff se
 exact SeqAt.compareNe_reads r1 r2 c1 c3 (by have := Nat.min_le_left d.depth e.depth; omega) ⟨.bl _, H, I, rfl, q⟩
def rEqE : R2 := fun x y H Q => ∃ (a c : Addr) (v : V) (vs : List V), x = .ref a ∧ y = .ref c ∧ H a = some (.tup (v :: vs)) ∧ H c = some (.tup []) ∧ Q (.bl false) H
def rNeE : R2 := fun x y H Q => ∃ (a c : Addr) (v : V) (vs : List V), x = .ref a ∧ y = .ref c ∧ H a = some (.tup (v :: vs)) ∧ H c = some (.tup []) ∧ Q (.bl true) H
theorem op_eqE (hu : X.A.units + 140 < cLine) : OpR X (compareOp .Eq) rEqE := by
 intro pins s σ H x y v u Q I rx ry ⟨a, c, w, ws, e1, e2, h1, h2, q⟩
 subst e1 e2
 cases (show v = Value.ref a from rx)
 cases (show u = Value.ref c from ry)
 obtain ⟨its, rv, t1, _⟩ := I.tuple (SqT.of h1)
 obtain ⟨its2, rv2, t2, _⟩ := I.tuple (SqT.of h2)
 cases rv2
 refine SeqAt.eq_tupleAt (e := fun _ => true) t1 t2 (by omega) (fun j _ j2 => absurd j2 (by simp)) ?_
 have e : ((List.range (min its.toArray.size (#[] : Array Value).size)).all (fun _ => true) && its.toArray.size == (#[] : Array Value).size) = false := by
  cases rv with
  | cons _ _ => simp
 rw [e]
 exact ⟨.bl false, H, I, rfl, q⟩
theorem op_neE (hu : X.A.units + 140 < cLine) : OpR X (compareOp .NotEq) rNeE := by
 intro pins s σ H x y v u Q I rx ry ⟨a, c, w, ws, e1, e2, h1, h2, q⟩
 subst e1 e2
 cases (show v = Value.ref a from rx)
 cases (show u = Value.ref c from ry)
 obtain ⟨its, rv, t1, _⟩ := I.tuple (SqT.of h1)
 obtain ⟨its2, rv2, t2, _⟩ := I.tuple (SqT.of h2)
 cases rv2
 have z := SeqAt.RcNeAt.tuples (A := X.A) (s := s) (e := fun _ => true) t1 t2 (by omega) (fun j _ j2 => absurd j2 (by simp))
 refine z X.prog X.w _ _ ?_
 have e : (!((List.range (min its.toArray.size (#[] : Array Value).size)).all (fun _ => true) && its.toArray.size == (#[] : Array Value).size)) = true := by
  cases rv with
  | cons _ _ => simp
 rw [e]
 exact ⟨.bl true, H, I, rfl, q⟩
theorem op_inY (hu : X.A.units + 140 < cLine) : OpR X (compareOp .In) (rInY X.K) := by
 intro pins s σ H x y v u Q I rx ry h
 obtain ⟨d, ds, hd, he, sd, se, q⟩ := h
 obtain ⟨as, r1⟩ := Dp.reads I d x v hd rx
 obtain ⟨bs, r2⟩ := Dp.reads I (.list ds) y u he ry
 obtain ⟨c1, c2⟩ := okP_iff sd
 exact SeqAt.in_list_reads r2 r1 (okP_iff se).1 c1 (by have := Nat.min_le_right (PyData.depthAll ds) d.depth; omega) ⟨.bl _, H, I, rfl, q⟩
theorem op_notInY (hu : X.A.units + 140 < cLine) : OpR X (compareOp .NotIn) (rNotInY X.K) := by
 intro pins s σ H x y v u Q I rx ry h
 obtain ⟨d, ds, hd, he, sd, se, q⟩ := h
 obtain ⟨as, r1⟩ := Dp.reads I d x v hd rx
 obtain ⟨bs, r2⟩ := Dp.reads I (.list ds) y u he ry
 obtain ⟨c1, c2⟩ := okP_iff sd
 exact SeqAt.notIn_list_reads r2 r1 (okP_iff se).1 c1 (by have := Nat.min_le_right (PyData.depthAll ds) d.depth; omega) ⟨.bl _, H, I, rfl, q⟩
theorem op_inTD (hu : X.A.units + 140 < cLine) : OpR X (compareOp .In) (rInTD X.K) := by
 intro pins s σ H x y v u Q I rx ry h
 obtain ⟨d, ds, hd, he, sd, se, q⟩ := h
 obtain ⟨as, r1⟩ := Dp.reads I d x v hd rx
 obtain ⟨bs, r2⟩ := Dp.reads I (.tuple ds) y u he ry
 obtain ⟨c1, c2⟩ := okP_iff sd
 exact SeqAt.in_tuple_reads r2 r1 (okP_iff se).1 c1 (by have := Nat.min_le_right (PyData.depthAll ds) d.depth; omega) ⟨.bl _, H, I, rfl, q⟩
theorem op_notInTD (hu : X.A.units + 140 < cLine) : OpR X (compareOp .NotIn) (rNotInTD X.K) := by
 intro pins s σ H x y v u Q I rx ry h
 obtain ⟨d, ds, hd, he, sd, se, q⟩ := h
 obtain ⟨as, r1⟩ := Dp.reads I d x v hd rx
 obtain ⟨bs, r2⟩ := Dp.reads I (.tuple ds) y u he ry
 obtain ⟨c1, c2⟩ := okP_iff sd
 exact SeqAt.notIn_tuple_reads r2 r1 (okP_iff se).1 c1 (by have := Nat.min_le_right (PyData.depthAll ds) d.depth; omega) ⟨.bl _, H, I, rfl, q⟩
def rInS : R2 := fun x y H Q => ∃ (c : Nat) (z : Str), x = .str ⟨#[c]⟩ ∧ y = .str z ∧ Q (.bl (decide (c ∈ z.cps.toList))) H
def rNotInS : R2 := fun x y H Q => ∃ (c : Nat) (z : Str), x = .str ⟨#[c]⟩ ∧ y = .str z ∧ Q (.bl (!decide (c ∈ z.cps.toList))) H
def rInDc : R2 := fun x y H Q => ∃ (a : Addr) (o : Option V), y = .ref a ∧ DGet H a x o ∧ Q (.bl o.isSome) H
def rNotInDc : R2 := fun x y H Q => ∃ (a : Addr) (o : Option V), y = .ref a ∧ DGet H a x o ∧ Q (.bl (!o.isSome)) H
theorem op_inDc (hu : X.A.units + 1 < cLine) : OpR X (compareOp .In) rInDc := by
 intro pins s σ H x y v u Q I rx ry h
 obtain ⟨a, o, rfl, g, q⟩ := h
 cases ry
 exact d_in hu I g rx fun s' I' => ⟨.bl _, H, I', rfl, q⟩
theorem op_notInDc (hu : X.A.units + 1 < cLine) : OpR X (compareOp .NotIn) rNotInDc := by
 intro pins s σ H x y v u Q I rx ry h
 obtain ⟨a, o, rfl, g, q⟩ := h
 cases ry
 exact d_notIn hu I g rx fun s' I' => ⟨.bl _, H, I', rfl, q⟩
end
def rIsO : R2 := fun x y H Q => ∃ b : Bool, y = .bl b ∧ (x = .non ∨ ∃ p, x = .ref p) ∧ Q (.bl false) H
def rNotO : R2 := fun x y H Q => ∃ b : Bool, y = .bl b ∧ (x = .non ∨ ∃ p, x = .ref p) ∧ Q (.bl true) H
theorem op_isO {X : Cx} : OpR X (compareOp .Is) rIsO := by
 intro pins s σ H x y v u Q I rx ry h
 obtain ⟨b, rfl, h1, q⟩ := h
 cases (show u = Value.bool b from ry)
 rcases h1 with rfl | ⟨p, rfl⟩
 ·cases (show v = Value.none from rx)
  exact wpAny_is_other rfl (fun z => by cases z) ⟨.bl false, H, I, rfl, q⟩
 ·cases (show v = Value.ref p from rx)
  exact wpAny_is_other rfl (fun z => by cases z) ⟨.bl false, H, I, rfl, q⟩
theorem op_notO {X : Cx} : OpR X (compareOp .IsNot) rNotO := by
 intro pins s σ H x y v u Q I rx ry h
 obtain ⟨b, rfl, h1, q⟩ := h
 cases (show u = Value.bool b from ry)
 rcases h1 with rfl | ⟨p, rfl⟩
 ·cases (show v = Value.none from rx)
  exact wpAny_isNot_other rfl (fun z => by cases z) ⟨.bl true, H, I, rfl, q⟩
 ·cases (show v = Value.ref p from rx)
  exact wpAny_isNot_other rfl (fun z => by cases z) ⟨.bl true, H, I, rfl, q⟩
abbrev rCmp : KOp → PySem.W.Frag → R2
 | .eq, K => fun x y H Q => rEq x y H Q ∨ rEqY K x y H Q ∨ rEqE x y H Q
 | .ne, K => fun x y H Q => rNe x y H Q ∨ rNeY K x y H Q ∨ rNeE x y H Q
 | .lt, _ => rI0 fun i j => .bl (decide (i < j))
 | .le, _ => rI0 fun i j => .bl (decide (i ≤ j))
 | .gt, _ => rI0 fun i j => .bl (decide (j < i))
 | .ge, _ => rI0 fun i j => .bl (decide (j ≤ i))
 | .inn, K => fun x y H Q => rInY K x y H Q ∨ rInTD K x y H Q ∨ rInS x y H Q ∨ rInDc x y H Q
 | .nin, K => fun x y H Q => rNotInY K x y H Q ∨ rNotInTD K x y H Q ∨ rNotInS x y H Q ∨ rNotInDc x y H Q
 | .is_, _ => fun x y H Q => (fun (x y : V) (H : Hp) (Q : VK) => y = .non ∧ Q (.bl (decide (x = .non))) H) x y H Q ∨ rIsB x y H Q ∨ rIsO x y H Q
 | .isn, _ => fun x y H Q => (fun (x y : V) (H : Hp) (Q : VK) => y = .non ∧ Q (.bl (!decide (x = .non))) H) x y H Q ∨ rNotB x y H Q ∨ rNotO x y H Q
def KOp.py : KOp → CmpOp
 | .eq => .Eq | .ne => .NotEq | .lt => .Lt | .le => .LtE | .gt => .Gt | .ge => .GtE | .inn => .In | .nin => .NotIn | .is_ => .Is | .isn => .IsNot
theorem op_cmp {X : Cx} (hu : X.A.units + 140 < cLine) (op : KOp) : OpR X (compareOp op.py) (rCmp op X.K) := by
 have h64 : X.A.units + 64 < cLine := by omega
 have h1 : X.A.units + 1 < cLine := by omega
 cases op
 ·exact OpR.or op_eq (OpR.or (op_eqY hu) (op_eqE hu))
 ·exact OpR.or op_ne (OpR.or (op_neY hu) (op_neE hu))
 ·exact op_lt
 ·exact op_le
 ·exact op_gt
 ·exact op_ge
 ·exact OpR.or (op_inY hu) (OpR.or (op_inTD hu) (OpR.or op_in_sign (op_inDc h1)))
 ·exact OpR.or (op_notInY hu) (OpR.or (op_notInTD hu) (OpR.or op_notIn_sign (op_notInDc h1)))
 ·exact OpR.or op_isN (OpR.or op_isBl op_isO)
 ·exact OpR.or op_notN (OpR.or op_notBl op_notO)
section
variable {R : Fr}
theorem look_val {κ : Type} [DecidableEq κ] {P : V → D → Prop} (k : κ) : ∀ {kvs : List (κ × V)} {ks : List κ} {ds : List D}, kvs.map (·.1) = ks → Paired P (kvs.map (·.2)) ds →
  (∀ d, look ks ds k = some d → ∃ v, valV kvs k = some v ∧ P v d) ∧ (look ks ds k = none → valV kvs k = none)
 | [], ks, ds, h1, h2 => by
  cases h1
  cases h2
  exact ⟨fun d e => (by cases e), fun _ => rfl⟩
 | (j, v) :: r, ks, ds, h1, h2 => by
  cases h1
  cases h2 with
  | cons q t =>
   rename_i d ds
   show (∀ e, (if j = k then some d else look (r.map (·.1)) ds k) = some e → ∃ w, valV ((j, v) :: r) k = some w ∧ P w e) ∧ ((if j = k then some d else look (r.map (·.1)) ds k) = none → valV ((j, v) :: r) k = none)
   by_cases e : j = k
   ·rw [if_pos e, valV_pos (p := (j, v)) e]
    refine ⟨fun d' z => ?_, fun z => (by cases z)⟩
    cases z
    exact ⟨v, rfl, q⟩
   ·rw [if_neg e, valV_neg (p := (j, v)) e]
    exact look_val k rfl t
theorem key_kV {F H : Hp} {K : PySem.W.Frag} {v : V} {d : D} {k : Key} (h : View K F H v d) (e : d.key = some k) : v = kV k := by
 cases d with
 | int i => cases e; exact h.as_int
 | str s => cases e; exact h.as_str
 | _ => cases e
theorem keyL_kV {F : Hp} {K : PySem.W.Frag} : ∀ {ds : List D} {vs : List V} {ks : List Key}, Paired (At K F) vs ds → keyL ds = some ks → vs = ks.map kV
 | [], _, _, h, e => by cases h; cases e; rfl
 | d :: ds, _, ks, h, e => by
  cases h with
  | cons h1 h2 =>
   unfold keyL at e
   cases q : d.key with
   | none => rw [q] at e; cases e
   | some a =>
    cases q2 : keyL ds with
    | none => rw [q, q2] at e; cases e
    | some b =>
     rw [q, q2] at e
     cases e
     rw [keyL_kV h2 q2, List.map_cons]
     cases d with
     | int i => cases q; cases h1; rfl
     | str s => cases q; cases h1; rfl
     | _ => cases q
theorem keyT_kV {F H : Hp} {K : PySem.W.Frag} {v : V} {d : D} {k : List Key} (h : View K F H v d) (e : d.keyT = some k) : ∃ b, v = .ref b ∧ H b = some (.tup (k.map kV)) := by
 cases d with
 | tup xs =>
  obtain ⟨a, vs, rfl, h1, h2, _⟩ := h.as_tup
  refine ⟨a, rfl, ?_⟩
  rw [h1, keyL_kV h2 e]
 | _ => cases e
theorem dget_of {F H : Hp} {K : PySem.W.Frag} {v w : V} {ks : List Key} {ds : List D} {d : D} {k : Key} (h : View K F H v (.dct ks ds)) (hw : View K F' H w d) (e : d.key = some k) :
  ∃ a o, v = .ref a ∧ DGet H a w o ∧ (∀ x, look ks ds k = some x → ∃ u, o = some u ∧ At K F u x) ∧ (look ks ds k = none → o = none) := by
 obtain ⟨a, kvs, rfl, h1, h2, h3⟩ := h.as_dct
 obtain rfl := key_kV hw e
 obtain ⟨q1, q2⟩ := look_val k h2 h3
 exact ⟨a, _, rfl, .inl ⟨kvs, k, h1, rfl, rfl⟩, q1, q2⟩
theorem dget_ofT {F H : Hp} {K : PySem.W.Frag} {v w : V} {ks : List (List Key)} {ds : List D} {d : D} {k : List Key} (h : View K F H v (.dctT ks ds)) (hw : View K F' H w d) (e : d.keyT = some k) :
  ∃ a o, v = .ref a ∧ DGet H a w o ∧ (∀ x, look ks ds k = some x → ∃ u, o = some u ∧ At K F u x) ∧ (look ks ds k = none → o = none) := by
 obtain ⟨a, kvs, rfl, h1, h2, h3⟩ := h.as_dctT
 obtain ⟨b, rfl, hb⟩ := keyT_kV hw e
 obtain ⟨q1, q2⟩ := look_val k h2 h3
 exact ⟨a, _, rfl, DGet.t h1 hb, q1, q2⟩
theorem opt_isSome {α β : Type} {P : β → α → Prop} {l : Option α} {o : Option β} (h1 : ∀ x, l = some x → ∃ u, o = some u ∧ P u x) (h2 : l = none → o = none) : o.isSome = l.isSome := by
 cases l with
 | none => rw [h2 rfl]; rfl
 | some x => obtain ⟨u, rfl, _⟩ := h1 x rfl; rfl
theorem eqP_dp {F H : Hp} {K : PySem.W.Frag} {x y : V} {dx dy : D} {b : Bool} {n m : Bool} {H0 : Hp} (eF : Same F H) (vx : View K (FN H0 F n) H x dx) (vy : View K (FN H0 F m) H y dy) (hn : dx.py ≠ none) (e : D.eqP dx dy = some b) :
  ∃ p q, Dp K H x p ∧ Dp K H y q ∧ okP p = true ∧ okP q = true ∧ PyData.eqv p q = b := by
 unfold D.eqP at e
 cases h1 : dx.py with
 | none => exact absurd h1 hn
 | some p =>
  cases h2 : dy.py with
  | none => rw [h1, h2] at e; cases e
  | some q =>
   rw [h1, h2] at e
   dsimp only at e
   split at e
   ·rename_i h3
    cases e
    rw [Bool.and_eq_true] at h3
    exact ⟨p, q, At.dp _ _ _ (vx.at (FN_le.trans eF)) h1, At.dp _ _ _ (vy.at (FN_le.trans eF)) h2, h3.1, h3.2, rfl⟩
   ·cases e
theorem pyL_nil : ∀ {ds : List D}, pyL ds = some [] → ds = []
 | [], _ => rfl
 | d :: ds, h => by
  unfold pyL at h
  split at h <;> cases h
theorem eqP_tup {dx dy : D} {b : Bool} (hn : dx.py = none) (e : D.eqP dx dy = some b) : ∃ d ds, dx = .tup (d :: ds) ∧ dy = .tup [] ∧ b = false := by
 unfold D.eqP at e
 rw [hn] at e
 cases h2 : dy.py with
 | none => rw [h2] at e; cases e
 | some q =>
  rw [h2] at e
  dsimp only at e
  split at e
  ·rename_i q' xs
   cases e
   have hy : dy = .tup [] := by
    cases dy <;> first | (unfold D.py at h2; cases h2; done) | skip
    case tup ys =>
     unfold D.py at h2
     cases h3 : pyL ys with
     | none => rw [h3] at h2; cases h2
     | some ps =>
      rw [h3] at h2
      cases h2
      rw [pyL_nil h3]
    case lst ys =>
     unfold D.py at h2
     cases h3 : pyL ys with
     | none => rw [h3] at h2; cases h2
     | some ps => rw [h3] at h2; cases h2
   subst hy
   cases xs with
   | nil => cases hn
   | cons d ds => exact ⟨d, ds, rfl, rfl, rfl⟩
  ·cases e
theorem res_eq : Res2 R (rCmp .eq R.K) (cmpS .eq) := by
 intro x y ⟨dx, mx, nx⟩ ⟨dy, my, ny⟩ s F H g σ g0 F0 H0 Q r st vx vy e k
 have e' : (D.eqE dx dy).map (fun k => atm (.bl k)) = some s := e
 cases q : D.eqE dx dy with
 | none => rw [q] at e'; cases e'
 | some b =>
  rw [q] at e'
  cases e'
  by_cases hs : ∃ a b', dx = .str a ∧ dy = .str b'
  ·obtain ⟨a, b', rfl, rfl⟩ := hs
   obtain rfl := vx.as_str
   obtain rfl := vy.as_str
   refine .inl ⟨rfl, ?_⟩
   have e3 : decide (V.str a = V.str b') = b := by
    have : some (decide (a = b')) = some b := q
    rw [← Option.some.inj this, decide_eq_decide]
    exact ⟨fun z => V.str.inj z, fun z => by rw [z]⟩
   rw [e3]
   exact atm_k k r st (.bl _)
  ·have e2 : D.eqP dx dy = some b := by
    rw [← q]
    unfold D.eqE
    cases dx <;> first | rfl | (cases dy <;> first | rfl | exact absurd ⟨_, _, rfl, rfl⟩ hs)
   by_cases hn : dx.py = none
   ·obtain ⟨d, ds, rfl, rfl, rfl⟩ := eqP_tup hn e2
    obtain ⟨a, vs, rfl, g1, g2, _⟩ := vx.as_tup
    obtain ⟨c, ws, rfl, g3, g4, _⟩ := vy.as_tup
    cases g2 with
    | cons _ _ =>
     cases g4
     exact .inr (.inr ⟨_, _, _, _, rfl, rfl, g1, g3, atm_k k r st (.bl _)⟩)
   obtain ⟨p, q', h1, h2, h3, h4, h5⟩ := eqP_dp r.ex vx vy hn e2
   refine .inr (.inl ⟨p, q', h1, h2, h3, h4, ?_⟩)
   rw [h5]
   exact atm_k k r st (.bl _)
theorem res_ne : Res2 R (rCmp .ne R.K) (cmpS .ne) := by
 intro x y ⟨dx, mx, nx⟩ ⟨dy, my, ny⟩ s F H g σ g0 F0 H0 Q r st vx vy e k
 have e' : ((D.eqE dx dy).map (!·)).map (fun k => atm (.bl k)) = some s := e
 cases q : D.eqE dx dy with
 | none => rw [q] at e'; cases e'
 | some b =>
  rw [q] at e'
  cases e'
  by_cases hs : ∃ a b', dx = .str a ∧ dy = .str b'
  ·obtain ⟨a, b', rfl, rfl⟩ := hs
   obtain rfl := vx.as_str
   obtain rfl := vy.as_str
   refine .inl ⟨rfl, ?_⟩
   have e3 : decide (V.str a = V.str b') = b := by
    have : some (decide (a = b')) = some b := q
    rw [← Option.some.inj this, decide_eq_decide]
    exact ⟨fun z => V.str.inj z, fun z => by rw [z]⟩
   rw [e3]
   exact atm_k k r st (.bl _)
  ·have e2 : D.eqP dx dy = some b := by
    rw [← q]
    unfold D.eqE
    cases dx <;> first | rfl | (cases dy <;> first | rfl | exact absurd ⟨_, _, rfl, rfl⟩ hs)
   by_cases hn : dx.py = none
   ·obtain ⟨d, ds, rfl, rfl, rfl⟩ := eqP_tup hn e2
    obtain ⟨a, vs, rfl, g1, g2, _⟩ := vx.as_tup
    obtain ⟨c, ws, rfl, g3, g4, _⟩ := vy.as_tup
    cases g2 with
    | cons _ _ =>
     cases g4
     exact .inr (.inr ⟨_, _, _, _, rfl, rfl, g1, g3, atm_k k r st (.bl _)⟩)
   obtain ⟨p, q', h1, h2, h3, h4, h5⟩ := eqP_dp r.ex vx vy hn e2
   refine .inr (.inl ⟨p, q', h1, h2, h3, h4, ?_⟩)
   rw [h5]
   exact atm_k k r st (.bl _)
theorem res_ord (op : KOp) (f : Int → Int → Bool) (hr : rCmp op R.K = rI0 fun i j => .bl (f i j)) (hf : ∀ x y, D.cmp op x y = match x, y with | .int i, .int j => some (f i j) | _, _ => none) : Res2 R (rCmp op R.K) (cmpS op) := by
 intro x y ⟨dx, mx, nx⟩ ⟨dy, my, ny⟩ s F H g σ g0 F0 H0 Q r st vx vy e k
 have e' : (D.cmp op dx dy).map (fun k => atm (.bl k)) = some s := e
 rw [hf] at e'
 rw [hr]
 cases dx with
 | int i =>
  cases dy with
  | int j =>
   cases e'
   obtain rfl := vx.as_int
   obtain rfl := vy.as_int
   exact ⟨_, _, rfl, rfl, atm_k k r st (.bl _)⟩
  | _ => cases e'
 | _ => cases e'
theorem in_of {F H : Hp} {K : PySem.W.Frag} {x y : V} {dx dy : D} {b : Bool} {n m : Bool} {H0 : Hp} (eF : Same F H) (vx : View K (FN H0 F n) H x dx) (vy : View K (FN H0 F m) H y dy) (e : D.inn dx dy = some b) :
  (∃ d ds, Dp K H x d ∧ Dp K H y (.list ds) ∧ okP d = true ∧ okP (.list ds) = true ∧ (ds.any fun z => PyData.eqv z d) = b) ∨
  (∃ d ds, Dp K H x d ∧ Dp K H y (.tuple ds) ∧ okP d = true ∧ okP (.tuple ds) = true ∧ (ds.any fun z => PyData.eqv z d) = b) ∨
  (∃ (c : Nat) (z : Str), x = .str ⟨#[c]⟩ ∧ y = .str z ∧ decide (c ∈ z.cps.toList) = b) ∨ (∃ (a : Addr) (o : Option V), y = .ref a ∧ DGet H a x o ∧ o.isSome = b) := by
 cases dy with
 | lst ys =>
  left
  unfold D.inn at e
  dsimp only at e
  cases h1 : dx.py with
  | none => rw [h1] at e; cases e
  | some p =>
   cases h2 : pyL ys with
   | none => rw [h1, h2] at e; cases e
   | some qs =>
    rw [h1, h2] at e
    dsimp only at e
    split at e
    ·rename_i h3
     cases e
     rw [Bool.and_eq_true] at h3
     exact ⟨p, qs, At.dp _ _ _ (vx.at (FN_le.trans eF)) h1, At.dp _ _ _ (vy.at (FN_le.trans eF)) (by unfold D.py; rw [h2]; rfl), h3.1, h3.2, rfl⟩
    ·cases e
 | tup ys =>
  right; left
  unfold D.inn at e
  dsimp only at e
  cases h1 : dx.py with
  | none => rw [h1] at e; cases e
  | some p =>
   cases h2 : pyL ys with
   | none => rw [h1, h2] at e; cases e
   | some qs =>
    rw [h1, h2] at e
    dsimp only at e
    split at e
    ·rename_i h3
     cases e
     rw [Bool.and_eq_true] at h3
     exact ⟨p, qs, At.dp _ _ _ (vx.at (FN_le.trans eF)) h1, At.dp _ _ _ (vy.at (FN_le.trans eF)) (by unfold D.py; rw [h2]; rfl), h3.1, h3.2, rfl⟩
    ·cases e
 | str z =>
  right; right; left
  unfold D.inn at e
  dsimp only at e
  cases dx with
  | str t =>
   dsimp only at e
   split at e
   ·rename_i c hc
    cases e
    refine ⟨c, z, ?_, vy.as_str, rfl⟩
    rw [vx.as_str]
    obtain ⟨⟨l⟩⟩ := t
    have : l = [c] := hc
    rw [this]
   ·cases e
  | _ => cases e
 | dct ks xs =>
  right; right; right
  unfold D.inn at e
  dsimp only at e
  cases h1 : dx.key with
  | none => rw [h1] at e; cases e
  | some j =>
   rw [h1] at e
   cases e
   obtain ⟨a, o, rfl, hg, q1, q2⟩ := dget_of vy vx h1
   exact ⟨a, o, rfl, hg, opt_isSome q1 q2⟩
 | dctT ks xs =>
  right; right; right
  unfold D.inn at e
  dsimp only at e
  cases h1 : dx.keyT with
  | none => rw [h1] at e; cases e
  | some j =>
   rw [h1] at e
   cases e
   obtain ⟨a, o, rfl, hg, q1, q2⟩ := dget_ofT vy vx h1
   exact ⟨a, o, rfl, hg, opt_isSome q1 q2⟩
 | _ => cases e
theorem res_in : Res2 R (rCmp .inn R.K) (cmpS .inn) := by
 intro x y ⟨dx, mx, nx⟩ ⟨dy, my, ny⟩ s F H g σ g0 F0 H0 Q r st vx vy e k
 have e' : (D.inn dx dy).map (fun k => atm (.bl k)) = some s := e
 cases q : D.inn dx dy with
 | none => rw [q] at e'; cases e'
 | some b =>
  rw [q] at e'
  cases e'
  have fin : Q (.bl b) H := atm_k k r st (.bl _)
  rcases in_of r.ex vx vy q with ⟨d, ds, h1, h2, h3, h4, h5⟩ | ⟨d, ds, h1, h2, h3, h4, h5⟩ | ⟨c, z, h1, h2, h5⟩ | ⟨a, o, h1, h2, h5⟩
  ·exact .inl ⟨d, ds, h1, h2, h3, h4, by rw [h5]; exact fin⟩
  ·exact .inr (.inl ⟨d, ds, h1, h2, h3, h4, by rw [h5]; exact fin⟩)
  ·exact .inr (.inr (.inl ⟨c, z, h1, h2, by rw [h5]; exact fin⟩))
  ·exact .inr (.inr (.inr ⟨a, o, h1, h2, by rw [h5]; exact fin⟩))
theorem res_nin : Res2 R (rCmp .nin R.K) (cmpS .nin) := by
 intro x y ⟨dx, mx, nx⟩ ⟨dy, my, ny⟩ s F H g σ g0 F0 H0 Q r st vx vy e k
 have e' : ((D.inn dx dy).map (!·)).map (fun k => atm (.bl k)) = some s := e
 cases q : D.inn dx dy with
 | none => rw [q] at e'; cases e'
 | some b =>
  rw [q] at e'
  cases e'
  have fin : Q (.bl (!b)) H := atm_k k r st (.bl _)
  rcases in_of r.ex vx vy q with ⟨d, ds, h1, h2, h3, h4, h5⟩ | ⟨d, ds, h1, h2, h3, h4, h5⟩ | ⟨c, z, h1, h2, h5⟩ | ⟨a, o, h1, h2, h5⟩
  ·exact .inl ⟨d, ds, h1, h2, h3, h4, by rw [h5]; exact fin⟩
  ·exact .inr (.inl ⟨d, ds, h1, h2, h3, h4, by rw [h5]; exact fin⟩)
  ·exact .inr (.inr (.inl ⟨c, z, h1, h2, by rw [h5]; exact fin⟩))
  ·exact .inr (.inr (.inr ⟨a, o, h1, h2, by rw [h5]; exact fin⟩))
theorem isN_of {F H : Hp} {K : PySem.W.Frag} {x : V} {d : D} {b : Bool} (v : View K F H x d) (e : d.isN = some b) : decide (x = .non) = b := by
 cases d with
 | non => cases e; rw [v.as_non]; rfl
 | opq => cases e
 | clo => cases e
 | xcp => cases e
 | _ =>
  cases e
  cases v <;> first | rfl | (rename_i h; cases h <;> rfl) | (rename_i h _; cases h <;> rfl)
theorem res_is : Res2 R (rCmp .is_ R.K) (cmpS .is_) := by
 intro x y ⟨dx, mx, nx⟩ ⟨dy, my, ny⟩ s F H g σ g0 F0 H0 Q r st vx vy e k
 cases dy with
 | non =>
  have e' : (D.isN dx).map (fun k => atm (.bl k)) = some s := e
  cases q : D.isN dx with
  | none => rw [q] at e'; cases e'
  | some b =>
   rw [q] at e'
   cases e'
   refine .inl ⟨vy.as_non, ?_⟩
   rw [isN_of vx q]
   exact atm_k k r st (.bl _)
 | bl b =>
  cases dx with
  | bl a =>
   cases e
   exact .inr (.inl ⟨a, b, vx.as_bl, vy.as_bl, atm_k k r st (.bl _)⟩)
  | non =>
   cases e
   exact .inr (.inr ⟨b, vy.as_bl, .inl vx.as_non, atm_k k r st (.bl _)⟩)
  | obj c fs xs =>
   cases e
   refine .inr (.inr ⟨b, vy.as_bl, .inr ?_, atm_k k r st (.bl _)⟩)
   cases vx with
   | atom h1 h2 => cases h2
   | top h1 => exact ⟨_, rfl⟩
  | _ => cases e
 | _ => cases e
theorem res_isn : Res2 R (rCmp .isn R.K) (cmpS .isn) := by
 intro x y ⟨dx, mx, nx⟩ ⟨dy, my, ny⟩ s F H g σ g0 F0 H0 Q r st vx vy e k
 cases dy with
 | non =>
  have e' : ((D.isN dx).map (!·)).map (fun k => atm (.bl k)) = some s := e
  cases q : D.isN dx with
  | none => rw [q] at e'; cases e'
  | some b =>
   rw [q] at e'
   cases e'
   refine .inl ⟨vy.as_non, ?_⟩
   rw [isN_of vx q]
   exact atm_k k r st (.bl _)
 | bl b =>
  cases dx with
  | bl a =>
   cases e
   exact .inr (.inl ⟨a, b, vx.as_bl, vy.as_bl, atm_k k r st (.bl _)⟩)
  | non =>
   cases e
   exact .inr (.inr ⟨b, vy.as_bl, .inl vx.as_non, atm_k k r st (.bl _)⟩)
  | obj c fs xs =>
   cases e
   refine .inr (.inr ⟨b, vy.as_bl, .inr ?_, atm_k k r st (.bl _)⟩)
   cases vx with
   | atom h1 h2 => cases h2
   | top h1 => exact ⟨_, rfl⟩
  | _ => cases e
 | _ => cases e
theorem res_cmp (op : KOp) : Res2 R (rCmp op R.K) (cmpS op) := by
 cases op
 ·exact res_eq
 ·exact res_ne
 ·exact res_ord .lt (fun i j => decide (i < j)) rfl fun x y => rfl
 ·exact res_ord .le (fun i j => decide (i ≤ j)) rfl fun x y => rfl
 ·exact res_ord .gt (fun i j => decide (j < i)) rfl fun x y => rfl
 ·exact res_ord .ge (fun i j => decide (j ≤ i)) rfl fun x y => rfl
 ·exact res_in
 ·exact res_nin
 ·exact res_is
 ·exact res_isn
end
end Y
namespace Y
open PySem PySem.Spec L2 PyProof.Rows
def rDG : R2 := fun x y H Q => ∃ a v, x = .ref a ∧ DGet H a y (some v) ∧ Q v H
theorem ix_dict {X : Cx} (hu : X.A.units + 1 < cLine) : IxR X rDG := by
 intro value slice pins s σ H x y v u Q I rx ry h hs
 obtain ⟨a, w, rfl, g, q⟩ := h
 cases rx
 have hT := dict_typeIs I g
 unfold subscriptTail
 refine wpAny_bind ?_
 rw [getitemInPython_of_ne hT.not_modules]
 refine wpAny_bind (wpAny_specialOf hT PySem.F.slot_dict_getitem.lookup ?_)
 have fin : wpAny (model X.prog X.w) X.A (subscripted slice false (.ref a) u) (fun r s₃ => wpAny (model X.prog X.w) X.A (letTemporaryGo value (.ref a) r >>= fun _ => pure r) (EP X pins σ Q) X.xe s₃) X.xe s := by
  rw [hs]
  exact wpAny_operating (wpAny_mono (d_getItem hu I g ry fun w' s3 I3 rw' => (⟨w, H, I3, rw', q⟩ : EP X pins σ Q w' s3)) (fun r s₃ h₃ => wpAny_bind (wpAny_letTemporaryGo (wpAny_pure h₃))) fun _ _ x => x)
 first
  | exact wpAny_pure (wpAny_bind fin)
  | exact wpAny_bind (wpAny_pure (wpAny_bind fin))
  | exact wpAny_bind fin
section
variable {R : Fr}
theorem At.sub {F : Hp} {n : Bool} {v : V} {d : D} (h : At R.K (FN R.H0 F n) v d) : At R.K (FN R.H0 F (n || d.atom)) v d := by
 cases ha : d.atom with
 | true => exact h.atom ha
 | false => rw [Bool.or_false]; exact h
theorem atI_map {α β : Type} (f : α → β) (xs : List α) (i : Int) : atI (xs.map f) i = (atI xs i).map f := by
 unfold atI
 rw [List.length_map]
 cases ixN xs.length i with
 | none => rfl
 | some j => show (xs.map f)[j]? = (xs[j]?).map f; rw [List.getElem?_map]
abbrev rIxD (K : PySem.W.Frag) : R2 := fun x y H Q => rIx K x y H Q ∨ rDG x y H Q
theorem res_idx : Res2 R (rIxD R.K) idxS := by
 intro x y ⟨dx, mx, nx⟩ ⟨dy, my, ny⟩ s F H g σ g0 F0 H0 Q r st vx vy e k
 have e' : (D.idx dx dy).map (fun d => (⟨d, .fr, nx || d.atom⟩ : Sl)) = some s := e
 cases q : D.idx dx dy with
 | none => rw [q] at e'; cases e'
 | some d =>
  rw [q] at e'
  cases e'
  cases dx with
  | lst xs =>
   cases dy with
   | int i =>
    obtain ⟨p, vs, rfl, h1, h2⟩ := vx.as_lst
    obtain ⟨w, h3, h4⟩ := h2.yatI q
    exact .inl (.inl ⟨p, vs, i, w, rfl, vy.as_int, SqL.of h1, h3, kont_fr k r st h4.sub⟩)
   | _ => cases q
  | tup xs =>
   cases dy with
   | int i =>
    obtain ⟨p, vs, rfl, h1, h2, _⟩ := vx.as_tup
    obtain ⟨w, h3, h4⟩ := h2.yatI q
    exact .inl (.inr (.inl ⟨p, vs, i, w, rfl, vy.as_int, SqT.of h1, h3, kont_fr k r st h4.sub⟩))
   | _ => cases q
  | scr ns =>
   cases dy with
   | int i =>
    obtain ⟨p, rfl, h1⟩ := vx.as_scr
    have q' : (atI ns i).map D.int = some d := q
    cases h2 : atI ns i with
    | none => rw [h2] at q'; cases q'
    | some n =>
     rw [h2] at q'
     cases q'
     refine .inl (.inl ⟨p, _, i, .int n, rfl, vy.as_int, h1, by rw [atI_map, h2]; rfl, kont_fr k r st ?_⟩)
     exact At.int n
   | _ => cases q
  | str z =>
   cases dy with
   | int i =>
    have q' : (if z.length ≤ lim then (atI z.cps.toList i).map (fun c => D.str ⟨#[c]⟩) else none) = some d := q
    split at q'
    ·rename_i hl
     cases h2 : atI z.cps.toList i with
     | none => rw [h2] at q'; cases q'
     | some c =>
      rw [h2] at q'
      cases q'
      exact .inl (.inr (.inr ⟨z, i, c, vx.as_str, vy.as_int, lim_size hl, h2, kont_fr k r st (At.str _)⟩))
    ·cases q'
   | _ => cases q
  | dct ks xs =>
   have q' : (match dy.key with | some k => look ks xs k | none => none) = some d := q
   cases h1 : dy.key with
   | none => rw [h1] at q'; cases q'
   | some j =>
    rw [h1] at q'
    obtain ⟨a, o, rfl, hg, q1, _⟩ := dget_of vx vy h1
    obtain ⟨u, rfl, h4⟩ := q1 d q'
    exact .inr ⟨a, u, rfl, hg, kont_fr k r st h4.sub⟩
  | dctT ks xs =>
   have q' : (match dy.keyT with | some k => look ks xs k | none => none) = some d := q
   cases h1 : dy.keyT with
   | none => rw [h1] at q'; cases q'
   | some j =>
    rw [h1] at q'
    obtain ⟨a, o, rfl, hg, q1, _⟩ := dget_ofT vx vy h1
    obtain ⟨u, rfl, h4⟩ := q1 d q'
    exact .inr ⟨a, u, rfl, hg, kont_fr k r st h4.sub⟩
  | _ => cases q
theorem res_neg : Res1 R (rU fun i => .int (-i)) negS := by
 intro x ⟨dx, mx, nx⟩ s F H g σ g0 F0 H0 Q r st vx e k
 cases dx with
 | int i =>
  cases e
  exact ⟨i, vx.as_int, atm_k k r st (.int _)⟩
 | _ => cases e
abbrev rRev : V → Hp → VK → Prop := fun x H Q => ∃ a xs, x = .ref a ∧ H a = some (.lst xs) ∧ ∀ p, H p = none → Q (.ref p) (upd H p (.lst xs.reverse))
def rLrg : V → Hp → VK → Prop := fun x H Q => ∃ n, x = .int n ∧ RgOk 0 n ∧ ∀ q, H q = none → Q (.ref q) (upd H q (.lst (rgV 0 n)))
theorem rg_items {K : PySem.W.Frag} {F : Hp} (n : Int) : Paired (At K F) (rgV 0 n) (rngL 0 n.toNat 1) := by
 unfold rgV rngL
 rw [Int.sub_zero]
 have go : ∀ l : List Nat, Paired (At K F) (l.map fun i => V.int (0 + (i : Nat))) (l.map fun (k : Nat) => D.int (0 + (k : Int) * 1)) := fun l => by
  induction l with
  | nil => exact .nil
  | cons a r ih => exact .cons (by show At K F (V.int (0 + (a : Nat))) (D.int (0 + (a : Int) * 1)); rw [Int.mul_one]; exact .int _) ih
 exact go _
theorem res_lrg : Res1 R rLrg lrgS := by
 intro x ⟨dx, mx, nx⟩ s F H g σ g0 F0 H0 Q r st vx e k
 cases dx with
 | int j =>
  have e' : (if rngOk j && decide (j ≤ 16777216) then some (⟨.lst (rngL 0 j.toNat 1), .ow, true⟩ : Sl) else none) = some s := e
  split at e'
  ·rename_i h
   cases e'
   rw [Bool.and_eq_true, decide_eq_true_eq] at h
   obtain ⟨h1, h2⟩ := h
   unfold rngOk at h1
   rw [Bool.and_eq_true, decide_eq_true_eq, decide_eq_true_eq] at h1
   refine ⟨j, vx.as_int, ⟨by decide, by decide, h1.1, h1.2, ?_⟩, fun z hz => kont_ow k r st hz (.lst upd_same (rg_items j))⟩
   rw [Int.sub_zero]
   exact Int.toNat_le.mpr h2
  ·cases e'
 | _ => cases e
theorem res_rev : Res1 R rRev revS := by
 intro x ⟨dx, mx, nx⟩ s F H g σ g0 F0 H0 Q r st vx e k
 cases dx with
 | lst xs =>
  cases e
  obtain ⟨p, vs, rfl, h1, h2⟩ := vx.as_lst
  exact ⟨p, vs, rfl, h1, fun z hz => kont_ow k r st hz (.lst upd_same h2.yrev)⟩
 | _ => cases e
theorem look_lookup {P : V → D → Prop} (k : Str) : ∀ {kvs : List (Str × V)} {ks : List Str} {ds : List D}, kvs.map (·.1) = ks → Paired P (kvs.map (·.2)) ds → ∀ d, look ks ds k = some d → ∃ v, kvs.lookup k = some v ∧ P v d
 | [], ks, ds, h1, h2, d, e => by
  cases h1
  cases h2
  cases e
 | (j, v) :: r, ks, ds, h1, h2, d, e => by
  cases h1
  cases h2 with
  | cons q t =>
   rename_i d' ds
   have e' : (if j = k then some d' else look (r.map (·.1)) ds k) = some d := e
   rw [List.lookup_cons]
   by_cases h : j = k
   ·rw [if_pos h] at e'
    cases e'
    have : (k == j) = true := by rw [h]; exact beq_self_eq_true _
    rw [this]
    exact ⟨v, rfl, q⟩
   ·rw [if_neg h] at e'
    have : (k == j) = false := beq_eq_false_iff_ne.mpr fun z => h z.symm
    rw [this]
    exact look_lookup k rfl t d e'
theorem lookup_none {k : Str} : ∀ {kvs : List (Str × V)}, k ∉ kvs.map (·.1) → kvs.lookup k = none
 | [], _ => rfl
 | (j, v) :: r, h => by
  rw [List.lookup_cons]
  have : (k == j) = false := beq_eq_false_iff_ne.mpr fun z => h (by rw [z]; exact List.mem_cons_self)
  rw [this]
  exact lookup_none fun z => h (List.mem_cons_of_mem _ z)
def AttOk (K : PySem.W.Frag) (E : Ev) : Prop := ∀ c f, E.att c f = true → Cls K (He.ga K c) ∧ NoAttr K (He.ga K c) f
abbrev rAtt (K : PySem.W.Frag) (f : Str) : V → Hp → VK → Prop := fun x H Q => ∃ a C dx fs v, x = .ref a ∧ H a = some (.ins C dx fs) ∧ Cls K C ∧ NoAttr K C f ∧ fs.lookup f = some v ∧ Q v H
theorem res_att {E : Ev} (hE : AttOk R.K E) (f : Str) : Res1 R (rAtt R.K f) (attS E f) := by
 intro x ⟨dx, mx, nx⟩ s F H g σ g0 F0 H0 Q r st vx e k
 cases dx with
 | obj c fs xs =>
  have e' : (if E.att c f then (look fs xs f).map (fun d => (⟨d, .fr, nx || d.atom⟩ : Sl)) else none) = some s := e
  split at e'
  ·rename_i hc
   obtain ⟨hc1, hc2⟩ := hE c f hc
   cases q : look fs xs f with
   | none => rw [q] at e'; cases e'
   | some d =>
    rw [q] at e'
    cases e'
    obtain ⟨p, dx, kvs, rfl, h1, h2, h3⟩ := vx.as_obj
    obtain ⟨v, h4, h5⟩ := look_lookup f h2 h3 d q
    exact ⟨p, _, dx, kvs, v, rfl, h1, hc1, hc2, h4, kont_fr k r st h5.sub⟩
  ·cases e'
 | _ => cases e
def Ty.v (K : PySem.W.Frag) : Ty → V
 | .ty n => .ty n
 | .cls c => .ref (He.ga K c)
structure IsiOk (K : PySem.W.Frag) (E : Ev) : Prop where
 is_ : ∀ a t b, E.isi a t = some b → PySem.W.kitOne K (tyV' K a) (t.u K) = some b
 xc : ∀ c t b, E.isx c t = some b → ExcC K (He.ga K c) ∧ PySem.W.kitOne K (.ref (He.ga K c)) (t.u K) = some b
 cl : ∀ c t b, E.isi (.inr c) t = some b → Cls K (He.ga K c) ∧ PySem.W.findIn K (.ref (He.ga K c)) "__class__" = some (some (.builtin "object.__class__")) ∧
  PySem.W.specialIn K (.builtin "object.__class__") "__get__" = some (some (.builtin "getset_descriptor.__get__")) ∧ PySem.W.takesIn K (.builtin "object.__class__") = some true ∧ PySem.W.mroIn K (He.ga K c) (.type "object") = some true
def D.isX : D → Bool
 | .xcp _ => true
 | _ => false
theorem tyx_of {K : PySem.W.Frag} {E : Ev} (hE : IsiOk K E) {F H : Hp} {x : V} {d : D} {t : Ty} {b : Bool} (v : View K F H x d) (e : isiD E d t = some b) (hx : D.isX d = false) : ∃ u, TyX K H x u ∧ PySem.W.kitOne K u (t.u K) = some b := by
 have main : ∀ a : String, tyName d = some (.inl a) → TyX K H x (.type a) → ∃ u, TyX K H x u ∧ PySem.W.kitOne K u (t.u K) = some b := fun a ha hx => by
  refine ⟨_, hx, ?_⟩
  unfold isiD at e
  rw [ha] at e
  cases t with
  | ty n => exact kit_ty e
  | cls c => exact hE.is_ (.inl a) (.cls c) b e
 cases d with
 | non => exact main _ rfl (by rw [v.as_non]; exact .base .non)
 | bl k => exact main _ rfl (by rw [v.as_bl]; exact .base (.bl k))
 | int k => exact main _ rfl (by rw [v.as_int]; exact .base (.int k))
 | str k => exact main _ rfl (by rw [v.as_str]; exact .base (.str k))
 | scr ns =>
  obtain ⟨a, rfl, h⟩ := v.as_scr
  refine main _ rfl ?_
  rcases h with (h | ⟨o, h⟩) | ⟨oo, its, n, h, hc, _⟩
  ·exact .base (.lst h)
  ·exact .base (.frz h)
  ·exact .kList h hc
 | lst xs =>
  obtain ⟨a, vs, rfl, h, _⟩ := v.as_lst
  exact main _ rfl (.base (.lst h))
 | tup xs =>
  obtain ⟨a, vs, rfl, h, _⟩ := v.as_tup
  exact main _ rfl (.base (.tup h))
 | ktup xs =>
  unfold isiD at e
  cases e
 | opq =>
  unfold isiD at e
  cases e
 | clo i xs =>
  unfold isiD at e
  cases e
 | xcp c => cases hx
 | dct ks xs =>
  obtain ⟨a, vs, rfl, h, _⟩ := v.as_dct
  exact h.elim (fun h => main _ rfl (.base (.dK h))) fun ⟨o, h⟩ => main _ rfl (.fDict h)
 | dctT ks xs =>
  obtain ⟨a, vs, rfl, h, _⟩ := v.as_dctT
  exact main _ rfl (.base (.dT h))
 | obj c fs xs =>
  obtain ⟨a, dx, kvs, rfl, h, _⟩ := v.as_obj
  have e' : E.isi (.inr c) t = some b := e
  obtain ⟨h1, h2, h3, h4, h5⟩ := hE.cl c t b e'
  exact ⟨_, .base (.ins h h1 h2 h3 h4 h5), hE.is_ _ _ _ e'⟩
theorem Ty.clsV (K : PySem.W.Frag) (t : Ty) : ClsV (t.v K) (t.u K) := by
 cases t with
 | ty n => exact .ty n
 | cls c => exact .own _
def rIsiE (K : PySem.W.Frag) : List V → Hp → VK → Prop := fun xs H Q => rIsi K xs H Q ∨ ∃ (a D : Addr) (oe : Obj) (c : V) (u : Value) (b : Bool), xs = [.ref a, c] ∧ H a = some (KnO oe) ∧ Zc (.ref D) none oe ∧ (∃ vs, oe.data = .fields vs) ∧ ExcC K D ∧ ClsV c u ∧ PySem.W.kitOne K (.ref D) u = some b ∧ Q (.bl b) H
theorem call_isiE {X : Cx} : CallR X (.builtin "isinstance") (rIsiE X.K) := by
 intro pins s σ H xs us Q I r h
 rcases h with h | ⟨a, D, oe, c, u, b, rfl, hk, hz, ⟨vs, hv⟩, C, kc, e, q⟩
 ·exact call_isi pins s σ H xs us Q I r h
 ·obtain ⟨u1, u2, rfl, r1, r2⟩ := vals2 r
  have e2 := kc.eq r2
  subst e2
  cases (show u1 = Value.ref a from r1)
  have hget : s.heap.get? a = some oe := (I.hok a _ hk).1
  have J : PySem.W.InstAt s.heap a oe D none := by
   obtain ⟨oc, od, oda, osl⟩ := oe
   obtain ⟨z1, z2⟩ := hz
   dsimp only at z1 z2 hv
   subst z1 z2 hv
   exact ⟨hget, rfl, rfl, trivial⟩
  exact PySem.W.kia_one (PySem.W.handS_kitx_exc C.hg C.hk C.hs C.hd C.ha C.hn C.ht C.hm) I.kIn J e (fun z => nomatch z) fun tk => ⟨.bl b, H, I.tok tk, rfl, q⟩
theorem res_isi {E : Ev} (hE : IsiOk R.K E) (t : Ty) : Res1 R (fun x H Q => rIsiE R.K [x, t.v R.K] H Q) (isiS E t) := by
 intro x ⟨dx, mx, nx⟩ s F H g σ g0 F0 H0 Q r st vx e k
 have e' : (isiD E dx t).map (fun k => atm (.bl k)) = some s := e
 cases q : isiD E dx t with
 | none => rw [q] at e'; cases e'
 | some b =>
  rw [q] at e'
  cases e'
  cases hx : D.isX dx with
  | false =>
   obtain ⟨u, h1, h2⟩ := tyx_of hE vx q hx
   exact .inl ⟨x, _, u, _, b, rfl, Ty.clsV _ t, h1, h2, atm_k k r st (.bl _)⟩
  | true =>
   cases dx with
   | xcp c =>
    cases vx with
    | xcp g1 g2 g3 =>
     obtain ⟨a1, a2⟩ := hE.xc c t b q
     exact .inr ⟨_, _, _, _, _, b, rfl, g1, g2, g3, a1, Ty.clsV _ t, a2, atm_k k r st (.bl _)⟩
    | atom z1 z2 => cases z2
    | top z => cases z
   | _ => cases hx
theorem indexD_of {H : Hp} {F : Hp} {K : PySem.W.Frag} : ∀ {xs : List D} {ps : List PyData} {y : D} {p : PyData} {n k : Nat}, pyL xs = some ps → y.py = some p → indexD y xs n = some k →
  n ≤ k ∧ ∃ z, ps[k - n]? = some z ∧ PyData.eqv z p = true ∧ ∀ (m : Nat) (z' : PyData), m < k - n → ps[m]? = some z' → PyData.eqv z' p = false := by
 intro xs
 induction xs with
 | nil => intro ps y p n k h1 h2 e; cases e
 | cons x xs ih =>
  intro ps y p n k h1 h2 e
  have py1 : ∃ a b, x.py = some a ∧ pyL xs = some b ∧ ps = a :: b := by
   unfold pyL at h1
   cases q : x.py with
   | none => rw [q] at h1; cases h1
   | some a =>
    cases q2 : pyL xs with
    | none => rw [q, q2] at h1; cases h1
    | some b => rw [q, q2] at h1; cases h1; exact ⟨a, b, rfl, rfl, rfl⟩
  obtain ⟨a, b, ha, hb, rfl⟩ := py1
  have eqa : ∀ c, x.eqE y = some c → PyData.eqv a p = c := fun c hc => by
   unfold D.eqE at hc
   cases x with
   | str s =>
    cases y with
    | str t =>
     cases ha
     cases h2
     have : some (decide (s = t)) = some c := hc
     rw [← Option.some.inj this]
     simp only [PyData.eqv]
     by_cases e : s = t
     ·subst e; simp
     ·simp [e]
    | _ =>
     all_goals
      simp only [D.eqP, ha, h2] at hc
      split at hc
      ·cases hc; rfl
      ·cases hc
   | _ =>
    all_goals
     simp only [D.eqP, ha, h2] at hc
     split at hc
     ·cases hc; rfl
     ·cases hc
  have e' : (match x.eqE y with | some true => some n | some false => indexD y xs (n + 1) | none => none) = some k := e
  cases q : x.eqE y with
  | none => rw [q] at e'; cases e'
  | some c =>
   rw [q] at e'
   cases c with
   | true =>
    cases e'
    rw [Nat.sub_self]
    exact ⟨Nat.le_refl _, a, rfl, eqa _ q, fun m z' hm _ => absurd hm (Nat.not_lt_zero _)⟩
   | false =>
    obtain ⟨h3, z, h4, h5, h6⟩ := ih hb h2 (show indexD y xs (n + 1) = some k from e')
    have hk : k - n = (k - (n + 1)) + 1 := by omega
    refine ⟨by omega, z, by rw [hk]; simpa using h4, h5, fun m z' hm hz => ?_⟩
    cases m with
    | zero =>
     simp at hz
     subst hz
     exact eqa _ q
    | succ m => exact h6 m z' (by omega) (by simpa using hz)
theorem res_index : Res2 R (fun x y H Q => rIndexD R.K x [y] H Q) indexS := by
 intro x y ⟨dx, mx, nx⟩ ⟨dy, my, ny⟩ s F H g σ g0 F0 H0 Q r st vx vy e k
 cases dx with
 | lst xs =>
  have e0 : (if shapD dy && shapD (.lst xs) then (match D.inn dy (.lst xs), indexD dy xs 0 with
   | some true, some k => some (atm (.int (k : Nat)))
   | _, _ => none) else none) = some s := e
  have hsh : (shapD dy && shapD (.lst xs)) = true := by
   cases z : (shapD dy && shapD (.lst xs)) with
   | true => rfl
   | false => rw [z] at e0; cases e0
  rw [if_pos hsh] at e0
  have e' : (match D.inn dy (.lst xs), indexD dy xs 0 with
   | some true, some k => some (atm (.int (k : Nat)))
   | _, _ => none) = some s := e0
  rw [Bool.and_eq_true] at hsh
  cases q : D.inn dy (.lst xs) with
  | none => rw [q] at e'; cases e'
  | some b =>
   cases b with
   | false => rw [q] at e'; cases e'
   | true =>
    cases q2 : indexD dy xs 0 with
    | none => rw [q, q2] at e'; cases e'
    | some j =>
     rw [q, q2] at e'
     cases e'
     have q' := q
     unfold D.inn at q'
     dsimp only at q'
     cases h1 : dy.py with
     | none => rw [h1] at q'; cases q'
     | some p =>
      cases h2 : pyL xs with
      | none => rw [h1, h2] at q'; cases q'
      | some ps =>
       rw [h1, h2] at q'
       dsimp only at q'
       split at q'
       ·rename_i h3
        rw [Bool.and_eq_true] at h3
        obtain ⟨a, vs, rfl, h4, h5⟩ := vx.as_lst
        obtain ⟨_, z, h6, h7, h8⟩ := indexD_of (H := H) (F := F) (K := R.K) h2 h1 q2
        rw [Nat.sub_zero] at h6 h8
        refine ⟨a, y, p, ps, j, z, rfl, rfl, .lst (SqL.of h4) (atL_dp _ _ _ (atL_mono (FN_le.trans r.ex) _ _ h5) h2), At.dp _ _ _ (vy.at (FN_le.trans r.ex)) h1, (by have z := hsh.2; unfold shapD at z; rw [show D.py (.lst xs) = some (.list ps) by simp [D.py, h2]] at z; exact z), (by have z := hsh.1; unfold shapD at z; rw [h1] at z; exact z), h6, h7, h8, ?_⟩
        exact atm_k k r st (.int _)
       ·cases q'
 | _ => cases e
end
end Y
namespace Y
open PySem PySem.Spec L2
def ResL (R : Fr) (r : List V → Hp → VK → Prop) (f : List Sl → Option Sl) : Prop := ∀ (xs : List V) (ss : List Sl) (s : Sl) (F H : Hp) (g : G) (σ : L2.St) (g0 : G) (F0 H0 : Hp) (Q : VK), Rel R F g σ H → Step g0 σ F0 H0 g F H →
 Paired (fun x s => View R.K (FN R.H0 F s.n) H x s.d) xs ss → f ss = some s → Kont R g0 σ F0 H0 s g Q → r xs H Q
theorem blsD_of {P : V → D → Prop} (hP : ∀ v b, P v (.bl b) → v = .bl b) : ∀ {ds : List D} {vs : List V} {bs : List Bool}, Paired P vs ds → blsD ds = some bs → vs = bs.map V.bl
 | [], _, _, h, e => by cases h; cases e; rfl
 | d :: ds, _, bs, h, e => by
  cases h with
  | cons h1 h2 =>
   cases d with
   | bl b =>
    have e' : (blsD ds).map (b :: ·) = some bs := e
    cases q : blsD ds with
    | none => rw [q] at e'; cases e'
    | some cs =>
     rw [q] at e'
     cases e'
     rw [hP _ _ h1, blsD_of hP h2 q, List.map_cons]
   | _ => cases e
theorem intsD_of {P : V → D → Prop} (hP : ∀ v b, P v (.int b) → v = .int b) : ∀ {ds : List D} {vs : List V} {bs : List Int}, Paired P vs ds → intsD ds = some bs → vs = bs.map V.int
 | [], _, _, h, e => by cases h; cases e; rfl
 | d :: ds, _, bs, h, e => by
  cases h with
  | cons h1 h2 =>
   cases d with
   | int b =>
    have e' : (intsD ds).map (b :: ·) = some bs := e
    cases q : intsD ds with
    | none => rw [q] at e'; cases e'
    | some cs =>
     rw [q] at e'
     cases e'
     rw [hP _ _ h1, intsD_of hP h2 q, List.map_cons]
   | _ => cases e
theorem at_bl {K : PySem.W.Frag} {F : Hp} (v : V) (b : Bool) (h : At K F v (.bl b)) : v = .bl b := by cases h; rfl
theorem at_int {K : PySem.W.Frag} {F : Hp} (v : V) (b : Int) (h : At K F v (.int b)) : v = .int b := by cases h; rfl
theorem at_ints {K : PySem.W.Frag} {G : Hp} : ∀ ns : List Int, Paired (At K G) (ns.map V.int) (ns.map D.int)
 | [] => .nil
 | n :: ns => .cons (.int n) (at_ints ns)
theorem at_keys {K : PySem.W.Frag} {G : Hp} : ∀ ks : List Key, Paired (At K G) (ks.map kV) (ks.map keyD)
 | [] => .nil
 | .inl i :: ks => .cons (.int i) (at_keys ks)
 | .inr s :: ks => .cons (.str s) (at_keys ks)
abbrev rBI : BI → PySem.W.Frag → List V → Hp → VK → Prop
 | .len, K => fun xs H Q => (∃ x n, xs = [x] ∧ LenV K x H n ∧ Q (.int n) H) ∨ (∃ a kvs, xs = [V.ref a] ∧ Rd H a (.dK kvs) ∧ Q (.int kvs.length) H)
 | .list, K => fun xs H Q => (∃ p ys, xs = [.ref p] ∧ (SqL K H p ys ∨ SqT K H p ys) ∧ ∀ l, H l = none → Q (.ref l) (upd H l (.lst ys))) ∨ (∃ (a : Addr) (kvs : List (Key × V)), xs = [.ref a] ∧ Rd H a (.dK kvs) ∧ ∀ p, H p = none → Q (.ref p) (upd H p (.lst (kvs.map fun kv => kV kv.1))))
 | .tuple, K => fun xs H Q => ∃ p ys, xs = [.ref p] ∧ ((SqL K H p ys ∧ ∀ l, H l = none → Q (.ref l) (upd H l (.tup ys))) ∨ (SqT K H p ys ∧ Q (.ref p) H))
 | .all, K => rAll K
 | .any, K => rAny K
 | .sum, K => rSum K
 | .max1, K => rMax K
 | .max2, _ => fun xs H Q => ∃ i j, xs = [.int i, .int j] ∧ Q (.int (if j > i then j else i)) H
 | .min2, _ => fun xs H Q => ∃ i j, xs = [.int i, .int j] ∧ Q (.int (if j < i then j else i)) H
 | .abs, _ => fun xs H Q => ∃ i, xs = [.int i] ∧ Q (.int (if i < 0 then -i else i)) H
 | .int, _ => fun xs H Q => (∃ i, xs = [.int i] ∧ Q (.int i) H) ∨ ∃ k, xs = [.bl k] ∧ Q (.int (if k then 1 else 0)) H
 | .str, K => fun xs H Q => (∃ a p, xs = [.ref a] ∧ Dp K H (.ref a) p ∧ showP p = true ∧ Q (.str p.shown) H) ∨ ((∃ i, xs = [.int i] ∧ showP (.int i) = true ∧ Q (.str (PyData.int i).shown) H) ∨ ∃ b, xs = [.bl b] ∧ Q (.str (PyData.bool b).shown) H)
def BI.val : BI → Value
 | .len => .builtin "len" | .list => .type "list" | .tuple => .type "tuple" | .all => .builtin "all" | .any => .builtin "any" | .sum => .builtin "sum"
 | .max1 => .builtin "max" | .max2 => .builtin "max" | .min2 => .builtin "min" | .abs => .builtin "abs" | .int => .type "int" | .str => .type "str"
def BI.nm : BI → Str
 | .len => "len" | .list => "list" | .tuple => "tuple" | .all => "all" | .any => "any" | .sum => "sum" | .max1 => "max" | .max2 => "max" | .min2 => "min" | .abs => "abs" | .int => "int" | .str => "str"
theorem call_lenR {X : Cx} : CallR X (.builtin "len") (fun xs H Q => ∃ a kvs, xs = [V.ref a] ∧ Rd H a (.dK kvs) ∧ Q (.int kvs.length) H) := by
 intro pins s σ H xs us Q I r h
 obtain ⟨a, kvs, rfl, ha, q⟩ := h
 obtain ⟨u, rfl, ru⟩ := vals1 r
 cases ru
 exact d_len I ha fun t s' I' => ⟨.int kvs.length, H, I', ⟨t, rfl⟩, q⟩
theorem call_strD {X : Cx} (gd : X.A.guards = some []) (hu : X.A.units + 80 < cLine) : CallR X (.type "str") (fun xs H Q => ∃ a p, xs = [.ref a] ∧ Dp X.K H (.ref a) p ∧ showP p = true ∧ Q (.str p.shown) H) := by
 intro pins s σ H xs us Q I r h
 obtain ⟨a, p, rfl, hd, hp, q⟩ := h
 obtain ⟨u, rfl, ru⟩ := vals1 r
 cases ru
 obtain ⟨as, r1⟩ := Dp.reads I p (.ref a) (.ref a) hd rfl
 unfold showP at hp
 simp only [Bool.and_eq_true, decide_eq_true_eq] at hp
 obtain ⟨⟨⟨h1, h2⟩, h3⟩, h4⟩ := hp
 exact str_of_reads r1 h2 (PyData.noDict_hsm (PyData.hasDict_of_canLay p h1)) gd (by omega) (fun b o e => e) (fun h' u tk hk => ⟨.str _, H, I.kept hk, ⟨_, rfl⟩, q⟩) (Nat.le_trans h4 (by decide))
theorem call_strI {X : Cx} : CallR X (.type "str") (fun xs H Q => (∃ i, xs = [.int i] ∧ showP (.int i) = true ∧ Q (.str (PyData.int i).shown) H) ∨ ∃ b, xs = [.bl b] ∧ Q (.str (PyData.bool b).shown) H) := by
 intro pins s σ H xs us Q I r h
 rcases h with ⟨i, rfl, hs, q⟩ | ⟨b, rfl, q⟩
 ·obtain ⟨u, rfl, t, rfl⟩ := vals1 r
  unfold showP at hs
  simp only [Bool.and_eq_true, PyData.showable, decide_eq_true_eq] at hs
  exact PySem.P.str_of_int hs.1.1.2 ⟨.str _, H, I.tok _, ⟨_, rfl⟩, q⟩
 ·obtain ⟨u, rfl, ru⟩ := vals1 r
  cases ru
  refine PySem.P.str_of_bool ⟨.str _, H, I.tok _, ⟨_, rfl⟩, ?_⟩
  cases b <;> exact q
theorem call_bi {X : Cx} (gd : X.A.guards = some []) (hu : X.A.units + 80 < cLine) (hc : X.calm = true) (b : BI) : CallR X b.val (rBI b X.K) := by
 cases b
 ·exact CallR.or call_len call_lenR
 ·exact CallR.or call_list_of (call_listD hc)
 ·exact call_tuple_of
 ·exact cr_all hc
 ·exact cr_any hc
 ·exact cr_sum hc
 ·exact cr_max hc
 ·exact call_max2 hc
 ·exact call_min2 hc
 ·exact call_abs
 ·exact call_int1
 ·exact CallR.or (call_strD gd hu) call_strI
theorem paired1 {α β : Type} {P : α → β → Prop} {xs : List α} {y : β} (h : Paired P xs [y]) : ∃ x, xs = [x] ∧ P x y := by
 cases h with
 | cons h1 h2 => cases h2; exact ⟨_, rfl, h1⟩
theorem paired2 {α β : Type} {P : α → β → Prop} {xs : List α} {y z : β} (h : Paired P xs [y, z]) : ∃ x w, xs = [x, w] ∧ P x y ∧ P w z := by
 cases h with
 | cons h1 h2 => obtain ⟨w, rfl, h3⟩ := paired1 h2; exact ⟨_, _, rfl, h1, h3⟩
section
variable {R : Fr}
theorem max_eq {ns : List Int} {m : Int} (e : ns.max? = some m) : 0 < ns.length ∧ ∀ m', m' ∈ ns → (∀ y, y ∈ ns → y ≤ m') → m' = m := by
 have h := List.max?_eq_some_iff.mp e
 refine ⟨List.length_pos_of_mem h.1, fun m' h1 h2 => ?_⟩
 have h3 := h2 m h.1
 have h4 := h.2 m' h1
 omega
theorem res_bi1 (b : BI) (x : V) (sx s : Sl) (hb : biD b [sx] = some s) (F H : Hp) (g : G) (σ : L2.St) (g0 : G) (F0 H0 : Hp) (Q : VK) (r : Rel R F g σ H) (st : Step g0 σ F0 H0 g F H) (vx : View R.K (FN R.H0 F sx.n) H x sx.d) (k : Kont R g0 σ F0 H0 s g Q) : rBI b R.K [x] H Q := by
 obtain ⟨d, m, n⟩ := sx
 cases b with
 | len =>
  have e : (D.len d).map (fun n => atm (.int n)) = some s := hb
  cases d with
  | str z =>
   have e' : (if z.length ≤ lim then some (z.length : Int) else none).map (fun n => atm (.int n)) = some s := e
   split at e'
   ·rename_i hl
    cases e'
    rw [vx.as_str]
    exact .inl ⟨.str z, z.length, rfl, ⟨lim_size hl, rfl⟩, atm_k k r st (.int _)⟩
   ·cases e'
  | scr ns =>
   cases e
   obtain ⟨a, rfl, h⟩ := vx.as_scr
   refine .inl ⟨.ref a, _, rfl, .inl ⟨_, h, rfl⟩, ?_⟩
   rw [List.length_map]
   exact atm_k k r st (.int _)
  | lst xs =>
   cases e
   obtain ⟨a, vs, rfl, h, hp⟩ := vx.as_lst
   refine .inl ⟨.ref a, _, rfl, .inl ⟨_, SqL.of h, rfl⟩, ?_⟩
   rw [hp.length]
   exact atm_k k r st (.int _)
  | tup xs =>
   cases e
   obtain ⟨a, vs, rfl, h, hp, _⟩ := vx.as_tup
   refine .inl ⟨.ref a, _, rfl, .inr ⟨_, SqT.of h, rfl⟩, ?_⟩
   rw [hp.length]
   exact atm_k k r st (.int _)
  | ktup xs =>
   cases e
   obtain ⟨a, rfl, h⟩ := vx.as_ktup
   refine .inl ⟨.ref a, _, rfl, .inr ⟨_, h, rfl⟩, ?_⟩
   rw [List.length_map]
   exact atm_k k r st (.int _)
  | dct ks xs =>
   cases e
   obtain ⟨a, kvs, rfl, h, hk, hp⟩ := vx.as_dct
   refine .inr ⟨a, kvs, rfl, h, ?_⟩
   subst hk
   rw [List.length_map] at k
   exact atm_k k r st (.int _)
  | _ => cases e
 | list =>
  cases d with
  | lst xs =>
   cases hb
   obtain ⟨a, vs, rfl, h, hp⟩ := vx.as_lst
   exact .inl ⟨a, vs, rfl, .inl (SqL.of h), fun l hl => kont_ow k r st hl (.lst upd_same (atL_orFlat hp))⟩
  | tup xs =>
   cases hb
   obtain ⟨a, vs, rfl, h, hp, _⟩ := vx.as_tup
   exact .inl ⟨a, vs, rfl, .inr (SqT.of h), fun l hl => kont_ow k r st hl (.lst upd_same (atL_orFlat hp))⟩
  | scr ns =>
   cases hb
   obtain ⟨a, rfl, h⟩ := vx.as_scr
   exact .inl ⟨a, _, rfl, .inl h, fun l hl => kont_ow k r st hl (.lst upd_same (at_ints ns))⟩
  | dct ks xs =>
   cases hb
   obtain ⟨a, kvs, rfl, h, hk, hp⟩ := vx.as_dct
   refine .inr ⟨a, kvs, rfl, h, fun l hl => ?_⟩
   subst hk
   refine kont_ow k r st hl (.lst upd_same ?_)
   have := at_keys (K := R.K) (G := FN R.H0 F true) (kvs.map (·.1))
   rw [List.map_map] at this
   exact this
  | _ => cases hb
 | tuple =>
  cases d with
  | lst xs =>
   cases hb
   obtain ⟨a, vs, rfl, h, hp⟩ := vx.as_lst
   exact ⟨a, vs, rfl, .inl ⟨SqL.of h, fun l hl => kont_tup k r st hl hp⟩⟩
  | tup xs =>
   cases hb
   obtain ⟨a, vs, rfl, h, hp, ha⟩ := vx.as_tup
   exact ⟨a, vs, rfl, .inr ⟨SqT.of h, kont_fr k r st ha⟩⟩
  | _ => cases hb
 | all =>
  cases d with
  | lst xs =>
   have e : (blsD xs).map (fun bs => atm (.bl (bs.all id))) = some s := hb
   cases q : blsD xs with
   | none => rw [q] at e; cases e
   | some bs =>
    rw [q] at e
    cases e
    obtain ⟨a, vs, rfl, h, hp⟩ := vx.as_lst
    rw [blsD_of at_bl hp q] at h
    exact ⟨a, bs, rfl, SqL.of h, atm_k k r st (.bl _)⟩
  | _ => cases hb
 | any =>
  cases d with
  | lst xs =>
   have e : (blsD xs).map (fun bs => atm (.bl (bs.any id))) = some s := hb
   cases q : blsD xs with
   | none => rw [q] at e; cases e
   | some bs =>
    rw [q] at e
    cases e
    obtain ⟨a, vs, rfl, h, hp⟩ := vx.as_lst
    rw [blsD_of at_bl hp q] at h
    exact ⟨a, bs, rfl, SqL.of h, atm_k k r st (.bl _)⟩
  | _ => cases hb
 | sum =>
  cases d with
  | lst xs =>
   have e : (intsD xs).map (fun ns => atm (.int ns.sum)) = some s := hb
   cases q : intsD xs with
   | none => rw [q] at e; cases e
   | some bs =>
    rw [q] at e
    cases e
    obtain ⟨a, vs, rfl, h, hp⟩ := vx.as_lst
    rw [intsD_of at_int hp q] at h
    exact ⟨a, bs, rfl, SqL.of h, atm_k k r st (.int _)⟩
  | _ => cases hb
 | max1 =>
  cases d with
  | lst xs =>
   have e : ((intsD xs).bind fun ns => (ns.max?).map fun m => atm (.int m)) = some s := hb
   cases q : intsD xs with
   | none => rw [q] at e; cases e
   | some bs =>
    rw [q] at e
    have e2 : (bs.max?).map (fun m => atm (.int m)) = some s := e
    cases q2 : bs.max? with
    | none => rw [q2] at e2; cases e2
    | some m =>
     rw [q2] at e2
     cases e2
     obtain ⟨a, vs, rfl, h, hp⟩ := vx.as_lst
     rw [intsD_of at_int hp q] at h
     obtain ⟨h1, h2⟩ := max_eq q2
     refine ⟨a, bs, rfl, SqL.of h, h1, fun m' h3 h4 => ?_⟩
     rw [h2 m' h3 h4]
     exact atm_k k r st (.int _)
  | _ => cases hb
 | max2 => cases hb
 | min2 => cases hb
 | abs =>
  cases d with
  | int i =>
   cases hb
   exact ⟨i, by rw [vx.as_int], atm_k k r st (.int _)⟩
  | _ => cases hb
 | int =>
  cases d with
  | int i =>
   cases hb
   exact .inl ⟨i, by rw [vx.as_int], atm_k k r st (.int _)⟩
  | bl i =>
   cases hb
   exact .inr ⟨i, by rw [vx.as_bl], atm_k k r st (.int _)⟩
  | _ => cases hb
 | str =>
  have key : ∀ (p : PyData), d.py = some p → (∃ a, x = .ref a) → (if showP p then some (atm (.str p.shown)) else none) = some s → rBI .str R.K [x] H Q := by
   rintro p hp ⟨a, rfl⟩ e
   split at e
   ·rename_i h1
    cases e
    exact .inl ⟨a, p, rfl, At.dp _ _ _ (vx.at (FN_le.trans r.ex)) hp, h1, atm_k k r st (.str _)⟩
   ·cases e
  cases d with
  | lst xs =>
   have e : strD (.lst xs) = some s := hb
   unfold strD at e
   dsimp only at e
   split at e
   ·rename_i p hp
    obtain ⟨a, vs, rfl, _⟩ := vx.as_lst
    exact key p hp ⟨a, rfl⟩ e
   ·cases e
  | tup xs =>
   have e : strD (.tup xs) = some s := hb
   unfold strD at e
   dsimp only at e
   split at e
   ·rename_i p hp
    obtain ⟨a, vs, rfl, _⟩ := vx.as_tup
    exact key p hp ⟨a, rfl⟩ e
   ·cases e
  | int i =>
   have e : (if showP (.int i) then some (atm (.str (PyData.int i).shown)) else none) = some s := hb
   split at e
   ·rename_i h1
    cases e
    exact .inr (.inl ⟨i, by rw [vx.as_int], h1, atm_k k r st (.str _)⟩)
   ·cases e
  | bl b =>
   have e : some (atm (.str (PyData.bool b).shown)) = some s := hb
   cases e
   exact .inr (.inr ⟨b, by rw [vx.as_bl], atm_k k r st (.str _)⟩)
  | _ => cases hb
theorem res_bi (b : BI) : ResL R (rBI b R.K) (biD b) := by
 intro xs ss s F H g σ g0 F0 H0 Q r st hv hb k
 match ss, hb with
 | [sx], hb =>
  obtain ⟨x, rfl, vx⟩ := paired1 hv
  exact res_bi1 b x sx s hb F H g σ g0 F0 H0 Q r st vx k
 | [sx, sy], hb =>
  obtain ⟨x, y, rfl, vx, vy⟩ := paired2 hv
  obtain ⟨dx, mx, nx⟩ := sx
  obtain ⟨dy, my, ny⟩ := sy
  cases b with
  | max2 =>
   cases dx with
   | int i =>
    cases dy with
    | int j =>
     cases hb
     exact ⟨i, j, by rw [vx.as_int, vy.as_int], atm_k k r st (.int _)⟩
    | _ => cases hb
   | _ => cases hb
  | min2 =>
   cases dx with
   | int i =>
    cases dy with
    | int j =>
     cases hb
     exact ⟨i, j, by rw [vx.as_int, vy.as_int], atm_k k r st (.int _)⟩
    | _ => cases hb
   | _ => cases hb
  | _ => cases hb
 | [], hb => cases b <;> cases hb
 | _ :: _ :: _ :: _, hb => cases b <;> cases hb
end
end Y
namespace Y
open PySem PySem.Spec L2
def TV_ (R : Fr) (W : XK) (ev : G → M (List Sl × G)) : TA := fun σ H Q => ∃ F g, Rel R F g σ H ∧
 wp (ev g) (fun (ss, g') => ∀ vs F' H', Rel R F' g' σ H' → Step g σ F H g' F' H' → Paired (fun v (s : Sl) => At R.K (FN R.H0 F' s.n) v s.d) vs ss → Q vs H') (ExW R W)
def TOs_ (R : Fr) (W : XK) (ev : G → M (List Op × G)) : TA := fun σ H Q => ∃ F g, Rel R F g σ H ∧
 wp (ev g) (fun (os, g') => ∀ vs F' H', Rel R F' g' σ H' → Step g σ F H g' F' H' → Paired (fun v o => OpAt R F' σ v o) vs os → Q vs H') (ExW R W)
section
variable {X : Cx} {R : Fr} {W : XK} {E : Ev} {e : Expr} {es : List Expr} {c : C} {cs : List C}
theorem pa_v_nil : PA X [] (TV_ R W (evV E [])) := PA.imp pa_nil fun σ H Q ⟨F, g, r, q⟩ => q [] F H r (Step.refl g σ F H) .nil
theorem pa_v_cons (h : PE X e (TE_ R W (evE E c))) (hs : PA X es (TV_ R W (evV E cs))) (st : starEach (e :: es) X.env = (false, eval e X.env) :: starEach es X.env) : PA X (e :: es) (TV_ R W (evV E (c :: cs))) := by
 refine PA.imp (pa_cons (pe_frz h) hs st) fun σ H Q ⟨F, g, r, q⟩ => ?_
 refine ⟨F, g, r, wp_mono (wp_bnd q) (fun (s, g1) q1 v F1 H1 r1 st1 h1 => ⟨F1, g1, r1, wp_mono (wp_bnd q1) (fun (ss, g2) q2 vs F2 H2 r2 st2 h2 => ?_) fun _ z => z⟩) fun _ z => z⟩
 exact q2 (v :: vs) F2 H2 r2 (st1.trans st2) (.cons (At.mono (FN_mono st2.exF) _ _ h1) h2)
theorem pa_o_nil : PA X [] (TOs_ R W (evOs E [])) := PA.imp pa_nil fun σ H Q ⟨F, g, r, q⟩ => q [] F H r (Step.refl g σ F H) .nil
theorem pa_o_cons (h : PE X e (TO_ R W (opd c (evE E c)))) (hs : PA X es (TOs_ R W (evOs E cs))) (st : starEach (e :: es) X.env = (false, eval e X.env) :: starEach es X.env) : PA X (e :: es) (TOs_ R W (evOs E (c :: cs))) := by
 refine PA.imp (pa_cons h hs st) fun σ H Q ⟨F, g, r, q⟩ => ?_
 refine ⟨F, g, r, wp_mono (wp_bnd q) (fun (s, g1) q1 v F1 H1 r1 st1 h1 => ⟨F1, g1, r1, wp_mono (wp_bnd q1) (fun (ss, g2) q2 vs F2 H2 r2 st2 h2 => ?_) fun _ z => z⟩) fun _ z => z⟩
 exact q2 (v :: vs) F2 H2 r2 (st1.trans st2) (.cons (h1.mono st2.exF) h2)
theorem ats_ds {F : Hp} : ∀ {vs : List V} {ss : List Sl}, Paired (fun v (s : Sl) => At R.K (FN R.H0 F s.n) v s.d) vs ss → Paired (At R.K (FN R.H0 F (ss.all (·.n)))) vs (dsL ss)
 | _, _, .nil => .nil
 | _, _, .cons h t => by
  rename_i a b l1 l2
  refine .cons (At.mono (FN_imp fun z => ?_) _ _ h) (atL_mono (FN_imp fun z => ?_) _ _ (ats_ds t))
  ·rw [List.all_cons, Bool.and_eq_true] at z; exact z.1
  ·rw [List.all_cons, Bool.and_eq_true] at z; exact z.2
variable {pos : Pos}
theorem pe_tup_ {k : Nat} (h : PA X es (TV_ R W (evV E cs))) : PE X (.Tuple es k pos) (TE_ R W (evE E (.tup cs))) := by
 refine PE.imp (pe_tup h) fun σ H Q ⟨F, g, r, q⟩ => ⟨F, g, r, wp_mono (wp_bnd q) (fun (ss, g1) q1 vs F1 H1 r1 st1 h1 => ?_) fun _ z => z⟩
 dsimp only at q1
 split at q1
 ·rename_i hl
  exact ⟨by rw [h1.length]; exact lim_size hl, fun p hp => kont_tup q1 r1 st1 hp (ats_ds h1)⟩
 ·exact q1.elim
theorem pe_lst_ (h : PA X es (TV_ R W (evV E cs))) : PE X (.List es pos) (TE_ R W (evE E (.lst cs))) := by
 refine PE.imp (pe_lst h) fun σ H Q ⟨F, g, r, q⟩ => ⟨F, g, r, wp_mono (wp_bnd q) (fun (ss, g1) q1 vs F1 H1 r1 st1 h1 => ?_) fun _ z => z⟩
 dsimp only at q1
 split at q1
 ·rename_i hl
  exact ⟨by rw [h1.length]; exact lim_size hl, fun p hp => kont_ow q1 r1 st1 hp (.lst upd_same (ats_ds h1))⟩
 ·exact q1.elim
theorem pe_dnew_ : PE X (.Dict [] [] pos) (TE_ R W (evE E .dnew)) := PE.imp pe_dnewK fun σ H Q ⟨F, g, r, q⟩ p hp => kont_ow q r (Step.refl g σ F H) hp (.dct upd_same rfl .nil)
theorem pe_dnewT_ : PE X (.Dict [] [] pos) (TE_ R W (evE E .dnewT)) := PE.imp pe_dnewT fun σ H Q ⟨F, g, r, q⟩ p hp => kont_ow q r (Step.refl g σ F H) hp (.dctT upd_same rfl .nil)
theorem pe_c_ {v : V} {d : D} (h : PE X e (tC v)) (hv : At R.K (fun _ => none) v d) (he : evE E c = fun g => some (.ok (atm d, g))) : PE X e (TE_ R W (evE E c)) := PE.imp h fun σ H Q ⟨F, g, r, q⟩ => by
 rw [he] at q
 exact kont_fr q r (Step.refl g σ F H) (At.mono (fun b o z => by cases z) _ _ hv)
theorem pe_int_ {i : Int} {j} : PE X (.Constant (.int i) j pos) (TE_ R W (evE E (.int i))) := pe_c_ pe_int (.int i) rfl
theorem pe_str_ {i : Str} {j} : PE X (.Constant (.str i) j pos) (TE_ R W (evE E (.str i))) := pe_c_ pe_str (.str i) rfl
theorem pe_bl_ {i : Bool} {j} : PE X (.Constant (.bool i) j pos) (TE_ R W (evE E (.bl i))) := pe_c_ pe_bl (.bl i) rfl
theorem pe_non_ {j} : PE X (.Constant .none j pos) (TE_ R W (evE E .non)) := pe_c_ pe_non .non rfl
def ConOk (E : Ev) (mg : Str → Option Value) : Prop := ∀ x d, E.con x = some d → ∃ u v, mg x = some u ∧ RelV v u ∧ At R.K (fun _ => none) v d
theorem pe_con_ {x : Str} (hE : ConOk (R := R) E X.mg) (hg : Gl X x) (hd : (x == ("__debug__" : Str)) = false) (hx : (E.con x).isSome = true) : PE X (.Name x pos) (TE_ R W (evE E (.con x))) := by
 cases q : E.con x with
 | none => rw [q] at hx; cases hx
 | some d =>
  obtain ⟨u, v, h1, h2, h3⟩ := hE x d q
  refine PE.imp (pe_glob hg h1 h2 hd) fun σ H Q ⟨F, g, r, k⟩ => ?_
  have k' : wp (match E.con x with | some d => if d.atom then some (.ok (atm d, g)) else none | none => none) (fun (s, g') => ∀ v F' H', Rel R F' g' σ H' → Step g σ F H g' F' H' → ResAt R g' σ H F' H' v s → Q v H') (ExW R W) := k
  rw [q] at k'
  dsimp only at k'
  split at k'
  ·exact kont_fr k' r (Step.refl g σ F H) (At.mono (fun b o z => by cases z) _ _ h3)
  ·exact k'.elim
theorem G.get_put_self {g : G} {i : Nat} {s t : Sl} (h : g.get i = some t) : (g.put i s).get i = some s := by
 unfold G.get G.put at *
 have hi : i < g.length := by
  cases q : g[i]? with
  | none => rw [q] at h; cases h
  | some o => exact (List.getElem?_eq_some_iff.mp q).1
 rw [List.getElem?_set_self hi]
 rfl
theorem G.get_put_ne {g : G} {i j : Nat} {s : Sl} (h : j ≠ i) : (g.put i s).get j = g.get j := by
 unfold G.get G.put
 rw [List.getElem?_set_ne (Ne.symm h)]
theorem G.put_len {g : G} {i : Nat} {s : Sl} : (g.put i s).length = g.length := List.length_set
theorem Own.put_le {g : G} {σ : L2.St} {i : Nat} {s t : Sl} {b : Addr} (h : g.get i = some t) (hm : s.m ≠ .fr → t.m ≠ .fr) (o : Own (g.put i s) σ b) : Own g σ b := by
 obtain ⟨j, u, h1, h2, h3⟩ := o
 by_cases e : j = i
 ·subst e
  rw [G.get_put_self h] at h1
  cases h1
  exact ⟨j, t, h, hm h2, h3⟩
 ·rw [G.get_put_ne e] at h1
  exact ⟨j, u, h1, h2, h3⟩
theorem Rel.give {F H : Hp} {g : G} {σ : L2.St} {i : Nat} {d : D} {n : Bool} {v : V} (r : Rel R F g σ H) (hi : g.get i = some ⟨d, .ow, n⟩) (hv : σ[i]? = some (some v)) :
  ∃ F', Rel R F' (g.put i ⟨d, .fr, n⟩) σ H ∧ Step g σ F H (g.put i ⟨d, .fr, n⟩) F' H ∧ At R.K (FN R.H0 F' n) v d := by
 obtain ⟨v', h1, h2⟩ := r.at_ i _ hi
 rw [hv] at h1
 cases h1
 obtain ⟨p, rfl, h3, h4, h5⟩ := h2
 obtain ⟨u, hu⟩ := h5.is
 have hs : Same F (upd F p u) := same_upd h3
 have hat : At R.K (FN R.H0 (upd F p u) n) (.ref p) d := h5.at (FN_mono hs) (by rw [FN_new h4, upd_same, hu])
 refine ⟨upd F p u, ⟨r.len.trans G.put_len.symm, fun j s hj => ?_, fun a b s t q ha hb hsm htm hpa hpb => ?_, fun b o z => ?_, r.keep, r.there, r.ios, fun q hq => ?_, r.f0.trans hs, fun b q1 q2 => by rw [upd_ne (fun e => by rw [e, h4] at q2; cases q2)]; exact r.fn b q1 q2, r.tb.freeze (h5.nt hu)⟩, ⟨hs, fun _ _ z _ _ => z, fun b h6 h7 h8 => ?_, fun b o => o.put_le hi (fun z => absurd rfl z), fun _ z => z⟩, hat⟩
 ·by_cases e : j = i
  ·subst e
   rw [G.get_put_self hi] at hj
   cases hj
   exact ⟨.ref p, hv, hat⟩
  ·rw [G.get_put_ne e] at hj
   obtain ⟨w, h6, h7⟩ := r.at_ j s hj
   refine ⟨w, h6, slAt_mono h7 hs (fun hm q eq z => ?_) fun _ _ _ => rfl⟩
   subst eq
   rw [upd_ne (fun eq => e (r.dis j i s _ p hj hi hm (by simp) (by rw [h6, eq]) hv))]
   exact z
 ·have ha' : ∃ s', g.get a = some s' ∧ s'.m ≠ .fr := by
   by_cases e : a = i
   ·subst e; exact ⟨_, hi, by simp⟩
   ·rw [G.get_put_ne e] at ha; exact ⟨s, ha, hsm⟩
  have hb' : ∃ s', g.get b = some s' ∧ s'.m ≠ .fr := by
   by_cases e : b = i
   ·subst e; exact ⟨_, hi, by simp⟩
   ·rw [G.get_put_ne e] at hb; exact ⟨t, hb, htm⟩
  obtain ⟨s', a1, a2⟩ := ha'
  obtain ⟨t', b1, b2⟩ := hb'
  exact r.dis a b s' t' q a1 b1 a2 b2 hpa hpb
 ·by_cases hb : b = p
  ·subst hb; rw [upd_same] at z; cases z; exact hu
  ·rw [upd_ne hb] at z; exact r.ex b o z
 ·obtain ⟨s, h6, h7, h8⟩ := r.iog q hq
  have e : q.1 ≠ i := fun e => by rw [e, hi] at h6; cases h6; cases h7
  exact ⟨s, by rw [G.get_put_ne e]; exact h6, h7, h8⟩
 ·rw [upd_ne (fun e => h8 (by rw [e]; exact ⟨i, _, hi, by simp, hv⟩))]
  exact h6
theorem pe_var_ {x : Str} {i : Nat} (h : PE X (.Name x pos) (tVar i)) : PE X (.Name x pos) (TE_ R W (evE E (.var i))) := PE.imp h fun σ H Q ⟨F, g, r, q⟩ => by
 have q' : wp (takeV g i) (fun (s, g') => ∀ v F' H', Rel R F' g' σ H' → Step g σ F H g' F' H' → ResAt R g' σ H F' H' v s → Q v H') (ExW R W) := q
 unfold takeV at q'
 cases e : g.get i with
 | none => rw [e] at q'; exact q'.elim
 | some s =>
  rw [e] at q'
  obtain ⟨v, h1, h2⟩ := r.at_ i s e
  obtain ⟨d, m, n⟩ := s
  refine ⟨v, h1, ?_⟩
  cases m with
  | fr => exact kont_fr q' r (Step.refl g σ F H) (At.sub h2)
  | ow =>
   obtain ⟨F', r', st', hat⟩ := r.give e h1
   exact kont_fr q' r' st' hat
  | io => exact q'.elim
end
end Y
namespace Y
open PySem PySem.Spec L2
def TT_ (R : Fr) (W : XK) (ev : G → M (Bool × G)) : TT := fun σ H Q => ∃ F g, Rel R F g σ H ∧
 wp (ev g) (fun (k, g') => ∀ F' H', Rel R F' g' σ H' → Step g σ F H g' F' H' → Q k H') (ExW R W)
section
variable {X : Cx} {R : Fr} {W : XK} {E : Ev} {e a b : Expr} {es : List Expr} {c ca cb : C} {cs : List C} {pos : Pos} {F H : Hp} {g : G} {σ : L2.St}
theorem truth_of {K : PySem.W.Frag} {x : V} {d : D} {k : Bool} (v : View K F H x d) (e : d.truth = some k) : TruV K x H k := by
 cases d with
 | non => cases e; rw [v.as_non]; rfl
 | bl b => cases e; rw [v.as_bl]; rfl
 | int b => cases e; rw [v.as_int]; rfl
 | str z =>
  have e' : (if z.length ≤ lim then some ((z.length : Int) != 0) else none) = some k := e
  split at e'
  ·rename_i hl
   cases e'
   rw [v.as_str]
   exact ⟨lim_size hl, rfl⟩
  ·cases e'
 | scr ns =>
  cases e
  obtain ⟨a, rfl, h⟩ := v.as_scr
  refine .inl ⟨_, h, ?_⟩
  cases ns <;> rfl
 | lst xs =>
  cases e
  obtain ⟨a, vs, rfl, h, hp⟩ := v.as_lst
  refine .inl ⟨_, SqL.of h, ?_⟩
  cases hp <;> rfl
 | tup xs =>
  cases e
  obtain ⟨a, vs, rfl, h, hp, _⟩ := v.as_tup
  refine .inr (.inl ⟨_, SqT.of h, ?_⟩)
  cases hp <;> rfl
 | _ => cases e
theorem pt_plain {ev : G → M (Sl × G)} (h : PE X e (TO_ R W (opd c ev))) (hK : X.K = R.K) (he : ∀ whole, isTrue e X.env whole = (do let v ← whole; standAt e.pos; holding [v] (truthy v))) : PT X e (TT_ R W (tst c ev)) := by
 refine PT.imp (pt_truth h he) fun σ H Q ⟨F, g, r, q⟩ => ⟨F, g, r, wp_mono (wp_bnd q) (fun (o, g1) q1 v F1 H1 r1 st1 h1 => ?_) fun _ z => z⟩
 cases e1 : o.get g1 with
 | none => simp only [e1] at q1; exact q1.elim
 | some s =>
  simp only [e1] at q1
  cases e2 : s.d.truth with
  | none => simp only [e2] at q1; exact q1.elim
  | some k =>
   simp only [e2] at q1
   rw [hK]
   exact ⟨k, truth_of (h1.view r1 e1) e2, q1 F1 H1 r1 st1⟩
theorem tt_te {ev : G → M (Sl × G)} (hc : ∀ i, c ≠ .var i) (hb : ∀ g s g', ev g = some (.ok (s, g')) → ∃ k, s = atm (.bl k)) {Q : Bool → Hp → Prop} (q : TT_ R W (tst c ev) σ H Q) : TE_ R W ev σ H (fun x H' => ∃ k, x = .bl k ∧ Q k H') := by
 obtain ⟨F, g, r, q⟩ := q
 have h1 : opd c ev = fun g => M.bnd (ev g) fun (s, g1) => some (.ok (.val s.frz, g1)) := by
  funext g
  cases c <;> first | rfl | exact absurd rfl (hc _)
 refine ⟨F, g, r, ?_⟩
 have q1 := wp_bnd q
 rw [h1] at q1
 have q2 := wp_bnd q1
 cases e : ev g with
 | none => rw [e] at q2; exact q2
 | some o =>
  rw [e] at q2
  cases o with
  | ex c => exact q2
  | ok sg =>
   obtain ⟨s, g1⟩ := sg
   obtain ⟨k, rfl⟩ := hb _ _ _ e
   have q3 : ∀ F' H', Rel R F' g1 σ H' → Step g σ F H g1 F' H' → Q k H' := q2
   show ∀ v F' H', Rel R F' g1 σ H' → Step g σ F H g1 F' H' → ResAt R g1 σ H F' H' v (atm (.bl k)) → ∃ k', v = .bl k' ∧ Q k' H'
   intro v F' H' r' st' h
   have h' : At R.K (FN R.H0 F' true) v (.bl k) := h
   cases h'
   exact ⟨k, rfl, q3 F' H' r' st'⟩
theorem tst_bl {F H : Hp} (r : Rel R F g σ H) {s : Sl} {g1 : G} {k : Bool} (e : evE E c g = some (.ok (s, g1))) (hs : s.d = .bl k) : tst c (evE E c) g = some (.ok (k, g1)) := by
 by_cases hc : ∃ i, c = .var i
 ·obtain ⟨i, rfl⟩ := hc
  have e' : takeV g i = some (.ok (s, g1)) := e
  unfold takeV at e'
  cases q : g.get i with
  | none => rw [q] at e'; cases e'
  | some t =>
   rw [q] at e'
   obtain ⟨v, h1, h2⟩ := r.at_ i t q
   obtain ⟨d, m, n⟩ := t
   cases m with
   | fr =>
    cases e'
    unfold tst opd
    simp only [q, bnd_ok]
    unfold Op.get
    have hd : d = .bl k := hs
    subst hd
    simp only [q, Option.map_some]
    rfl
   | ow =>
    cases e'
    have hd : d = .bl k := hs
    subst hd
    obtain ⟨p, _, _, _, h3⟩ := h2
    cases h3
   | io => cases e'
 ·have h1 : opd c (evE E c) = fun g => M.bnd (evE E c g) fun (s, g1) => some (.ok (.val s.frz, g1)) := by
   funext g
   cases c <;> first | rfl | exact absurd ⟨_, rfl⟩ hc
  obtain ⟨d, m, n⟩ := s
  have hd : d = .bl k := hs
  subst hd
  unfold tst
  rw [h1]
  simp only [e, bnd_ok]
  rfl
theorem pe_bin_ {op : BOp} {o : Operator} (ho : o = op.py) (hK : X.K = R.K) (ha : PE X a (TO_ R W (opd ca (evE E ca)))) (hb : PE X b (TO_ R W (opd cb (evE E cb)))) : PE X (.BinOp a o b pos) (TE_ R W (evE E (.bin op ca cb))) := by
 subst ho
 exact PE.imp (pe_op (op_bin op) ha hb) fun σ H Q q => imp_op2 (by rw [hK]; exact res_bin op) q
theorem pe_neg_ (ha : PE X a (TO_ R W (opd ca (evE E ca)))) : PE X (.UnaryOp .USub a pos) (TE_ R W (evE E (.neg ca))) :=
 PE.imp (pe_un un_neg ha) fun σ H Q q => imp_op1 res_neg q
theorem pe_cmp_ {op : KOp} {o : CmpOp} (ho : o = op.py) (hu : X.A.units + 140 < cLine) (hK : X.K = R.K) (ha : PE X a (TO_ R W (opd ca (evE E ca)))) (hb : PE X b (TO_ R W (opd cb (evE E cb)))) (hm : behindInMarks o b = false) : PE X (.Compare a [o] [b] pos) (TE_ R W (evE E (.cmp op ca cb))) := by
 subst ho
 exact PE.imp (pe_cmpR (op_cmp hu op) ha hb hm) fun σ H Q q => imp_op2 (by rw [hK]; exact res_cmp op) q
theorem op2_bl {op : KOp} {ea eb : G → M (Sl × G)} (g : G) (s : Sl) (g' : G) (e : op2 ca cb ea eb (cmpS op) g = some (.ok (s, g'))) : ∃ k, s = atm (.bl k) := by
 unfold op2 at e
 cases e1 : opd ca ea g with
 | none => rw [e1] at e; cases e
 | some o =>
  cases o with
  | ex c => rw [e1] at e; cases e
  | ok p =>
   obtain ⟨oa, g1⟩ := p
   rw [e1] at e
   simp only [bnd_ok] at e
   cases e2 : opd cb eb g1 with
   | none => rw [e2] at e; cases e
   | some o =>
    cases o with
    | ex c => rw [e2] at e; cases e
    | ok p =>
     obtain ⟨ob, g2⟩ := p
     rw [e2] at e
     simp only [bnd_ok] at e
     split at e
     ·split at e
      ·rename_i h
       cases e
       unfold cmpS at h
       rename_i x y _ _ _
       cases q : D.cmp op x.d y.d with
       | none => rw [q] at h; cases h
       | some k => rw [q] at h; cases h; exact ⟨k, rfl⟩
      ·cases e
     ·cases e
theorem pt_cmp_ {op : KOp} {o : CmpOp} (ho : o = op.py) (hu : X.A.units + 140 < cLine) (hK : X.K = R.K) (ha : PE X a (TO_ R W (opd ca (evE E ca)))) (hb : PE X b (TO_ R W (opd cb (evE E cb)))) (hm : behindInMarks o b = false) : PT X (.Compare a [o] [b] pos) (TT_ R W (tst (.cmp op ca cb) (evE E (.cmp op ca cb)))) := by
 subst ho
 refine PT.imp (pt_cmpR (op_cmp hu op) ha hb hm) fun σ H Q q => ?_
 exact imp_op2 (by rw [hK]; exact res_cmp op) (tt_te (fun i z => by cases z) (fun g s g' e => op2_bl g s g' e) q)
theorem pe_idx_ (hu : X.A.units + 140 < cLine) (hK : X.K = R.K) (ha : PE X a (TO_ R W (opd ca (evE E ca)))) (hb : PE X b (TO_ R W (opd cb (evE E cb)))) (hp : PlainIx b) : PE X (.Subscript a b pos) (TE_ R W (evE E (.idx ca cb))) :=
 PE.imp (pe_ix (ix_seq.or (ix_dict (by omega))) ha hb hp) fun σ H Q q => imp_op2 (f := idxS) (by rw [hK]; exact res_idx) q
theorem pe_att_ {f : Str} (hE : AttOk R.K E) (hK : X.K = R.K) (ha : PE X a (TO_ R W (opd ca (evE E ca)))) (hb : attributeBase a f X.env (eval a X.env) = eval a X.env) : PE X (.Attribute a f pos) (TE_ R W (evE E (.att ca f))) :=
 PE.imp (pe_fld ha hb) fun σ H Q q => imp_op1 (r := rAtt X.K f) (by rw [hK]; exact res_att hE f) q
theorem pe_lrg_ {p p2 pos2 : Pos} (hc : X.calm = true) (hg : Gl X "list") (hm : X.mg "list" = none) (hg2 : Gl X "range") (hm2 : X.mg "range" = none) (ha : PE X a (TO_ R W (opd ca (evE E ca)))) (na : starEach [a] X.env = (false, eval a X.env) :: starEach [] X.env) :
  PE X (.Call (.Name "list" p) [.Call (.Name "range" p2) [a] [] pos2] [] pos) (TE_ R W (evE E (.lrg ca))) := by
 refine PE.imp (pe_listRg hc hg hm (prg_1 hg2 hm2 ha na)) fun σ H Q q => ?_
 exact imp_op1 (r := rLrg) res_lrg q
theorem pe_rev_ {k : Nat} {p1 p2 p3 : Pos} (ha : PE X a (TO_ R W (opd ca (evE E ca)))) : PE X (.Subscript a (.Slice none none (some (.UnaryOp .USub (.Constant (.int 1) k p1) p2)) p3) pos) (TE_ R W (evE E (.rev ca))) := by
 refine PE.imp (pe_revL ha) fun σ H Q q => ?_
 have := imp_op1 (r := rRev) res_rev q
 refine ⟨this.choose, this.choose_spec.choose, this.choose_spec.choose_spec.1, wp_mono this.choose_spec.choose_spec.2 (fun (o, g1) k v F' H' r st h => ?_) fun _ z => z⟩
 obtain ⟨p, xs, h1, h2, h3⟩ := k v F' H' r st h
 exact ⟨p, xs, h1, SqL.of h2, h3⟩
end
end Y
namespace Y
open PySem PySem.Spec PyProof.Rows L2
abbrev nSet (w : World) : Obj := { cls := .type "set", dict := none, data := .set #[] 0 (.fresh 0 0 (!w.params.followText "set-order")) }
section
variable {P : Program} {w : World} {A : Around} {E : Value → Shared → Prop} {s : Shared}
theorem pig : ∀ (B : Nat) (l : List Nat), l.Nodup → (∀ x ∈ l, x < B) → l.length ≤ B
 | 0, l, _, h => by
  cases l with
  | nil => exact Nat.le_refl _
  | cons x _ => exact absurd (h x List.mem_cons_self) (Nat.not_lt_zero _)
 | B + 1, l, nd, h => by
  by_cases q : B ∈ l
  ·have ih := pig B (l.erase B) (nd.erase B) fun x hx => by
    have h1 := (nd.mem_erase_iff.mp hx)
    have := h x h1.2
    have := h1.1
    omega
   rw [List.length_erase_of_mem q] at ih
   omega
  ·have := pig B l nd fun x hx => by
    have := h x hx
    have : x ≠ B := fun z => q (z ▸ hx)
    omega
   omega
theorem room_of {h : Heap} {a : Addr} {S : Int → Bool} {c : Nat} (R : SetR w h a S c) (few : ∀ k, S k = true → 0 ≤ k ∧ k < 4000) : c ≤ 4000 := by
 obtain ⟨o, es, ep, t, at1, ex1, dt1, good, nd, mem, sb, fit, num, ris, led⟩ := R
 have hk : ∀ k ∈ es.toList.map keyOf, 0 ≤ k ∧ k < 4000 := fun k q => few k ((mem k).mpr q)
 have := pig 4000 ((es.toList.map keyOf).map Int.toNat) (by
  generalize es.toList.map keyOf = l at nd hk
  clear mem
  induction l with
  | nil => exact List.nodup_nil
  | cons x l ih =>
   obtain ⟨d1, d2⟩ := List.nodup_cons.mp nd
   refine List.nodup_cons.mpr ⟨fun z => ?_, ih d2 fun k q => hk k (List.mem_cons_of_mem _ q)⟩
   obtain ⟨y, hy, e⟩ := List.mem_map.mp z
   have h1 := hk x List.mem_cons_self
   have h2 := hk y (List.mem_cons_of_mem _ hy)
   have : y = x := by omega
   exact d1 (this ▸ hy)) fun x hx => by
  obtain ⟨k, q, rfl⟩ := List.mem_map.mp hx
  have := hk k q
  omega
 rw [List.length_map, List.length_map, Array.length_toList] at this
 omega
theorem set_loop {I : Addr} {fp wr : List Addr} {G : Array GenState → Array GenState → Prop} {n : Nat} {Pv : Nat → Value → Prop} {St : Nat → Shared → Prop} {Rs : Result → Shared → Prop} (W : WalksS P w A.in1 I fp wr G n Pv St) (a : Addr) (no : a ∉ fp) (ns : List Int)
  (hn : n = ns.length) (few : ∀ k ∈ ns, 0 ≤ k ∧ k < 4000) (val : ∀ i v, Pv i v → ∃ k t, ns[i]? = some k ∧ v = .int k t) :
  ∀ (m i : Nat) (s : Shared), n - i = m → i ≤ n → St i s → (∃ c, SetR w s.heap a (fun j => decide (j ∈ ns.take i)) c) → (∀ s2 c, Moved (a :: wr) G s s2 → SetR w s2.heap a (fun j => decide (j ∈ ns)) c → Rs (.ok (.ret .none)) s2) →
   codeAny (model P w) A (.builtin "set.update.loop" ⟨[.ref a, .ref I], []⟩) Rs s := by
 have nw : a ∉ wr := fun z => no (W.sub _ z)
 have up : ∀ b ∈ wr, b ∈ a :: wr := fun b z => List.mem_cons_of_mem _ z
 intro m
 induction m with
 | zero =>
  rintro i s em le st ⟨c, R⟩ fin
  have : i = n := by omega
  subst this
  refine codeAny_builtin F.entry_set_update_loop ?_
  rw [Around.under_plainId F.plain_set_update_loop _]
  change wpAny _ A.in1 (pyNext (.ref I) >>= _) _ _ s
  refine wpAny_bind (W.done s _ _ st fun s2 mv => ?_)
  change wpAny _ A.in1 (ret Value.none) _ _ s2
  rw [show ns.take i = ns from List.take_of_length_le (by omega)] at R
  exact wpAny_pure (fin s2 c (mv.mono up) (R.at fun o e => mv.heap a o nw e))
 | succ m ih =>
  rintro i s em le st ⟨c, R⟩ fin
  have lt : i < n := by omega
  refine codeAny_builtin F.entry_set_update_loop ?_
  rw [Around.under_plainId F.plain_set_update_loop _]
  change wpAny _ A.in1 (pyNext (.ref I) >>= _) _ _ s
  refine wpAny_bind (W.item i s _ _ lt st fun v s2 pv st2 mv => ?_)
  obtain ⟨z, t, hz, rfl⟩ := val i v pv
  have R2 : SetR w s2.heap a (fun j => decide (j ∈ ns.take i)) c := R.at fun o e => mv.heap a o nw e
  have rm := room_of R2 fun k q => few k (List.mem_of_mem_take (of_decide_eq_true q))
  change wpAny _ A.in1 (holding [Value.int z t] (setAdd a (.int z t)) >>= _) _ _ s2
  refine wpAny_bind (wpAny_holding ?_)
  unfold setAdd
  refine wpAny_holding ?_
  refine wpAny_bind ((intKind P w).pyHash (k := z) (intKind_is _ _ _ _) ?_)
  refine setR_add_hashed (s := { s2 with toks := s2.toks + 1 }) R2 (Nat.lt_of_le_of_lt (Nat.succ_le_succ rm) (by decide)) fun h2 sb R3 => ?_
  have R4 := R3.congr (S' := fun j => decide (j ∈ ns.take (i + 1))) fun j => by
   rw [List.take_add_one, hz]
   simp [List.mem_append]
  refine wpAny_pure ⟨plainId_quiet F.plain_set_update_loop _, ih (i + 1) _ (by omega) lt (W.frame _ s2 _ _ st2 (Nat.le_succ _) fun b hb o e => ?_) ⟨_, R4⟩ fun s3 c3 mv3 R5 => ?_⟩
  ·rw [sb.2 b fun q : b = a => no (q ▸ hb)]
   exact e
  ·refine fin s3 c3 (Moved.trans W.gtrans ((mv.mono up).then_heap (Nat.le_succ _) fun b o hb e => ?_) mv3) R5
   rw [sb.2 b fun q : b = a => hb (q ▸ List.mem_cons_self)]
   exact e
set_option maxHeartbeats 16000000 in
theorem set_ofL {l : Addr} {xs : Array Value} (ns : List Int) {Q : Value → Shared → Prop} (hd : A.handled = none) (isL : s.heap.IsList l xs) (isI : IntsAre xs.toList ns) (few : ∀ k ∈ ns, 0 ≤ k ∧ k < 4000)
  (fin : ∀ (h2 : Heap) (tk n : Nat), SetR w h2 s.heap.objs.size (fun j => decide (j ∈ ns)) n → (∀ b o, s.heap.get? b = some o → h2.get? b = some o) → Q (.ref s.heap.objs.size) { s with heap := h2, toks := tk }) :
  wpAny (model P w) A (call (.type "set") [.ref l]) Q E s := by
 have len : xs.size = ns.length := by
  have := IntsAre.length isI
  rwa [Array.length_toList] at this
 obtain ⟨mc, mt, mro⟩ := F.called_set.mro
 have mk1 := F.called_set.made
 have mk2 := F.called_set.sub
 have mk3 := F.called_set.notType
 have mk4 := F.called_set.canCreate
 have mk5 := F.typeCall_set_1 (.ref l)
 refine wpAny_call (codeAny_of_tree ?_)
 change wpAny _ _ (callAny (.type "set") _) _ _ _
 refine wpAny_pure ⟨Code.quiet_builtin _ (by decide +kernel), codeAny_builtin F.entry_type_call ?_⟩
 rw [Around.under_plain (weight_type_call_type "set" [.ref l] []) rfl]
 repeat any_goals first | assumption | wp_step
 refine codeAny_mono (code_set_led1 (.ref l) (E := E) (Q₁ := fun x s1 => x = .ref s.heap.objs.size ∧ s1 = { s with heap := s.heap.push (nSet w) }) ⟨rfl, rfl⟩) fun r1 s1 e1 => ?_
 rcases r1 with e | fl
 ·exact e1
 cases fl with
 | ret x =>
  obtain ⟨rfl, rfl⟩ := e1
  have new1 : (s.heap.push (nSet w)).get? s.heap.objs.size = some (nSet w) := Heap.get?_push_size _ rfl
  have ty1 : Shared.TypeIs { s with heap := s.heap.push (nSet w) } (.ref s.heap.objs.size) "set" := ⟨_, new1, rfl⟩
  have in1 := F.called_set.init.lookup
  have in2 := F.called_set.init.bind (.ref s.heap.objs.size)
  repeat any_goals first | assumption | wp_step
  refine codeAny_mono (codeAny_call_builtin (R := wants (fun y s2 => y = .none ∧ ∃ h2 tk n, s2 = { s with heap := h2, toks := tk } ∧ SetR w h2 s.heap.objs.size (fun j => decide (j ∈ ns)) n ∧
    (∀ b o, s.heap.get? b = some o → h2.get? b = some o)) E) F.called_set.init.plain F.entry_set_init (check_set_init_1 ty1 ?_)) fun r2 s2 e2 => ?_
  ·obtain ⟨⟨ocls, odict, odata, oslots⟩, at1, cl1, nl, dt1⟩ := isL
   simp only at cl1 dt1
   subst cl1
   subst dt1
   have at2 : (s.heap.push (nSet w)).get? l = some { cls := .type "list", dict := odict, data := .seq xs nl, slots := oslots } := Heap.get?_push_of_some _ at1
   have sub1 := F.sub_list_set
   have sub2 := F.sub_list_frozenset
   have no1 : (Value.type "list" == Value.type "dict") = false := by decide
   have isL2 : (s.heap.push (nSet w)).IsList l xs := ⟨_, at2, rfl, nl, rfl⟩
   unfold Builtin.«set.__init__» noKeywords Builtin.Frozenset.updateFrom
   generalize it : pyIter = PI
   wp_walk
   subst it
   refine wpAny_pyIter_list isL2 ?_
   refine wpAny_bind (wpAny_runValue ?_)
   have lt1 : l < s.heap.objs.size := Heap.lt_size at1
   have hd3 : A.in1.in1.in1.handled = none := by simp [hd]
   have sz1 : (s.heap.push (nSet w)).objs.size = s.heap.objs.size + 1 := Heap.size_push ..
   have ne1 : l ≠ (s.heap.push (nSet w)).objs.size := by rw [sz1]; exact Nat.ne_of_lt (Nat.lt_succ_of_lt lt1)
   have ne2 : s.heap.objs.size ∉ [(s.heap.push (nSet w)).objs.size, l] := by
    intro z
    rcases List.mem_cons.mp z with z | z
    ·rw [sz1] at z
     exact Nat.ne_of_lt (Nat.lt_succ_self _) z
    ·exact Nat.ne_of_gt lt1 (List.mem_singleton.mp z)
   have val : ∀ (i : Nat) (v : Value), xs[i]? = some v → ∃ k t, ns[i]? = some k ∧ v = .int k t := fun i v hv => by
    have hi : i < ns.length := len ▸ (Array.getElem?_eq_some_iff.mp hv).1
    obtain ⟨t, e⟩ := IntsAre.int_at isI i v (by rw [Array.getElem?_toList]; exact hv)
    exact ⟨ns[i], t, List.getElem?_eq_getElem hi, by rw [e, List.getD_eq_getElem?_getD, List.getElem?_eq_getElem hi]; rfl⟩
   refine set_loop ((Walks.list hd3 _ l ne1 xs).toS) s.heap.objs.size ne2 ns len few val (xs.size - 0) 0 _ (by omega) (Nat.zero_le _) ⟨⟨_, Heap.get?_push_size _ rfl, rfl, rfl⟩, (isL2.push _)⟩ ?a1 ?a2
   case a1 => exact ⟨0, setR_new_at (Heap.get?_push_of_some _ new1)⟩
   case a2 =>
    rintro ⟨h2, g2, d2, tk2, os2⟩ n mv set2
    have eg : g2 = s.gens := mv.gens
    have ed : d2 = s.drawn := mv.drawn
    have eo : os2 = s.os := mv.os
    subst eg ed eo
    change wpAny _ _ _ _ _ _
    refine wpAny_pure ?_
    change wpAny _ _ (ret Value.none) _ _ _
    refine wpAny_pure ⟨rfl, h2, tk2, n, rfl, set2, fun b o e => ?_⟩
    have b0 : b < s.heap.objs.size := Heap.lt_size e
    refine mv.heap b o (fun z => ?_) (Heap.get?_push_of_some _ (Heap.get?_push_of_some _ e))
    rcases List.mem_cons.mp z with z | z
    ·exact Nat.ne_of_lt b0 z
    ·have := List.mem_singleton.mp z
     rw [sz1] at this
     exact Nat.ne_of_lt (Nat.lt_succ_of_lt b0) this
  ·rcases r2 with e | fl
   ·exact e2
   cases fl with
   | ret y =>
    obtain ⟨rfl, h2, tk, n, rfl, set2, kp⟩ := e2
    repeat any_goals first | assumption | wp_step
    exact fin _ _ _ set2 kp
   | _ => exact e2.elim
 | _ => exact e1.elim
theorem sorted_setA {a : Addr} {S : Int → Bool} {n : Nat} {Q : Value → Shared → Prop} (R : SetR w s.heap a S n) (hd : A.handled = none) (few : n ≤ 100000)
  (fin : ∀ s2 p (out : Array Value) (c : Nat) (ns : List Int), (∀ b o, s.heap.get? b = some o → s2.heap.get? b = some o) → s2.gens = s.gens → s2.os = s.os → s.heap.objs.size ≤ p →
   s2.heap.get? p = some (seqObj "list" out c) → IntsAre out.toList ns → ns.Pairwise (· < ·) → (∀ k, k ∈ ns ↔ S k = true) → ns.length = n → Q (.ref p) s2) :
  wpAny (model P w) A (call (.builtin "sorted") [.ref a]) Q E s := by
 obtain ⟨o, es, ep, t, at1, ex1, dt1, good, nd, mem, sb, fit, num, ris, led⟩ := R
 refine Calls.call_function_entry kind_sorted plain_sorted entry_sorted (args_sorted1 _) ?_
 unfold Builtin.«sorted»
 refine wpAny_bind (m := checkCount "sorted" 1 1 _) (wpAny_pure ?_)
 refine wpAny_bind (collect_set (A := A.in1) hd ⟨o, at1, ex1.1, dt1⟩ fit sb ris led fun s1 vs kp sz g1 o1 pm => ?_)
 have hvl : vs.length = n := by rw [pm.length_eq, List.length_map, Array.length_toList]; exact num
 have isI : IntsAre vs (vs.map Builtin.Re.reRawOf) := ints_of vs fun v hv => by
  obtain ⟨e, he, q⟩ := List.mem_map.mp (pm.mem_iff.mp hv)
  obtain ⟨k, tk, h1, _⟩ := good e he
  exact ⟨k, tk, q ▸ h1⟩
 have pk : (vs.map Builtin.Re.reRawOf).Perm (es.toList.map keyOf) := by
  have := pm.map Builtin.Re.reRawOf
  rwa [List.map_map] at this
 have big : vs.length ≤ sizeLine := by rw [hvl, sizeLine_eq]; omega
 refine wpAny_bind (wpAny_newList ?_ big)
 have atL : (s1.heap.push (seqObj "list" vs.toArray 0)).get? s1.heap.objs.size = some (seqObj "list" vs.toArray 0) := Heap.get?_push_size _ rfl
 refine wpAny_bind (wpAny_holding (wpAny_call_entry slot_list_sort ⟨_, atL, rfl⟩ entry_list_sort (list_sort_treeAny atL isI big fun out ns2 a1 a2 a3 => ⟨_, rfl, ?_⟩) (args_list_sort _)))
 obtain ⟨c, hc⟩ := sortedHeap_at (vs := vs) (out := out) atL
 have pn : ns2.Perm (es.toList.map keyOf) := a2.trans pk
 refine wpAny_pure ⟨_, rfl, fin _ s1.heap.objs.size out c ns2 (fun b u e => ?_) g1 o1 sz hc a1 (lt_of_le_nodup ns2 a3 (pn.nodup_iff.mpr nd)) (fun k => by rw [pn.mem_iff, ← mem k]) ?_⟩
 ·have q := kp b u e
  have lt := Heap.lt_size q
  change (sortedHeap (s1.heap.push (seqObj "list" vs.toArray 0)) s1.heap.objs.size vs out).get? b = some u
  rw [sortedHeap_old (Nat.ne_of_lt lt) (by rw [Heap.size_push]; exact Nat.lt_succ_of_lt lt)]
  exact Heap.get?_push_of_some _ q
 ·rw [pn.length_eq, List.length_map, Array.length_toList]
  exact num
end
end Y
namespace Y
open PySem PySem.Spec PyProof.Rows L2
theorem ins_mem {k j : Int} : ∀ {xs : List Int}, j ∈ insI k xs ↔ j = k ∨ j ∈ xs
 | [] => by simp [insI]
 | x :: xs => by
  rw [insI]
  split
  ·simp
  ·split
   ·rename_i e
    subst e
    simp
   ·rw [List.mem_cons, ins_mem, List.mem_cons]
    constructor
    ·rintro (h | h | h)
     ·exact .inr (.inl h)
     ·exact .inl h
     ·exact .inr (.inr h)
    ·rintro (h | h | h)
     ·exact .inr (.inl h)
     ·exact .inl h
     ·exact .inr (.inr h)
theorem ins_ord {k : Int} : ∀ {xs : List Int}, xs.Pairwise (· < ·) → (insI k xs).Pairwise (· < ·)
 | [], _ => by simp [insI]
 | x :: xs, h => by
  obtain ⟨h1, h2⟩ := List.pairwise_cons.mp h
  rw [insI]
  split
  ·rename_i lt
   refine List.pairwise_cons.mpr ⟨fun y hy => ?_, h⟩
   rcases List.mem_cons.mp hy with rfl | hy
   ·exact lt
   ·have := h1 y hy
    omega
  ·split
   ·exact h
   ·refine List.pairwise_cons.mpr ⟨fun y hy => ?_, ins_ord h2⟩
    rcases ins_mem.mp hy with rfl | hy
    ·omega
    ·exact h1 y hy
theorem srt_mem {j : Int} : ∀ {ns : List Int}, j ∈ srtI ns ↔ j ∈ ns
 | [] => Iff.rfl
 | x :: ns => by rw [srtI, ins_mem, srt_mem, List.mem_cons]
theorem srt_ord : ∀ ns : List Int, (srtI ns).Pairwise (· < ·)
 | [] => List.Pairwise.nil
 | x :: ns => ins_ord (srt_ord ns)
theorem ord_same : ∀ {xs ys : List Int}, xs.Pairwise (· < ·) → ys.Pairwise (· < ·) → (∀ k, k ∈ xs ↔ k ∈ ys) → xs = ys
 | [], [], _, _, _ => rfl
 | [], y :: ys, _, _, h => absurd ((h y).mpr List.mem_cons_self) (by simp)
 | x :: xs, [], _, _, h => absurd ((h x).mp List.mem_cons_self) (by simp)
 | x :: xs, y :: ys, h1, h2, h => by
  obtain ⟨a1, a2⟩ := List.pairwise_cons.mp h1
  obtain ⟨b1, b2⟩ := List.pairwise_cons.mp h2
  have e : x = y := by
   rcases List.mem_cons.mp ((h x).mp List.mem_cons_self) with e | e
   ·exact e
   ·rcases List.mem_cons.mp ((h y).mpr List.mem_cons_self) with e2 | e2
    ·exact e2.symm
    ·have := a1 y e2
     have := b1 x e
     omega
  subst e
  rw [ord_same a2 b2 fun k => ⟨fun q => ?_, fun q => ?_⟩]
  ·rcases List.mem_cons.mp ((h k).mp (List.mem_cons_of_mem _ q)) with z | z
   ·have := a1 k q
    omega
   ·exact z
  ·rcases List.mem_cons.mp ((h k).mpr (List.mem_cons_of_mem _ q)) with z | z
   ·have := b1 k q
    omega
   ·exact z
def rSset (K : PySem.W.Frag) : V → Hp → VK → Prop := fun x H Q => ∃ (l : Addr) (ns : List Int), x = .ref l ∧ SqL K H l (ns.map V.int) ∧ (∀ k ∈ ns, 0 ≤ k ∧ k < 4000) ∧ ∀ p, H p = none → Q (.ref p) (upd H p (.lst ((srtI ns).map V.int)))
theorem pe_sset {X : Cx} {a : Expr} {ta : TE} {p p2 q pos : Pos} (hg : Gl X "sorted") (hm : X.mg "sorted" = none) (hg2 : Gl X "set") (hm2 : X.mg "set" = none) (ha : PE X a ta) (hc : X.calm = true)
  (na : starEach [a] X.env = (false, eval a X.env) :: starEach [] X.env) : PE X (.Call (.Name "sorted" p) [.Call (.Name "set" p2) [a] [] q] [] pos) (tUn (rSset X.K) ta) := by
 refine ⟨fun pins s σ H Q I h => ?_⟩
 refine Call_ (ld_blt I hg hm boot_sorted ?_)
 refine callWith_builtin1 (args_cons ?_ rfl) rfl rfl
 refine Call_ (ld_blt I hg2 hm2 boot_set ?_)
 refine callWith_type1 (args_cons (thn (ha.run pins s σ H _ I h) fun v s1 ⟨x, H1, I1, r1, q1⟩ => args_nil ?_) na) na rfl
 obtain ⟨l, ns, rfl, hq, few, q1⟩ := q1
 cases r1
 obtain ⟨its, r, pl, hz⟩ := I1.list hq
 refine set_ofL ns (I1.ok.hd hc) pl.isList (by simpa using RZ.intsAre_vals r) few fun h2 tk n R kp => ?_
 refine args_nil ?_
 have I2 : Inv X pins σ H1 { s1 with heap := h2, toks := tk } := I1.kept kp
 have n4 := room_of R fun k z => few k (of_decide_eq_true z)
 refine sorted_setA R (I2.ok.hd hc) (by omega) fun s3 b out c ms k3 g3 o3 lb atb isI ord mem num => ?_
 have same : ms = srtI ns := ord_same ord (srt_ord ns) fun k => by rw [mem, srt_mem]; exact decide_eq_true_iff
 subst same
 have fresh : H1 b = none := I2.hok.fresh lb
 have short : ((srtI ns).map V.int).length ≤ sizeLine := by rw [List.length_map, num, sizeLine_eq]; omega
 have J : Inv X pins σ (upd H1 b (.lst ((srtI ns).map V.int))) { s1 with heap := s3.heap, gens := s3.gens, drawn := s3.drawn, toks := s3.toks } :=
  Inv.call (s := { s1 with heap := h2, toks := tk }) I2 (ch := []) (Un.laid k3 lb fresh) (I2.hok.laid k3 lb ⟨short, out.toList, c, vals_of_ints isI, atb⟩) (by rw [g3]; exact I2.bare) fun _ z => nomatch z
 have e : s3 = { s1 with heap := s3.heap, gens := s3.gens, drawn := s3.drawn, toks := s3.toks } := by
  cases s3
  cases s1
  cases o3
  rfl
 rw [e]
 exact ⟨.ref b, _, J, rfl, q1 b fresh⟩
section
variable {R : Fr}
theorem res_sset : Res1 R (rSset R.K) ssetS := by
 intro x ⟨dx, mx, nx⟩ s F H g σ g0 F0 H0 Q r st vx e k
 cases dx with
 | lst xs =>
  have e1 : (match intsD xs with
   | some ns => if ns.all (fun k => decide (0 ≤ k ∧ k < 4000)) then some (⟨.lst ((srtI ns).map .int), .ow, true⟩ : Sl) else none
   | none => none) = some s := e
  cases q : intsD xs with
  | none => rw [q] at e1; cases e1
  | some ns =>
   rw [q] at e1
   dsimp only at e1
   split at e1
   ·rename_i few
    cases e1
    obtain ⟨p, vs, rfl, h1, h2⟩ := vx.as_lst
    have ev := intsD_of at_int h2 q
    subst ev
    refine ⟨p, ns, rfl, SqL.of h1, fun j hj => of_decide_eq_true (List.all_eq_true.mp few j hj), fun z hz => kont_ow k r st hz (.lst upd_same (at_ints _))⟩
   ·cases e1
 | _ => cases e
variable {X : Cx} {W : XK} {E : Ev} {a : Expr} {ca : C} {p p2 q pos : Pos}
theorem pe_sset_ (hK : X.K = R.K) (hc : X.calm = true) (hg : Gl X "sorted") (hm : X.mg "sorted" = none) (hg2 : Gl X "set") (hm2 : X.mg "set" = none) (ha : PE X a (TO_ R W (opd ca (evE E ca)))) (na : starEach [a] X.env = (false, eval a X.env) :: starEach [] X.env) :
  PE X (.Call (.Name "sorted" p) [.Call (.Name "set" p2) [a] [] q] [] pos) (TE_ R W (evE E (.sset ca))) := by
 refine PE.imp (pe_sset hg hm hg2 hm2 ha hc na) fun σ H Q z => ?_
 exact imp_op1 (r := rSset X.K) (by rw [hK]; exact res_sset) z
end
end Y
namespace Y
open PySem PySem.Spec L2
theorem ResAt.before {R : Fr} {g g1 g2 : G} {σ : L2.St} {F H F1 H1 F2 H2 : Hp} {v : V} {s : Sl} (h : ResAt R g2 σ H1 F2 H2 v s) (st : Step g σ F H g1 F1 H1) : ResAt R g2 σ H F2 H2 v s := by
 obtain ⟨d, m, n⟩ := s
 cases m with
 | fr => exact h
 | ow =>
  obtain ⟨p, rfl, h1, h2⟩ := h
  exact ⟨p, rfl, st.gone h1, h2⟩
 | io => exact h
section
variable {X : Cx} {R : Fr} {W : XK} {E : Ev} {e a b d : Expr} {es : List Expr} {c ca cb cc ct : C} {cs : List C} {pos : Pos} {F H : Hp} {g : G} {σ : L2.St}
theorem te_on {ev : G → M (Sl × G)} {Q : VK} {F1 H1 : Hp} {g1 : G} (r1 : Rel R F1 g1 σ H1) (st1 : Step g σ F H g1 F1 H1)
  (q : wp (ev g1) (fun (s, g') => ∀ v F' H', Rel R F' g' σ H' → Step g σ F H g' F' H' → ResAt R g' σ H F' H' v s → Q v H') (ExW R W)) : TE_ R W ev σ H1 Q :=
 ⟨F1, g1, r1, wp_mono q (fun (t, g2) k w F2 H2 r2 st2 h2 => k w F2 H2 r2 (st1.trans st2) (h2.before st1)) fun _ z => z⟩
theorem tt_on {ev : G → M (Bool × G)} {Q : Bool → Hp → Prop} {F1 H1 : Hp} {g1 : G} (r1 : Rel R F1 g1 σ H1) (st1 : Step g σ F H g1 F1 H1)
  (q : wp (ev g1) (fun (s, g') => ∀ F' H', Rel R F' g' σ H' → Step g σ F H g' F' H' → Q s H') (ExW R W)) : TT_ R W ev σ H1 Q :=
 ⟨F1, g1, r1, wp_mono q (fun (t, g2) k F2 H2 r2 st2 => k F2 H2 r2 (st1.trans st2)) fun _ z => z⟩
def TB_ (R : Fr) (W : XK) (ev : G → M (Sl × G)) : TE := fun σ H Q => ∃ Q' : Bool → Hp → Prop, (∀ v H', (∃ k, v = V.bl k ∧ Q' k H') → Q v H') ∧ ∃ F g, Rel R F g σ H ∧
 wp (boolE ev g) (fun (k, g') => ∀ F' H', Rel R F' g' σ H' → Step g σ F H g' F' H' → Q' k H') (ExW R W)
theorem pe_bool {ev : G → M (Sl × G)} (h : PE X e (TE_ R W ev)) : PE X e (TB_ R W ev) := by
 refine PE.imp (pe_frz h) fun σ H Q ⟨Q', hq, F, g, r, q⟩ => ⟨F, g, r, wp_mono (wp_bnd q) (fun (s, g1) q1 v F1 H1 r1 st1 h1 => ?_) fun _ z => z⟩
 dsimp only at q1 h1
 split at q1
 ·rename_i k hs
  rw [hs] at h1
  cases h1
  exact hq _ _ ⟨k, rfl, q1 F1 H1 r1 st1⟩
 ·exact q1.elim
theorem bl_kont {k : Bool} {Q : VK} {g1 : G} {F1 H1 : Hp} (q : Kont R g σ F H (atm (.bl k)) g1 Q) (r1 : Rel R F1 g1 σ H1) (st1 : Step g σ F H g1 F1 H1) : Q (.bl k) H1 := kont_fr q r1 st1 (At.bl _)
theorem pe_and_ {rest : List Expr} (ha : PE X a (TE_ R W (evE E ca))) (hb : PE X (.BoolOp .And (b :: rest) pos) (TE_ R W (evE E cb))) : PE X (.BoolOp .And (a :: b :: rest) pos) (TE_ R W (evE E (.and_ ca cb))) := by
 refine PE.imp (pe_and (pe_bool ha) (pe_bool hb)) fun σ H Q ⟨F, g, r, q⟩ => ?_
 refine ⟨fun k H1 => if k = true then TB_ R W (evE E cb) σ H1 Q else Q (.bl false) H1, fun v H' ⟨k, h1, h2⟩ => ⟨k, h1, h2⟩, F, g, r, wp_mono (wp_bnd q) (fun (k, g1) q1 F1 H1 r1 st1 => ?_) fun _ z => z⟩
 cases k with
 | true => exact ⟨fun k H' => Q (.bl k) H', fun v H' ⟨k, h1, h2⟩ => by rw [h1]; exact h2, F1, g1, r1, wp_mono (wp_bnd q1) (fun (k, g2) q2 F2 H2 r2 st2 => bl_kont q2 r2 (st1.trans st2)) fun _ z => z⟩
 | false => exact bl_kont q1 r1 st1
theorem pe_or_ {rest : List Expr} (ha : PE X a (TE_ R W (evE E ca))) (hb : PE X (.BoolOp .Or (b :: rest) pos) (TE_ R W (evE E cb))) : PE X (.BoolOp .Or (a :: b :: rest) pos) (TE_ R W (evE E (.or_ ca cb))) := by
 refine PE.imp (pe_or (pe_bool ha) (pe_bool hb)) fun σ H Q ⟨F, g, r, q⟩ => ?_
 refine ⟨fun k H1 => if k = true then Q (.bl true) H1 else TB_ R W (evE E cb) σ H1 Q, fun v H' ⟨k, h1, h2⟩ => ⟨k, h1, h2⟩, F, g, r, wp_mono (wp_bnd q) (fun (k, g1) q1 F1 H1 r1 st1 => ?_) fun _ z => z⟩
 cases k with
 | true => exact bl_kont q1 r1 st1
 | false => exact ⟨fun k H' => Q (.bl k) H', fun v H' ⟨k, h1, h2⟩ => by rw [h1]; exact h2, F1, g1, r1, wp_mono (wp_bnd q1) (fun (k, g2) q2 F2 H2 r2 st2 => bl_kont q2 r2 (st1.trans st2)) fun _ z => z⟩
theorem pe_not_ (ha : PE X a (TE_ R W (evE E ca))) : PE X (.UnaryOp .Not a pos) (TE_ R W (evE E (.not_ ca))) := by
 refine PE.imp (pe_not (pe_bool ha)) fun σ H Q ⟨F, g, r, q⟩ => ?_
 exact ⟨fun k H1 => Q (.bl (!k)) H1, fun v H' ⟨k, h1, h2⟩ => ⟨k, h1, h2⟩, F, g, r, wp_mono (wp_bnd q) (fun (k, g1) q1 F1 H1 r1 st1 => bl_kont q1 r1 st1) fun _ z => z⟩
theorem wp_tst {F H : Hp} (r : Rel R F g σ H) {D : Bool × G → Prop} {Wx : Xc → Prop} (q : wp (boolE (evE E c) g) D Wx) : wp (tst c (evE E c) g) D Wx := by
 have q1 := wp_bnd q
 cases e : evE E c g with
 | none => rw [e] at q1; exact q1.elim
 | some o =>
  rw [e] at q1
  cases o with
  | ok p =>
   obtain ⟨s, g1⟩ := p
   have q2 : wp (match s.d with | .bl k => some (.ok (k, g1)) | _ => none) D Wx := q1
   split at q2
   ·rename_i k hs
    rw [tst_bl r e hs]
    exact q2
   ·exact q2.elim
  | ex c' =>
   have hc : ¬ ∃ i, c = .var i := fun ⟨i, z⟩ => by
    subst z
    have e' : takeV g i = some (.ex c') := e
    unfold takeV at e'
    split at e' <;> cases e'
   have h1 : opd c (evE E c) = fun g => M.bnd (evE E c g) fun (s, g1) => some (.ok (.val s.frz, g1)) := by
    funext g
    cases c <;> first | rfl | exact absurd ⟨_, rfl⟩ hc
   unfold tst
   rw [h1]
   simp only [e, bnd_ex]
   exact q1
theorem tt_bool {c' : C} {ev : G → M (Sl × G)} (hc : ∀ i, c' ≠ .var i) {k : G → M (Bool × G)} (he : ev = fun g => M.bnd (k g) fun (b, g1) => some (.ok (atm (.bl b), g1))) {Q : Bool → Hp → Prop} (q : TT_ R W (tst c' ev) σ H Q) :
  ∃ F g, Rel R F g σ H ∧ wp (k g) (fun (b, g') => ∀ F' H', Rel R F' g' σ H' → Step g σ F H g' F' H' → Q b H') (ExW R W) := by
 obtain ⟨F, g, r, q⟩ := q
 have h1 : opd c' ev = fun g => M.bnd (ev g) fun (s, g1) => some (.ok (.val s.frz, g1)) := by
  funext g
  cases c' <;> first | rfl | exact absurd rfl (hc _)
 refine ⟨F, g, r, ?_⟩
 have q1 := wp_bnd q
 rw [h1] at q1
 have q2 := wp_bnd q1
 rw [he] at q2
 exact wp_mono (wp_bnd q2) (fun (b, g1) z => z) fun _ z => z
theorem and_form : evE E (.and_ ca cb) = fun g => M.bnd (M.bnd (boolE (evE E ca) g) fun (k, g1) => if k then boolE (evE E cb) g1 else some (.ok (false, g1))) fun (b, g1) => some (.ok (atm (.bl b), g1)) := by
 funext g
 show M.bnd (boolE (evE E ca) g) _ = _
 cases boolE (evE E ca) g with
 | none => rfl
 | some o =>
  cases o with
  | ex c => rfl
  | ok p =>
   obtain ⟨k, g1⟩ := p
   cases k <;> rfl
theorem or_form : evE E (.or_ ca cb) = fun g => M.bnd (M.bnd (boolE (evE E ca) g) fun (k, g1) => if k then some (.ok (true, g1)) else boolE (evE E cb) g1) fun (b, g1) => some (.ok (atm (.bl b), g1)) := by
 funext g
 show M.bnd (boolE (evE E ca) g) _ = _
 cases boolE (evE E ca) g with
 | none => rfl
 | some o =>
  cases o with
  | ex c => rfl
  | ok p =>
   obtain ⟨k, g1⟩ := p
   cases k <;> rfl
theorem not_form : evE E (.not_ ca) = fun g => M.bnd (M.bnd (boolE (evE E ca) g) fun (k, g1) => some (.ok (!k, g1))) fun (b, g1) => some (.ok (atm (.bl b), g1)) := by
 funext g
 show M.bnd (boolE (evE E ca) g) _ = _
 cases boolE (evE E ca) g with
 | none => rfl
 | some o =>
  cases o with
  | ex c => rfl
  | ok p => rfl
theorem pw_and_ {rest : List Expr} (ha : PT X a (TT_ R W (tst ca (evE E ca)))) (hb : PW X (.BoolOp .And (b :: rest) pos) (TT_ R W (tst cb (evE E cb)))) : PW X (.BoolOp .And (a :: b :: rest) pos) (TT_ R W (tst (.and_ ca cb) (evE E (.and_ ca cb)))) := by
 refine PW.imp (pw_and ha hb) fun σ H Q q => ?_
 obtain ⟨F, g, r, q⟩ := tt_bool (fun i z => by cases z) and_form q
 refine ⟨F, g, r, wp_tst r (wp_mono (wp_bnd q) (fun (k, g1) q1 F1 H1 r1 st1 => ?_) fun _ z => z)⟩
 cases k with
 | true => exact tt_on r1 st1 (wp_tst r1 q1)
 | false => exact q1 F1 H1 r1 st1
theorem pw_or_ {rest : List Expr} (ha : PT X a (TT_ R W (tst ca (evE E ca)))) (hb : PW X (.BoolOp .Or (b :: rest) pos) (TT_ R W (tst cb (evE E cb)))) : PW X (.BoolOp .Or (a :: b :: rest) pos) (TT_ R W (tst (.or_ ca cb) (evE E (.or_ ca cb)))) := by
 refine PW.imp (pw_or ha hb) fun σ H Q q => ?_
 obtain ⟨F, g, r, q⟩ := tt_bool (fun i z => by cases z) or_form q
 refine ⟨F, g, r, wp_tst r (wp_mono (wp_bnd q) (fun (k, g1) q1 F1 H1 r1 st1 => ?_) fun _ z => z)⟩
 cases k with
 | true => exact q1 F1 H1 r1 st1
 | false => exact tt_on r1 st1 (wp_tst r1 q1)
theorem pt_not_ (ha : PT X a (TT_ R W (tst ca (evE E ca)))) : PT X (.UnaryOp .Not a pos) (TT_ R W (tst (.not_ ca) (evE E (.not_ ca)))) := by
 refine PT.imp (pt_not ha) fun σ H Q q => ?_
 obtain ⟨F, g, r, q⟩ := tt_bool (fun i z => by cases z) not_form q
 exact ⟨F, g, r, wp_tst r (wp_mono (wp_bnd q) (fun (k, g1) q1 F1 H1 r1 st1 => q1 F1 H1 r1 st1) fun _ z => z)⟩
theorem pe_ife_ {t : Expr} (ht : PT X t (TT_ R W (tst ct (evE E ct)))) (ha : PE X a (TE_ R W (evE E ca))) (hb : PE X b (TE_ R W (evE E cb))) : PE X (.IfExp t a b pos) (TE_ R W (evE E (.ife ct ca cb))) := by
 refine PE.imp (pe_ifExp ht ha hb) fun σ H Q ⟨F, g, r, q⟩ => ⟨F, g, r, wp_mono (wp_bnd q) (fun (k, g1) q1 F1 H1 r1 st1 => ?_) fun _ z => z⟩
 cases k with
 | true => exact te_on r1 st1 q1
 | false => exact te_on r1 st1 q1
theorem cmp_cond {op : KOp} {x y : V} {sx sy : Sl} {k : Bool} {F1 H1 : Hp} {g1 : G} {Q : V → Hp → Prop} (r1 : Rel R F1 g1 σ H1) (vx : View R.K (FN R.H0 F1 sx.n) H1 x sx.d) (vy : View R.K (FN R.H0 F1 sy.n) H1 y sy.d) (e : sx.d.cmp op sy.d = some k)
  (q : ∀ F' H', Rel R F' g1 σ H' → Step g1 σ F1 H1 g1 F' H' → Q (.bl k) H') : rCmp op R.K x y H1 Q := by
 refine res_cmp op x y sx sy (atm (.bl k)) F1 H1 g1 σ g1 F1 H1 Q r1 (Step.refl _ _ _ _) vx vy (by unfold cmpS; rw [e]; rfl) fun v F' H' r' st' h => ?_
 have h' : At R.K (FN R.H0 F' true) v (.bl k) := h
 cases h'
 exact q F' H' r' st'
theorem imp_chain {op op' : KOp} {Q : VK} (q : TE_ R W (evE E (.chain op op' ca cb cc)) σ H Q) : tChain (rCmp op R.K) (rCmp op' R.K) (TO_ R W (opd ca (evE E ca))) (TO_ R W (opd cb (evE E cb))) (TO_ R W (opd cc (evE E cc))) σ H Q := by
 obtain ⟨F, g, r, q⟩ := q
 refine ⟨F, g, r, wp_mono (wp_bnd q) (fun (oa, g1) q1 v F1 H1 r1 st1 o1 => ⟨F1, g1, r1, wp_mono (wp_bnd q1) (fun (ob, g2) q2 w F2 H2 r2 st2 o2 => ?_) fun _ z => z⟩) fun _ z => z⟩
 cases e : oa.get g2 with
 | none => simp only [e] at q2; exact q2.elim
 | some x =>
  cases e1 : ob.get g2 with
  | none => simp only [e, e1] at q2; exact q2.elim
  | some y =>
   simp only [e, e1] at q2
   cases e2 : x.d.cmp op y.d with
   | none => simp only [e2] at q2; exact q2.elim
   | some k =>
    simp only [e2] at q2
    refine cmp_cond r2 ((o1.mono st2.exF).view r2 e) (o2.view r2 e1) e2 fun F3 H3 r3 st3 => ⟨k, rfl, ?_⟩
    have st03 := (st1.trans st2).trans st3
    cases k with
    | true =>
     refine ⟨F3, g2, r3, wp_mono (wp_bnd q2) (fun (oc, g4) q4 u F4 H4 r4 st4 o4 => ?_) fun _ z => z⟩
     cases e3 : ob.get g4 with
     | none => simp only [e3] at q4; exact q4.elim
     | some y2 =>
      cases e4 : oc.get g4 with
      | none => simp only [e3, e4] at q4; exact q4.elim
      | some z2 =>
       simp only [e3, e4] at q4
       cases e5 : y2.d.cmp op' z2.d with
       | none => simp only [e5] at q4; exact q4.elim
       | some k2 =>
        simp only [e5] at q4
        exact cmp_cond r4 (((o2.mono st3.exF).mono st4.exF).view r4 e3) (o4.view r4 e4) e5 fun F5 H5 r5 st5 => bl_kont q4 r5 ((st03.trans st4).trans st5)
    | false => exact bl_kont q2 r3 st03
theorem chain_bl {op op' : KOp} (g : G) (s : Sl) (g' : G) (e : evE E (.chain op op' ca cb cc) g = some (.ok (s, g'))) : ∃ k, s = atm (.bl k) := by
 have e' : M.bnd (opd ca (evE E ca) g) (fun (oa, g1) => M.bnd (opd cb (evE E cb) g1) fun (ob, g2) => match oa.get g2, ob.get g2 with
  | some x, some y => match x.d.cmp op y.d with
   | some true => M.bnd (opd cc (evE E cc) g2) fun (oc, g3) => match ob.get g3, oc.get g3 with
    | some y, some z => match y.d.cmp op' z.d with
     | some k => some (.ok (atm (.bl k), g3))
     | none => none
    | _, _ => none
   | some false => some (.ok (atm (.bl false), g2))
   | none => none
  | _, _ => none) = some (.ok (s, g')) := e
 cases e1 : opd ca (evE E ca) g with
 | none => rw [e1] at e'; cases e'
 | some o =>
  cases o with
  | ex c => rw [e1] at e'; cases e'
  | ok p =>
   obtain ⟨oa, g1⟩ := p
   rw [e1] at e'
   simp only [bnd_ok] at e'
   cases e2 : opd cb (evE E cb) g1 with
   | none => rw [e2] at e'; cases e'
   | some o =>
    cases o with
    | ex c => rw [e2] at e'; cases e'
    | ok p =>
     obtain ⟨ob, g2⟩ := p
     rw [e2] at e'
     simp only [bnd_ok] at e'
     split at e'
     ·split at e'
      ·cases e3 : opd cc (evE E cc) g2 with
       | none => rw [e3] at e'; cases e'
       | some o =>
        cases o with
        | ex c => rw [e3] at e'; cases e'
        | ok p =>
         obtain ⟨oc, g3⟩ := p
         rw [e3] at e'
         simp only [bnd_ok] at e'
         split at e'
         ·split at e'
          ·cases e'; exact ⟨_, rfl⟩
          ·cases e'
         ·cases e'
      ·cases e'; exact ⟨_, rfl⟩
      ·cases e'
     ·cases e'
theorem pe_chain_ {op op' : KOp} {o o' : CmpOp} (ho : o = op.py) (ho' : o' = op'.py) (hu : X.A.units + 140 < cLine) (hK : X.K = R.K) (ha : PE X a (TO_ R W (opd ca (evE E ca)))) (hb : PE X b (TO_ R W (opd cb (evE E cb)))) (hc : PE X d (TO_ R W (opd cc (evE E cc))))
  (hm : lastMarks [o, o'] [b, d] = false) : PE X (.Compare a [o, o'] [b, d] pos) (TE_ R W (evE E (.chain op op' ca cb cc))) := by
 subst ho ho'
 exact PE.imp (pe_chain (op_cmp hu op) (op_cmp hu op') ha hb hc hm) fun σ H Q q => by rw [hK]; exact imp_chain q
theorem pt_chain_ {op op' : KOp} {o o' : CmpOp} (ho : o = op.py) (ho' : o' = op'.py) (hu : X.A.units + 140 < cLine) (hK : X.K = R.K) (ha : PE X a (TO_ R W (opd ca (evE E ca)))) (hb : PE X b (TO_ R W (opd cb (evE E cb)))) (hc : PE X d (TO_ R W (opd cc (evE E cc))))
  (hm : lastMarks [o, o'] [b, d] = false) : PT X (.Compare a [o, o'] [b, d] pos) (TT_ R W (tst (.chain op op' ca cb cc) (evE E (.chain op op' ca cb cc)))) := by
 subst ho ho'
 exact PT.imp (pt_chain (op_cmp hu op) (op_cmp hu op') ha hb hc hm) fun σ H Q q => by
  rw [hK]
  exact imp_chain (tt_te (fun i z => by cases z) (fun g s g' e => chain_bl g s g' e) q)
end
end Y
namespace Y
open PySem PySem.Spec L2
section
variable {X : Cx} {R : Fr} {W : XK} {E : Ev} {e a b d : Expr} {es : List Expr} {c ca cb cc ct : C} {cs : List C} {pos : Pos} {F H : Hp} {g : G} {σ : L2.St}
theorem pe_isi_ {t : Ty} {p : Pos} (hE : IsiOk R.K E) (hK : X.K = R.K) (hg : Gl X "isinstance") (hm : X.mg "isinstance" = none) (ha : PE X a (TO_ R W (opd ca (evE E ca)))) (hb : PE X b (tC (t.v R.K)))
  (hs : starEach (a :: [b]) X.env = (false, eval a X.env) :: starEach [b] X.env) (hs2 : starEach (b :: []) X.env = (false, eval b X.env) :: starEach [] X.env)
  (hpl : (backTo pos (starEach [b] X.env)).any (·.1) = false) : PE X (.Call (.Name "isinstance" p) [a, b] [] pos) (TE_ R W (evE E (.isi ca t))) := by
 refine PE.imp (pe_callB call_isiE hg hm PyProof.Rows.boot_isinstance (pa_cons ha (pa_cons hb pa_nil hs2) hs) (by decide) (by decide) hs hpl) fun σ H Q q => ?_
 have := imp_op1 (res_isi hE t) q
 rw [hK]
 exact this
theorem imp_op2p {pre : D → Bool} {f : Sl → Sl → Option Sl} {eva evb : G → M (Sl × G)} {Q : VK} {P : V → Hp → Prop} {r2 : R2}
  (hP : ∀ (x : V) (sx : Sl) (F H : Hp) (g : G) (σ : L2.St), Rel R F g σ H → View R.K (FN R.H0 F sx.n) H x sx.d → pre sx.d = true → P x H) (h2 : Res2 R r2 f) (q : TE_ R W (op2p pre ca cb eva evb f) σ H Q) :
  TO_ R W (opd ca eva) σ H fun x H1 => P x H1 ∧ TO_ R W (opd cb evb) σ H1 fun y H2 => r2 x y H2 Q := by
 obtain ⟨F, g, rl, q⟩ := q
 refine ⟨F, g, rl, wp_mono (wp_bnd q) (fun (oa, g1) q1 v F1 H1 r1 st1 o1 => ?_) fun _ z => z⟩
 cases e0 : oa.get g1 with
 | none => simp only [e0] at q1; exact q1.elim
 | some x0 =>
  simp only [e0] at q1
  split at q1
  ·rename_i hp
   refine ⟨hP v x0 F1 H1 g1 σ r1 (o1.view r1 e0) hp, F1, g1, r1, wp_mono (wp_bnd q1) (fun (ob, g2) q2 w F2 H2 r2' st2 o2 => ?_) fun _ z => z⟩
   cases e : oa.get g2 with
   | none => simp only [e] at q2; exact q2.elim
   | some x =>
    cases e1 : ob.get g2 with
    | none => simp only [e, e1] at q2; exact q2.elim
    | some y =>
     simp only [e, e1] at q2
     cases e2 : f x y with
     | none => simp only [e2] at q2; exact q2.elim
     | some s =>
      simp only [e2] at q2
      exact h2 v w x y s F2 H2 g2 σ g F H Q r2' (st1.trans st2) ((o1.mono st2.exF).view r2' e) (o2.view r2' e1) e2 q2
  ·exact q1.elim
theorem pe_index_ {p : Pos} (hu : X.A.units + 140 < cLine) (hK : X.K = R.K) (ha : PE X a (TO_ R W (opd ca (evE E ca)))) (hb : PE X b (TO_ R W (opd cb (evE E cb))))
  (hbase : attributeBase a "index" X.env (eval a X.env) = eval a X.env)
  (hfew : ((backTo pos (starEach (b :: []) X.env)).all (fun x => !x.1) && (backToKw pos (keywordEach [] X.env)).all (fun x => x.1.isSome)
   && decide ((b :: []).length + ([] : List Keyword).length + (if ([] : List Keyword).isEmpty then 0 else 1) < 30)) = true)
  (hline : (p.endLine == pos.line) = true) (hs : starEach (b :: []) X.env = (false, eval b X.env) :: starEach [] X.env) (hplain : (backTo pos (starEach [] X.env)).any (·.1) = false) :
  PE X (.Call (.Attribute a "index" p) [b] [] pos) (TE_ R W (evE E (.index ca cb))) := by
 refine PE.imp (pe_bm PySem.F.plainAttrs_list PySem.F.slot_list_index PySem.F.type_list_index (mt_indexD (by omega)) ha (pa_cons hb pa_nil hs) hbase hfew hline hs hplain) fun σ H Q q => ?_
 have := imp_op2p (P := fun x H1 => tyV X.K "list" x H1) (pre := isLst) (f := indexS) (fun x sx F H g σ r v hp => ?_) res_index q
 ·rw [hK]
  rw [hK] at this
  exact this
 ·obtain ⟨dx, m, n⟩ := sx
  cases dx with
  | lst xs =>
   obtain ⟨p, vs, rfl, h1, h2⟩ := v.as_lst
   exact .inl ⟨rfl, _, SqL.of h1⟩
  | _ => cases hp
theorem res_dget : Res2 R (fun x y H Q => ∃ a o, x = .ref a ∧ DGet H a y o ∧ Q (o.getD .non) H) dgetS := by
 intro x y ⟨dx, mx, nx⟩ ⟨dy, my, ny⟩ s F H g σ g0 F0 H0 Q r st vx vy e k
 cases dx with
 | dct ks xs =>
  have e' : (dy.key).map (fun k => match look ks xs k with
   | some d => (⟨d, .fr, nx || d.atom⟩ : Sl)
   | none => atm .non) = some s := e
  cases h1 : dy.key with
  | none => rw [h1] at e'; cases e'
  | some j =>
   rw [h1] at e'
   obtain ⟨a, o, rfl, hg, q1, q2⟩ := dget_of vx vy h1
   refine ⟨a, o, rfl, hg, ?_⟩
   cases h2 : look ks xs j with
   | none =>
    simp only [Option.map_some, h2] at e'
    cases e'
    rw [q2 h2]
    exact kont_fr k r st At.non
   | some d =>
    simp only [Option.map_some, h2] at e'
    cases e'
    obtain ⟨u, rfl, h4⟩ := q1 d h2
    exact kont_fr k r st h4.sub
 | _ => cases e
theorem pe_dget_ {p : Pos} (hu : X.A.units + 140 < cLine) (ha : PE X a (TO_ R W (opd ca (evE E ca)))) (hb : PE X b (TO_ R W (opd cb (evE E cb)))) (m : M1 X a "get" p b pos) : PE X (.Call (.Attribute a "get" p) [b] [] pos) (TE_ R W (evE E (.dget ca cb))) := by
 refine PE.imp (pe_dget1 (by omega) ha hb m) fun σ H Q q => ?_
 have := imp_op2p (P := fun x H1 => ∃ a, x = .ref a ∧ IsD H1 a) (pre := isDct) (f := dgetS) (fun x sx F H g σ r v hp => ?_) res_dget q
 ·refine ⟨this.choose, this.choose_spec.choose, this.choose_spec.choose_spec.1, wp_mono this.choose_spec.choose_spec.2 (fun (o, g1) k v F' H' r st h => ?_) fun _ z => z⟩
  obtain ⟨⟨a1, e1, hd⟩, h2⟩ := k v F' H' r st h
  refine ⟨a1, e1, hd, h2.choose, h2.choose_spec.choose, h2.choose_spec.choose_spec.1, wp_mono h2.choose_spec.choose_spec.2 (fun (o, g1) k v F' H' r st h => ?_) fun _ z => z⟩
  obtain ⟨a2, o2, e2, h3, h4⟩ := k v F' H' r st h
  rw [e1] at e2
  cases e2
  exact ⟨o2, h3, h4⟩
 ·obtain ⟨dx, m, n⟩ := sx
  cases dx with
  | dct ks xs =>
   obtain ⟨p, kvs, rfl, h1, h2⟩ := v.as_dct
   exact ⟨p, rfl, .inl ⟨kvs, h1⟩⟩
  | _ => cases hp
theorem ops_views (r : Rel R F g σ H) : ∀ {xs : List V} {os : List Op} {ss : List Sl}, Paired (fun v o => OpAt R F σ v o) xs os → os.mapM (·.get g) = some ss → Paired (fun x (s : Sl) => View R.K (FN R.H0 F s.n) H x s.d) xs ss
 | _, [], ss, .nil, e => by
  have : some [] = some ss := e
  cases this
  exact .nil
 | _, o :: os, ss, .cons h t, e => by
  rw [List.mapM_cons] at e
  cases q : o.get g with
  | none => rw [q] at e; cases e
  | some s =>
   cases q2 : os.mapM (·.get g) with
   | none => rw [q, q2] at e; cases e
   | some rs =>
    rw [q, q2] at e
    cases e
    exact .cons (OpAt.view h r q) (ops_views r t q2)
theorem imp_bi {bi : BI} {Q : VK} (q : TE_ R W (evE E (.bi bi cs)) σ H Q) : tCB (rBI bi R.K) (TOs_ R W (evOs E cs)) σ H Q := by
 obtain ⟨F, g, rl, q⟩ := q
 refine ⟨F, g, rl, wp_mono (wp_bnd q) (fun (os, g1) q1 vs F1 H1 r1 st1 o1 => ?_) fun _ z => z⟩
 cases e : os.mapM (·.get g1) with
 | none => simp only [e] at q1; exact q1.elim
 | some ss =>
  simp only [e] at q1
  cases e2 : biD bi ss with
  | none => simp only [e2] at q1; exact q1.elim
  | some s =>
   simp only [e2] at q1
   exact res_bi bi vs ss s F1 H1 g1 σ g F H Q r1 st1 (ops_views r1 o1 e) e2 q1
theorem boot_bi (b : BI) : bootBuiltins b.nm = some b.val := by cases b <;> decide +kernel
theorem nm_bi (b : BI) : b.nm ≠ "__name__" ∧ (b.nm == ("__debug__" : Str)) = false := by cases b <;> decide +kernel
theorem pe_bi_ {bi : BI} {x : Str} {p : Pos} (gd : X.A.guards = some []) (hu : X.A.units + 80 < cLine) (hx : x = bi.nm) (hc : X.calm = true) (hK : X.K = R.K) (hg : Gl X x) (hm : X.mg x = none) (h : PA X (e :: es) (TOs_ R W (evOs E cs)))
  (he : starEach (e :: es) X.env = (false, eval e X.env) :: starEach es X.env) (hpl : (backTo pos (starEach es X.env)).any (·.1) = false) : PE X (.Call (.Name x p) (e :: es) [] pos) (TE_ R W (evE E (.bi bi cs))) := by
 subst hx
 have hr := call_bi gd hu hc bi
 have hb := boot_bi bi
 cases hv : bi.val with
 | builtin id =>
  rw [hv] at hr hb
  exact PE.imp (pe_callB hr hg hm hb h (nm_bi bi).1 (nm_bi bi).2 he hpl) fun σ H Q q => by rw [hK]; exact imp_bi q
 | type T =>
  rw [hv] at hr hb
  exact PE.imp (pe_callTy hr hg hm hb h (nm_bi bi).1 (nm_bi bi).2 he hpl) fun σ H Q q => by rw [hK]; exact imp_bi q
 | _ => cases bi <;> cases hv
def TP_ (R : Fr) (W : XK) (ev : G → M (Option Int × G)) : TO := fun σ H Q => ∃ F g, Rel R F g σ H ∧
 wp (ev g) (fun (k, g') => ∀ F' H', Rel R F' g' σ H' → Step g σ F H g' F' H' → Q k H') (ExW R W)
theorem PO.imp {o : Option Expr} {t t' : TO} (h : PO X o t) (i : ∀ σ H Q, t' σ H Q → t σ H Q) : PO X o t' := ⟨fun pins s σ H Q I q => h.run pins s σ H Q I (i σ H Q q)⟩
theorem po_none_ : PO X none (TP_ R W (evP E none)) := PO.imp po_none fun σ H Q ⟨F, g, r, q⟩ => q F H r (Step.refl g σ F H)
theorem po_some_ (h : PE X e (TE_ R W (evE E c))) : PO X (some e) (TP_ R W (evP E (some c))) := PO.imp (po_some (pe_frz h)) fun σ H Q ⟨F, g, r, q⟩ => by
 refine ⟨F, g, r, wp_mono (wp_bnd q) (fun (s, g1) q1 v F1 H1 r1 st1 h1 => ?_) fun _ z => z⟩
 dsimp only at q1 h1
 split at q1
 ·rename_i i hs
  rw [hs] at h1
  cases h1
  exact ⟨i, rfl, q1 F1 H1 r1 st1⟩
 ·exact q1.elim
theorem cutD_map {α β : Type} (f : α → β) (xs : List α) (lo hi : Option Int) : cutD (xs.map f) lo hi = (cutD xs lo hi).map f := by
 unfold cutD
 rw [List.length_map, List.map_take, List.map_drop]
theorem cutV_eq (xs : List V) (lo hi : Option Int) : cutV xs lo hi = cutD xs lo hi := rfl
theorem cutD_whole {α : Type} (xs : List α) (lo hi : Option Int) (h : HT.sIx xs.length 0 lo = 0 ∧ HT.sIx xs.length xs.length hi = xs.length) : cutD xs lo hi = xs := by
 unfold cutD
 rw [h.1, h.2]
 simp
theorem pe_slc_ {lo hi : Option Expr} {cl ch : Option C} {p2 : Pos} (hK : X.K = R.K) (ha : PE X a (TO_ R W (opd ca (evE E ca)))) (hl : PO X lo (TP_ R W (evP E cl))) (hh : PO X hi (TP_ R W (evP E ch))) :
  PE X (.Subscript a (.Slice lo hi none p2) pos) (TE_ R W (evE E (.slc ca cl ch))) := by
 refine PE.imp (pe_slice (SlR.or sl_list sl_tupA) ha hl hh) fun σ H Q ⟨F, g, r, q⟩ => ?_
 refine ⟨F, g, r, wp_mono (wp_bnd q) (fun (oa, g1) q1 x F1 H1 r1 st1 o1 => ⟨F1, g1, r1, wp_mono (wp_bnd q1) (fun (l, g2) q2 F2 H2 r2 st2 => ⟨F2, g2, r2, wp_mono (wp_bnd q2) (fun (h, g3) q3 F3 H3 r3 st3 => ?_) fun _ z => z⟩) fun _ z => z⟩) fun _ z => z⟩
 have st := (st1.trans st2).trans st3
 cases e : oa.get g3 with
 | none => simp only [e] at q3; exact q3.elim
 | some s =>
  simp only [e] at q3
  cases e2 : slcS l h s with
  | none => simp only [e2] at q3; exact q3.elim
  | some t =>
   simp only [e2] at q3
   have vx := ((o1.mono st2.exF).mono st3.exF).view r3 e
   obtain ⟨dx, m, n⟩ := s
   have e3 : (D.slc dx l h).map (fun d => match d with
    | .lst xs => (⟨.lst xs, .ow, n || (D.lst xs).kidsAtom⟩ : Sl)
    | d => ⟨d, .fr, n⟩) = some t := e2
   rw [hK]
   cases dx with
   | lst xs =>
    cases e3
    obtain ⟨p, vs, rfl, h1, h2⟩ := vx.as_lst
    refine .inl ⟨p, vs, rfl, SqL.of h1, fun z hz => kont_ow q3 r3 st hz ?_⟩
    rw [cutV_eq]
    cases hk : (D.lst (cutD xs l h)).kidsAtom with
    | true => exact .lst upd_same (atL_atom (h2.ycut l h) hk)
    | false => rw [Bool.or_false]; exact .lst upd_same (h2.ycut l h)
   | tup xs =>
    cases e3
    obtain ⟨p, vs, rfl, h1, h2, h3⟩ := vx.as_tup
    refine .inr ⟨p, vs, rfl, SqT.of h1, fun hw => ?_, fun _ z hz => kont_tup q3 r3 st hz (h2.ycut l h)⟩
    rw [h2.length] at hw
    rw [cutD_whole xs l h hw] at q3
    exact kont_fr q3 r3 st h3
   | scr ns =>
    cases e3
    obtain ⟨p, rfl, h1⟩ := vx.as_scr
    refine .inl ⟨p, _, rfl, h1, fun z hz => kont_ow q3 r3 st hz ?_⟩
    rw [cutV_eq, cutD_map]
    exact .lst upd_same (at_ints _)
   | _ => cases e3
end
def KdOk (K : PySem.W.Frag) (w : World) (mg : Str → Option Value) (E : Ev) : Prop := ∀ x kvs, E.kd x = some kvs → mg x = some (.ref (He.ga K x)) ∧ (∃ es n, KDict K w (He.ga K x) es n) ∧
 ∀ z, match kvs.lookup z with
  | some ss => ∃ b, PySem.W.nsIn K (He.ga K x) z = some (some (.ref b)) ∧ SqT K (fun _ => none) b (ss.map V.str)
  | none => PySem.W.nsIn K (He.ga K x) z = some none
section
variable {X : Cx} {R : Fr} {W : XK} {E : Ev} {a : Expr} {ca : C} {x : Str} {pos p : Pos}
theorem pe_kget_ (hk : KdOk R.K X.w X.mg E) (hK : X.K = R.K) (hg : Gl X x) (hd : (x == ("__debug__" : Str)) = false) (hx : (E.kd x).isSome = true) (ha : PE X a (TO_ R W (opd ca (evE E ca)))) (hp : PlainIx a) : PE X (.Subscript (.Name x p) a pos) (TE_ R W (evE E (.kget x ca))) := by
 obtain ⟨kvs, hkv⟩ := Option.isSome_iff_exists.mp hx
 obtain ⟨hm, ⟨es, n, D⟩, hz⟩ := hk x kvs hkv
 refine PE.imp (pe_ix (ix_kdict) (pe_glob hg hm (v := .ref (He.ga R.K x)) rfl hd) ha hp) fun σ H Q q => ?_
 show tOp (L2.rIxD X.K X.w) (tC _) _ σ H Q
 have key : Res1 R (fun y H Q => L2.rIxD X.K X.w (.ref (He.ga R.K x)) y H Q) (kgetS E x) := fun y ⟨dy, m, nn⟩ s F H g σ g0 F0 H0 Q r st vy e k => by
  cases dy with
  | str z =>
   unfold kgetS at e
   dsimp only at e
   rw [hkv] at e
   dsimp only at e
   have hzz := hz z
   cases hl : kvs.lookup z with
   | none => rw [hl] at e; cases e
   | some ss =>
    rw [hl] at e hzz
    cases e
    obtain ⟨b, h1, h2⟩ := hzz
    exact ⟨_, z, .ref b, rfl, vy.as_str, ⟨es, n, _, by rw [hK]; exact D.at_, D.lit, by rw [hK]; exact h1, rfl⟩, kont_fr k r st (.ktup h2)⟩
  | _ => cases e
 exact imp_op1 key q
theorem pe_kin_ {neg : Bool} {o : CmpOp} (ho : o = if neg then .NotIn else .In) (hk : KdOk R.K X.w X.mg E) (hK : X.K = R.K) (hg : Gl X x) (hd : (x == ("__debug__" : Str)) = false) (hx : (E.kd x).isSome = true) (ha : PE X a (TO_ R W (opd ca (evE E ca)))) :
  PE X (.Compare a [o] [.Name x p] pos) (TE_ R W (evE E (.kin neg x ca))) ∧ PT X (.Compare a [o] [.Name x p] pos) (TT_ R W (tst (.kin neg x ca) (evE E (.kin neg x ca)))) := by
 subst ho
 obtain ⟨kvs, hkv⟩ := Option.isSome_iff_exists.mp hx
 obtain ⟨hm, ⟨es, n, D⟩, hz⟩ := hk x kvs hkv
 have DX : KDict X.K X.w (He.ga R.K x) es n := by rw [hK]; exact D
 have hn : PE X (.Name x p) (tC (.ref (He.ga R.K x))) := pe_glob hg hm (v := .ref (He.ga R.K x)) rfl hd
 have op : OpR X (compareOp (if neg then .NotIn else .In)) (fun y z H Q => ∃ (t : Str) (r : Option Value), y = .str t ∧ z = .ref (He.ga R.K x) ∧ PySem.W.nsIn X.K (He.ga R.K x) t = some r ∧ Q (.bl (if neg then !r.isSome else r.isSome)) H) := by
  cases neg
  ·exact op_in_kd DX
  ·exact op_notIn_kd DX
 have key : Res1 R (fun y H Q => ∃ (t : Str) (r : Option Value), y = .str t ∧ V.ref (He.ga R.K x) = .ref (He.ga R.K x) ∧ PySem.W.nsIn X.K (He.ga R.K x) t = some r ∧ Q (.bl (if neg then !r.isSome else r.isSome)) H) (kinS E neg x) := fun y ⟨dy, m, nn⟩ s F H g σ g0 F0 H0 Q r st vy e k => by
  cases dy with
  | str z =>
   unfold kinS at e
   dsimp only at e
   rw [hkv] at e
   cases e
   have hzz := hz z
   cases hl : kvs.lookup z with
   | none =>
    rw [hl] at hzz k
    exact ⟨z, none, vy.as_str, rfl, by rw [hK]; exact hzz, kont_fr k r st (.bl _)⟩
   | some ss =>
    rw [hl] at hzz k
    obtain ⟨b, h1, h2⟩ := hzz
    exact ⟨z, some _, vy.as_str, rfl, by rw [hK]; exact h1, kont_fr k r st (.bl _)⟩
  | _ => cases e
 have hbl : ∀ g s g', evE E (.kin neg x ca) g = some (.ok (s, g')) → ∃ k, s = atm (.bl k) := fun g s g' e => by
  have e' : op1 ca (evE E ca) (kinS E neg x) g = some (.ok (s, g')) := e
  unfold op1 at e'
  cases e1 : opd ca (evE E ca) g with
  | none => rw [e1] at e'; cases e'
  | some o =>
   cases o with
   | ex c => rw [e1] at e'; cases e'
   | ok q =>
    obtain ⟨oa, g1⟩ := q
    rw [e1] at e'
    simp only [bnd_ok] at e'
    split at e'
    ·split at e'
     ·rename_i hs
      cases e'
      unfold kinS at hs
      split at hs
      ·split at hs
       ·cases hs; exact ⟨_, rfl⟩
       ·cases hs
      ·cases hs
     ·cases e'
    ·cases e'
 refine ⟨PE.imp (pe_cmpR op ha hn rfl) fun σ H Q q => imp_op1 key q, PT.imp (pt_cmpR op ha hn rfl) fun σ H Q q => ?_⟩
 exact imp_op1 key (tt_te (fun i z => by cases z) hbl q)
end
end Y
namespace L2
open PySem PySem.Spec
def rCntB : V → List V → Hp → VK → Prop := fun x vs H Q => ∃ (l : Addr) (bs : List Bool) (b : Bool), x = .ref l ∧ vs = [.bl b] ∧ H l = some (.lst (bs.map V.bl)) ∧ Q (.int ((bs.countP fun y => decide (y = b) : Nat) : Int)) H
theorem vals_bl : ∀ {bs : List Bool} {us : List Value}, Vals (bs.map V.bl) us → us = bs.map Value.bool
 | [], _, h => by cases h; rfl
 | b :: bs, _, h => by
  rw [List.map_cons] at h
  cases h with
  | cons r t =>
   cases r
   rw [vals_bl t]
   rfl
theorem mt_countB {X : Cx} (hu : X.A.units + 2 < cLine) : MtM X "list.count" rCntB := by
 intro pins s σ H x vs v us Q I rx rv h
 obtain ⟨l, bs, b, rfl, rfl, hH, q⟩ := h
 cases rx
 obtain ⟨u, rfl, ru⟩ := rv.one
 cases ru
 obtain ⟨z, its, n, r, hl, e⟩ := I.lstM hH
 have hits := vals_bl r
 subst hits
 refine PySem.W.count_list_datum (α := Bool) (xs := bs) (x := b) (vs := (bs.map Value.bool).toArray) ⟨_, e, rfl, n, rfl⟩ ?_ (PySem.W.holds_bool b) (by show X.A.units + 1 + 0 < cLine; omega) ⟨.int _, H, I.tok _, ⟨_, rfl⟩, q⟩
 have key : ∀ cs : List Bool, PySem.W.HoldAll s.heap (cs.map Value.bool) cs := by
  intro cs
  induction cs with
  | nil => exact PySem.W.HoldAll.nil
  | cons c cs ih => exact PySem.W.HoldAll.cons (PySem.W.holds_bool c) ih
 simpa using key bs
end L2
namespace Y
open PySem PySem.Spec L2
def rCntB' : R2 := fun x y H Q => rCntB x [y] H Q
theorem blsOf_ok {K : PySem.W.Frag} {F : Hp} : ∀ {ds : List D} {vs : List V} {bs : List Bool}, Paired (At K F) vs ds → blsOf ds = some bs → vs = bs.map V.bl
 | [], _, bs, .nil, h => by cases h; rfl
 | d :: ds, _, bs, .cons r t, h => by
  cases d with
  | bl b =>
   have h' : (blsOf ds).map (b :: ·) = some bs := h
   cases q : blsOf ds with
   | none => rw [q] at h'; cases h'
   | some cs =>
    rw [q] at h'
    cases h'
    cases r
    rw [blsOf_ok t q]
    rfl
  | _ => cases h
section
variable {X : Cx} {R : Fr} {W : XK} {E : Ev} {a b : Expr} {ca cb : C} {pos : Pos}
theorem res_cnt : Res2 R rCntB' cntS := by
 intro x y ⟨dx, mx, nx⟩ ⟨dy, my, ny⟩ s F H g σ g0 F0 H0 Q r st vx vy e k
 cases dx with
 | lst ds =>
  cases dy with
  | bl t =>
   have e' : (blsOf ds).map (fun bs => atm (.int ((bs.countP fun z => decide (z = t) : Nat) : Int))) = some s := e
   cases q : blsOf ds with
   | none => rw [q] at e'; cases e'
   | some bs =>
    rw [q] at e'
    cases e'
    obtain ⟨p, vs, rfl, h1, h2⟩ := vx.as_lst
    have := blsOf_ok h2 q
    subst this
    have := vy.as_bl
    subst this
    exact ⟨p, bs, t, rfl, rfl, h1, kont_fr k r st (.int _)⟩
  | _ => cases e
 | _ => cases e
theorem pe_cnt_ {p : Pos} (hu : X.A.units + 140 < cLine) (hK : X.K = R.K) (ha : PE X a (TO_ R W (opd ca (evE E ca)))) (hb : PE X b (TO_ R W (opd cb (evE E cb))))
  (hbase : attributeBase a "count" X.env (eval a X.env) = eval a X.env)
  (hfew : ((backTo pos (starEach (b :: []) X.env)).all (fun x => !x.1) && (backToKw pos (keywordEach [] X.env)).all (fun x => x.1.isSome)
   && decide ((b :: []).length + ([] : List Keyword).length + (if ([] : List Keyword).isEmpty then 0 else 1) < 30)) = true)
  (hline : (p.endLine == pos.line) = true) (hs : starEach (b :: []) X.env = (false, eval b X.env) :: starEach [] X.env) (hplain : (backTo pos (starEach [] X.env)).any (·.1) = false) :
  PE X (.Call (.Attribute a "count" p) [b] [] pos) (TE_ R W (evE E (.cnt ca cb))) := by
 refine PE.imp (pe_bm PySem.F.plainAttrs_list PySem.F.slot_list_count PySem.F.type_list_count (mt_countB (by omega)) ha (pa_cons hb pa_nil hs) hbase hfew hline hs hplain) fun σ H Q q => ?_
 have := imp_op2p (P := fun x H1 => tyV X.K "list" x H1) (pre := isLst) (f := cntS) (fun x sx F H g σ r v hp => ?_) res_cnt q
 ·rw [hK]
  rw [hK] at this
  exact this
 ·obtain ⟨dx, m, n⟩ := sx
  cases dx with
  | lst xs =>
   obtain ⟨p, vs, rfl, h1, h2⟩ := v.as_lst
   exact .inl ⟨rfl, _, SqL.of h1⟩
  | _ => cases hp
end
end Y
namespace Y
open PySem PySem.Spec PyProof.Rows L2
structure Room (k : Nat) (A : Around) : Prop where
 hd : A.handled = none
 dp : A.depth + k + 40 < recursionLimit
 un : A.units + 16 * k + 300 < cLine
theorem Room.mono {j k : Nat} {A : Around} (r : Room k A) (h : j ≤ k) : Room j A := ⟨r.hd, by have := r.dp; omega, by have := r.un; omega⟩
theorem Room.deeper {k : Nat} {A : Around} (r : Room (k + 1) A) (env : Env) : Room k (A.deeper env) :=
 ⟨r.hd, by have := r.dp; show A.depth + 1 + k + 40 < _; omega, by have := r.un; show A.units + 3 + 16 * k + 300 < _; omega⟩
theorem Room.in1 {k : Nat} {A : Around} (r : Room (k + 1) A) : Room k A.in1 :=
 ⟨r.hd, by have := r.dp; show A.depth + k + 40 < _; omega, by have := r.un; show A.units + 1 + 16 * k + 300 < _; omega⟩
theorem Room.make {k : Nat} {A : Around} (r : Room (k + 1) A) (C : Addr) (us : List Value) (kw : List (Str × Value)) : Room k (A.under (.builtin "type.__call__" ⟨.ref C :: us, kw⟩)) :=
 ⟨r.hd, by have := r.dp; rw [make_depth]; omega, by have := r.un; rw [make_units]; omega⟩
theorem Room.depth {k : Nat} {A : Around} (r : Room k A) : A.depth < recursionLimit := by have := r.dp; omega
theorem Room.units {k : Nat} {A : Around} (r : Room k A) : A.units + 64 < cLine := by have := r.un; omega
structure FnG (P : Program) (w : World) (K : PySem.W.Frag) (mg : Str → Option Value) (base : Heap) (CX : CXT) (k : Nat) (f : Addr) (fd : FuncData) (ps : List Str) (sp : Sp) : Prop where
 long : ∀ vs H Q E, sp vs H Q E → vs.length = ps.length
 go : ∀ (A : Around), A.guards = some [] → ∀ (outer : List Env) (s : Shared) (H : Hp) (args : Args) (us : List Value) (vs : List V) (Q : VK) (E : XK), Room k A → Env0 P w K mg base A outer s H → BindsTo s fd args (ps.zip us) → Vals vs us → sp vs H Q E →
  codeAny (model P w) A (.call (.ref f) args) (CR CX outer P w H s Q E) s
section
variable {X : Cx} {CX : CXT} {k : Nat} {f C : Addr} {fd : FuncData} {ps : List Str} {sp : Sp} {dvs : List V} {ds : List Value} {E : XK} {x : Str} {p pos : Pos} {e : Expr} {es : List Expr} {t : TA}
theorem run_fnG {pins : List (Addr × Obj)} {σ : L2.St} {H : Hp} {s : Shared} {Q : VK} {us : List Value} {vs : List V} (F : FnG X.prog X.w X.K X.mg X.base CX k f fd ps sp) (gd : X.A.guards = some []) (rm : Room k X.A) (bi : Binds X.K fd ps ds) (vd : Vals dvs ds) (xp : Passes CX X E)
  (I : Inv X pins σ H s) (vr : Vals vs us) (q : sp (vs ++ dvs) H Q E) : wpAny (model X.prog X.w) X.A (call (.ref f) us) (EP X pins σ Q) X.xe s := by
 have both := vr.append vd
 have len : (us ++ ds).length = ps.length := both.length.symm.trans (F.long _ _ _ _ q)
 refine wpAny_call (codeAny_mono (F.go X.A gd X.stack s H ⟨us, []⟩ _ _ Q E rm I.env0 (bi s us I.kIn len) both q) ?_)
 intro r1 s1 z
 match r1, z with
 | .error u, z => exact xp pins σ H s u s1 I z
 | .ok (.ret u), z => exact I.after z
 | .ok .next, z => exact z.elim
 | .ok .brk, z => exact z.elim
 | .ok .cont, z => exact z.elim
theorem pe_call0G (F : FnG X.prog X.w X.K X.mg X.base CX k f fd ps sp) (gd : X.A.guards = some []) (rm : Room k X.A) (gl : Gl X x) (mx : X.mg x = some (.ref f)) (kp : PySem.W.keepIn X.K (.ref f) = true) (bi : Binds X.K fd ps ds) (vd : Vals dvs ds) (xp : Passes CX X E) (nd : (x == ("__debug__" : Str)) = false) :
  PE X (.Call (.Name x p) [] [] pos) (tCall sp dvs E tNil) :=
 ⟨fun pins s σ H Q I q => wpAny_Call_Name_kw (ld_glob I gl mx (PySem.W.callWith_K0 I.kIn kp (run_fnG (us := []) F gd rm bi vd xp I .nil q)) nd)⟩
theorem make_guards {A : Around} (C : Addr) (us : List Value) (kw : List (Str × Value)) : (A.under (.builtin "type.__call__" ⟨.ref C :: us, kw⟩)).guards = A.guards := by
 unfold Around.under
 cases A.guards <;> rfl
theorem run_makeG {pins : List (Addr × Obj)} {σ : L2.St} {H : Hp} {s : Shared} {Q : VK} {us : List Value} {vs : List V} (M : Mk X.K C f) (F : FnG X.prog X.w X.K X.mg X.base CX k f fd ps sp) (gd : X.A.guards = some []) (rm : Room (k + 1) X.A) (bi : Binds X.K fd ps ds) (vd : Vals dvs ds)
  (xp : Passes CX X E) (I : Inv X pins σ H s) (vr : Vals vs us)
  (q : ∀ y dx, H y = none → H dx = none → dx ≠ y → sp (.ref y :: (vs ++ dvs)) (upd (upd H dx (.own y)) y (.ins C dx [])) (fun v H2 => v = .non ∧ Q (.ref y) H2) E) :
  wpAny (model X.prog X.w) X.A (call (.ref C) us) (EP X pins σ Q) X.xe s := by
 have q1 := q (s.heap.objs.size + 1) s.heap.objs.size (I.hok.fresh (Nat.le_succ _)) (I.hok.fresh (Nat.le_refl _)) (Nat.ne_of_lt (Nat.lt_succ_self _))
 have J := Inv.made (C := C) I
 have both : Vals (V.ref (s.heap.objs.size + 1) :: (vs ++ dvs)) (Value.ref (s.heap.objs.size + 1) :: (us ++ ds)) := .cons rfl (vr.append vd)
 have len : (Value.ref (s.heap.objs.size + 1) :: us ++ ds).length = ps.length := both.length.symm.trans (F.long _ _ _ _ q1)
 have run := F.go _ ((make_guards C us []).trans gd) X.stack _ _ ⟨Value.ref (s.heap.objs.size + 1) :: us, []⟩ (Value.ref (s.heap.objs.size + 1) :: (us ++ ds)) _ _ E (rm.make C us []) (J.env0.make C us []) (bi _ (Value.ref (s.heap.objs.size + 1) :: us) J.kIn len) both q1
 refine wpAny_call (make_map (f := f) I.kIn M.makes M.init (beq_iff_eq.mp M.fn) (codeAny_mono run ?_))
 intro r1 s1 z
 match r1, z with
 | .error u, z => exact xp pins σ _ _ u s1 J z
 | .ok (.ret u), z =>
  obtain ⟨v, H1, J1, rv, ev, z1⟩ := J.after z
  subst ev
  exact ⟨rv, V.ref (s.heap.objs.size + 1), H1, J1, rfl, z1⟩
 | .ok .next, z => exact z.elim
 | .ok .brk, z => exact z.elim
 | .ok .cont, z => exact z.elim
theorem pe_makeG (M : Mk X.K C f) (F : FnG X.prog X.w X.K X.mg X.base CX k f fd ps sp) (gd : X.A.guards = some []) (rm : Room (k + 1) X.A) (gl : Gl X x) (mx : X.mg x = some (.ref C)) (bi : Binds X.K fd ps ds) (vd : Vals dvs ds) (xp : Passes CX X E)
  (ha : PA X (e :: es) t) (nd : (x == ("__debug__" : Str)) = false) (st : starEach (e :: es) X.env = (false, eval e X.env) :: starEach es X.env) (pl : (backTo pos (starEach es X.env)).any (·.1) = false) :
  PE X (.Call (.Name x p) (e :: es) [] pos) (tMake C sp dvs E t) :=
 ⟨fun pins s σ H Q I q => wpAny_Call_Name_kw (ld_glob I gl mx (PySem.W.callWith_K (h₀ := X.base) I.ok.mod.kin M.kp (thn (ha.run pos pins s σ H _ I q) fun us s1 ⟨vs, H1, I1, vr, q1⟩ => ⟨I1.kIn, run_makeG M F gd rm bi vd xp I1 vr q1⟩) st pl) nd)⟩
theorem pe_make0G (M : Mk X.K C f) (F : FnG X.prog X.w X.K X.mg X.base CX k f fd ps sp) (gd : X.A.guards = some []) (rm : Room (k + 1) X.A) (gl : Gl X x) (mx : X.mg x = some (.ref C)) (bi : Binds X.K fd ps ds) (vd : Vals dvs ds) (xp : Passes CX X E) (nd : (x == ("__debug__" : Str)) = false) :
  PE X (.Call (.Name x p) [] [] pos) (tMake C sp dvs E tNil) :=
 ⟨fun pins s σ H Q I q => wpAny_Call_Name_kw (ld_glob I gl mx (PySem.W.callWith_K0 I.kIn M.kp (run_makeG (us := []) M F gd rm bi vd xp I .nil q)) nd)⟩
end
section
variable {P : Program} {w : World} {K : PySem.W.Frag} {mg : Str → Option Value} {base : Heap} {x qual : Str} {params : Arguments} {body : List Stmt} {scope : Scope} {dvs : List V} {kws : List (Str × V)} {f : Addr} {fd : FuncData}
def codeV (K : PySem.W.Frag) (f : Addr) : Value := match K.lookup f with
 | some ⟨_, _, .func fd, _⟩ => fd.code
 | _ => .none
theorem FunD.okG {CX : CXT} {N ps : List Str} {k : Nat} {sp : Sp} (F : FunD K x qual params body scope dvs kws f fd) (S : FnScope N ps scope) (long : ∀ vs H Q E, sp vs H Q E → vs.length = ps.length)
  (hb : ∀ (cdv : Value), codeV K f = cdv → ∀ (A : Around), A.guards = some [] → ∀ (outer : List Env) (s : Shared) (H : Hp) (vs : List V) (Q : VK) (E : XK), Room k (A.deeper (envOfC qual scope s.heap.objs.size f cdv)) → sp vs H Q E →
   ∃ t, PSs (cxOf CX P w K mg base N qual scope f cdv A outer s H E) body t ∧ t { nx := fun _ H1 => Q .non H1, rt := Q } (start N vs) H) : FnG P w K mg base CX (k + 1) f fd ps sp := by
 obtain ⟨oc, od, dV, kV, doc, pm, an, cdv, ct, osl, rfl, lk, cd, _, _⟩ := F.ex
 refine ⟨long, ?_⟩
 intro A gd outer s H args us vs Q E rm e0 bt vr q
 have n := long _ _ _ _ q
 have KX : K.In s.heap := e0.mod.kin.keeps fun a o z => (e0.bs a o z).1
 have nl : s.heap.NoLimit := e0.mod.nolimit.keeps fun a o z => (e0.bs a o z).1
 have kinds : ∀ y ∈ ps.zip us, scope.names.lookup y.1 = some .local ∨ (scope.names.lookup y.1 = some .cell ∧ ((cellsFrom (s.heap.objs.size + 1) scope.names []).lookup y.1).isSome = true) := by
  intro y hy
  rcases S.par y.1 (List.of_mem_zip hy).1 with z | z
  ·exact .inl z
  ·exact .inr ⟨z, PySem.W.cellsFrom_some _ _ _ (.inl z)⟩
 refine codeAny_call_function rm.depth (KX _ _ lk) rfl S.co S.gen rfl (PySem.W.codeRec_of KX cd) (bt _ _ _ _ (wpAny_newFunctionEnv_cells S.kind kinds ?_))
 intro env he s1 z
 subst he
 refine ⟨nl.keeps z.toInCall.keep, codeAny_func ?_⟩
 obtain ⟨t, ht, hq⟩ := hb cdv (by unfold codeV; rw [lk]) A gd outer s H vs Q E (rm.deeper _) q
 have J : Inv (cxOf CX P w K mg base N qual scope f cdv A outer s H E) [] (L2.start N vs) H s1 := inv_start S rm.hd e0 n vr z
 refine wpAny_mono (ht.run [] s1 (L2.start N vs) H _ J hq) (fun fl s2 hs => ?_) fun u s2 hs => hs
 have fin : ∀ {σ' : L2.St} {H' : Hp} {v : V} {u : Value}, Inv (cxOf CX P w K mg base N qual scope f cdv A outer s H E) [] σ' H' s2 → RelV v u → Q v H' → CE outer P w H s Q u s2 :=
  fun {σ' H' v u} J1 rv z1 => ⟨v, H', J1.os, J1.bare, J1.base, J1.hok, rv, z1⟩
 match fl, hs with
 | .ret u, ⟨v, σ1, H1, J1, rv, z1⟩ => exact fin J1 rv z1
 | .next, ⟨σ1, H1, J1, z1⟩ => exact fin (v := V.non) (u := Value.none) J1 rfl z1
 | .brk, ⟨_, _, _, z1⟩ => exact z1.elim
 | .cont, ⟨_, _, _, z1⟩ => exact z1.elim
end
end Y
namespace Y
open PySem PySem.Spec L2
abbrev Fn := List D → M (Sl × Option (D × Bool))
inductive ArgAt (K : PySem.W.Frag) (F H : Hp) (io : Option Nat) : Nat → List V → List D → Prop
 | nil {j : Nat} : ArgAt K F H io j [] []
 | val {j : Nat} {v : V} {d : D} {vs : List V} {ds : List D} : io ≠ some j → At K F v d → ArgAt K F H io (j + 1) vs ds → ArgAt K F H io j (v :: vs) (d :: ds)
 | io {j : Nat} {p : Addr} {d : D} {vs : List V} {ds : List D} : io = some j → F p = none → Top K F H p d → ArgAt K F H io (j + 1) vs ds → ArgAt K F H io j (.ref p :: vs) (d :: ds)
def ioA (io : Option Nat) (vs : List V) : Option Addr := match io with
 | none => none
 | some j => match vs[j]? with
  | some (.ref p) => some p
  | _ => none
structure CallPost (K : PySem.W.Frag) (F H F' H' : Hp) (io : Option Addr) (v : V) (r : Sl) (o : Option (D × Bool)) : Prop where
 exF : Same F F'
 ex : Same F' H'
 tb : Tb K F' H'
 fr : ∀ b u, H b = some u → nt u → io ≠ some b → H' b = some u
 nF : ∀ b, F b = none → (H b).isSome = true → F' b = none
 there : ∀ b, (H b).isSome = true → (H' b).isSome = true
 res : match r.m with
  | .fr => At K (FN H F' r.n) v r.d
  | .ow => ∃ p, v = .ref p ∧ H p = none ∧ F' p = none ∧ Top K (FN H F' r.n) H' p r.d
  | .io => False
 io : ∀ p, io = some p → ∃ dn, o = some dn ∧ F' p = none ∧ Top K (FN H F' dn.2) H' p dn.1
def dnKeys : List Key := [.inr "told", .inr "most", .inr "asks", .inr "chain", .inr "end"]
def dnD (T : D) (m k : Int) (ch : List D) (e : D) : D := .dct dnKeys [T, .int m, .int k, .lst ch, e]
def dnKv (vt : V) (m k : Int) (c : Addr) (ve : V) : List (Key × V) := [(.inr "told", vt), (.inr "most", .int m), (.inr "asks", .int k), (.inr "chain", .ref c), (.inr "end", ve)]
structure DnAt (K : PySem.W.Frag) (F H : Hp) (a c : Addr) (T : D) (m k : Int) (ch : List D) (e : D) : Prop where
 fa : F a = none
 fc : F c = none
 ne : a ≠ c
 at_ : ∃ vt ve vs, H a = some (.dK (dnKv vt m k c ve)) ∧ H c = some (.lst vs) ∧ At K F vt T ∧ At K F ve e ∧ Paired (At K F) vs ch
def spDn (K : PySem.W.Frag) (np : Nat) (sem : Fn) : Sp := fun vs H Q E => ∃ F ds a c T m k ch e vs', vs = .ref a :: vs' ∧ Same F H ∧ Tb K F H ∧ vs.length = np ∧ DnAt K F H a c T m k ch e ∧ Paired (At K F) vs' ds ∧
 wp (sem (dnD T m k ch e :: ds)) (fun (r, o) => ∃ T' m' k' ch' e' nn, o = some (dnD T' m' k' ch' e', nn) ∧ r.m = .fr ∧ ∀ v F' H', Same F F' → Same F' H' → Tb K F' H' → (∀ b u, H b = some u → nt u → b ≠ a → b ≠ c → H' b = some u) →
  (∀ b, F b = none → (H b).isSome = true → F' b = none) → (∀ b, (H b).isSome = true → (H' b).isSome = true) → At K F' v r.d → DnAt K F' H' a c T' m' k' ch' e' → Q v H') (fun _ => False)
def spO (K : PySem.W.Frag) (io : Option Nat) (np : Nat) (sem : Fn) : Sp := fun vs H Q E => ∃ F ds, Same F H ∧ Tb K F H ∧ vs.length = np ∧ ArgAt K F H io 0 vs ds ∧
 wp (sem ds) (fun (r, o) => ∀ v F' H', CallPost K F H F' H' (ioA io vs) v r o → Q v H') (fun c => ∀ d F' H', XdOk K F' H' c d → Same F F' → Same F' H' → Tb K F' H' → (∀ b, F b = none → (H b).isSome = true → F' b = none) → (∀ b u, H b = some u → nt u → ioA io vs ≠ some b → H' b = some u) → (∀ b, (H b).isSome = true → (H' b).isSome = true) → E (.ref (He.ga K c.c)) d H')
def spD (K : PySem.W.Frag) (io : Option Nat) (np : Nat) (sem : Fn) : Sp := if io = some 100 then spDn K np sem else spO K io np sem
theorem spD_old {K : PySem.W.Frag} {io : Option Nat} {np : Nat} {sem : Fn} (h : io ≠ some 100) : spD K io np sem = spO K io np sem := if_neg h
theorem spD_dn {K : PySem.W.Frag} {np : Nat} {sem : Fn} : spD K (some 100) np sem = spDn K np sem := if_pos rfl
theorem ioLt_no {io : Option Nat} {n : Nat} (h : ioLt io n = true) : io ≠ some 100 ∧ ∀ k, io = some k → k < n := by
 cases io with
 | none => exact ⟨by simp, fun k z => by cases z⟩
 | some j =>
  unfold ioLt at h
  rw [Bool.and_eq_true, decide_eq_true_eq, decide_eq_true_eq] at h
  exact ⟨fun z => h.2 (Option.some.inj z), fun k z => by cases z; exact h.1⟩
section
variable {R : Fr} {F H F' H' F0 H0 : Hp} {g g0 : G} {σ : L2.St} {v : V} {r : Sl} {o : Option (D × Bool)}
theorem Rel.calledA {io : Option Addr} (rl : Rel R F g σ H) (p : CallPost R.K F H F' H' io v r o) (st : Step g0 σ F0 H0 g F H) (r0 : Rel R F0 g0 σ H0) (hio : ∀ a, io = some a → ¬ Own g σ a ∧ H0 a = none) : Rel R F' g σ H' ∧ Step g0 σ F0 H0 g F' H' := by
 refine ⟨⟨rl.len, fun i s hi => ?_, rl.dis, p.ex, fun b u h hnt n => p.fr b u (rl.keep b u h hnt n) hnt fun e => ?_, fun b h => p.there b (rl.there b h), rl.ios, rl.iog, rl.f0.trans p.exF, fun b q1 q2 => p.nF b (rl.fn b q1 q2) (rl.there b q2), p.tb⟩, ⟨st.exF.trans p.exF, fun b u h t n => p.fr b u (st.fr b u h t n) t fun e => ?_, fun b h1 h2 n => p.nF b (st.nF b h1 h2 n) (st.there b h2), st.own, fun b h => p.there b (st.there b h)⟩⟩
 ·obtain ⟨w, h1, h2⟩ := rl.at_ i s hi
  refine ⟨w, h1, slAt_mono h2 p.exF (fun hm q e z => ?_) fun hm q e => ?_⟩
  ·subst e
   obtain ⟨_, u, hu⟩ := rl.own_some (b := q) ⟨i, s, hi, hm, h1⟩
   exact p.nF q z (by rw [hu]; rfl)
  ·subst e
   have ow : Own g σ q := ⟨i, s, hi, hm, h1⟩
   obtain ⟨_, u, hu, nu⟩ := rl.own_someN ow
   rw [hu]
   exact p.fr q u hu nu fun e => (hio q e).1 ow
 ·rw [(r0.fresh (hio b e).2).2.1] at h; cases h
 ·rw [(hio b e).2] at h; cases h
theorem Rel.calledB {i : Nat} {a : Addr} {t : Sl} {dn : D × Bool} (rl : Rel R F g σ H) (p : CallPost R.K F H F' H' (some a) v r (some dn)) (hi : g.get i = some t) (hm : t.m ≠ .fr) (hv : σ[i]? = some (some (.ref a))) :
  Rel R F' (g.put i ⟨dn.1, t.m, dn.1.kidsAtom⟩) σ H' ∧ Step g σ F H (g.put i ⟨dn.1, t.m, dn.1.kidsAtom⟩) F' H' := by
 obtain ⟨dn', e, hF, hT⟩ := p.io a rfl
 cases e
 have ow : Own g σ a := ⟨i, t, hi, hm, hv⟩
 have hT' : Top R.K (FN R.H0 F' dn.1.kidsAtom) H' a dn.1 := by
  cases hk : dn.1.kidsAtom with
  | true => exact hT.atoms hk
  | false => rw [FN_false]; exact hT.mono FN_le rfl
 have hsl : SlAt R F' H' i (.ref a) ⟨dn.1, t.m, dn.1.kidsAtom⟩ := by
  obtain ⟨w, h1, h2⟩ := rl.at_ i t hi
  rw [hv] at h1
  cases h1
  obtain ⟨d, m, n⟩ := t
  cases m with
  | fr => exact absurd rfl hm
  | ow =>
   obtain ⟨q, e, _, h4, _⟩ := h2
   cases e
   exact ⟨a, rfl, hF, h4, hT'⟩
  | io =>
   obtain ⟨q, e, _, h4, _⟩ := h2
   cases e
   exact ⟨a, rfl, hF, h4, hT'⟩
 have own0 : ∀ j s, (g.put i ⟨dn.1, t.m, dn.1.kidsAtom⟩).get j = some s → s.m ≠ .fr → ∃ s', g.get j = some s' ∧ s'.m ≠ .fr := fun j s hj hs => by
  by_cases e : j = i
  ·subst e; exact ⟨t, hi, hm⟩
  ·rw [G.get_put_ne e] at hj; exact ⟨s, hj, hs⟩
 refine ⟨⟨rl.len.trans G.put_len.symm, fun j s hj => ?_, fun x y s u q hx hy hs hu px py => ?_, p.ex, fun b u h hnt n => p.fr b u (rl.keep b u h hnt n) hnt fun e => ?_, fun b h => p.there b (rl.there b h), rl.ios, fun q hq => ?_, rl.f0.trans p.exF, fun b q1 q2 => p.nF b (rl.fn b q1 q2) (rl.there b q2), p.tb⟩, ⟨p.exF, fun b u h t n => p.fr b u h t fun e => n (by cases e; exact ow), fun b h1 h2 n => p.nF b h1 h2, fun b z => z.put_le hi fun _ => hm, p.there⟩⟩
 ·by_cases e : j = i
  ·subst e
   rw [G.get_put_self hi] at hj
   cases hj
   exact ⟨_, hv, hsl⟩
  ·rw [G.get_put_ne e] at hj
   obtain ⟨w, h1, h2⟩ := rl.at_ j s hj
   refine ⟨w, h1, slAt_mono h2 p.exF (fun hms q eq z => ?_) fun hms q eq => ?_⟩
   ·subst eq
    obtain ⟨_, u, hu⟩ := rl.own_some (b := q) ⟨j, s, hj, hms, h1⟩
    exact p.nF q z (by rw [hu]; rfl)
   ·subst eq
    obtain ⟨_, u, hu, nu⟩ := rl.own_someN (b := q) ⟨j, s, hj, hms, h1⟩
    rw [hu]
    refine p.fr q u hu nu fun eq => ?_
    cases eq
    exact e (rl.dis j i s t a hj hi hms hm h1 hv)
 ·obtain ⟨s', a1, a2⟩ := own0 x s hx hs
  obtain ⟨t', b1, b2⟩ := own0 y u hy hu
  exact rl.dis x y s' t' q a1 b1 a2 b2 px py
 ·cases e
  obtain ⟨w, h1, h2⟩ := rl.at_ i t hi
  rw [hv] at h1
  cases h1
  obtain ⟨d, m, nn⟩ := t
  cases m with
  | fr => exact absurd rfl hm
  | ow =>
   obtain ⟨q, e, _, h4, _⟩ := h2
   cases e
   rw [h4] at h
   cases h
  | io =>
   obtain ⟨q, e, _, h4, _⟩ := h2
   cases e
   exact n _ h4 rfl
 ·obtain ⟨s, h1, h2, h3⟩ := rl.iog q hq
  by_cases e : q.1 = i
  ·rw [e] at h1
   rw [hi] at h1
   cases h1
   rw [e]
   exact ⟨_, G.get_put_self hi, h2, by rw [← e]; exact h3⟩
  ·exact ⟨s, by rw [G.get_put_ne e]; exact h1, h2, h3⟩
theorem CallPost.resAt {io : Option Addr} {g' : G} (p : CallPost R.K F H F' H' io v r o) (rl : Rel R F g σ H) (st : Step g0 σ F0 H0 g F H) (ho : ∀ b, Own g' σ b → Own g σ b) : ResAt R g' σ H0 F' H' v ⟨r.d, r.m, r.n || r.d.atom⟩ := by
 have hres := p.res
 have le : ∀ n, Same (FN H F' n) (FN R.H0 F' n) := fun n => FN_sub rl.there
 obtain ⟨d, m, n⟩ := r
 cases m with
 | fr =>
  have h1 : At R.K (FN H F' n) v d := hres
  exact At.sub (At.mono (le n) _ _ h1)
 | ow =>
  obtain ⟨q, rfl, h1, h2, h3⟩ := hres
  refine ⟨q, rfl, st.gone h1, h2, fun z => ?_, ?_⟩
  ·obtain ⟨_, u, hu⟩ := rl.own_some (ho q z)
   rw [h1] at hu
   cases hu
  ·have h4 : Top R.K (FN R.H0 F' n) H' q d := h3.mono (le n) rfl
   show Top R.K (FN R.H0 F' (n || d.atom)) H' q d
   have : d.atom = false := by cases h3 <;> rfl
   rw [this, Bool.or_false]
   exact h4
 | io => exact hres.elim
end
def ArAt (R : Fr) (F H H0 : Hp) (g : G) (σ : L2.St) (v : V) : Ar → Prop
 | .val s => At R.K (FN R.H0 F s.n) v s.d
 | .slot i => σ[i]? = some (some v)
 | .tmp s => ∃ p, v = .ref p ∧ H0 p = none ∧ F p = none ∧ ¬ Own g σ p ∧ Top R.K (FN R.H0 F s.n) H p s.d
inductive ArsAt (P : V → Ar → Prop) (io : Option Nat) : Nat → List V → List Ar → Prop
 | nil {j : Nat} : ArsAt P io j [] []
 | cons {j : Nat} {v : V} {a : Ar} {vs : List V} {as : List Ar} : P v a → ((io = some j) ↔ (∀ s, a ≠ .val s)) → ArsAt P io (j + 1) vs as → ArsAt P io j (v :: vs) (a :: as)
theorem ArsAt.imp {P P' : V → Ar → Prop} {io : Option Nat} (h : ∀ v a, P v a → P' v a) : ∀ {j : Nat} {vs : List V} {as : List Ar}, ArsAt P io j vs as → ArsAt P' io j vs as
 | _, _, _, .nil => .nil
 | _, _, _, .cons r k t => .cons (h _ _ r) k (ArsAt.imp h t)
def TA_ (R : Fr) (W : XK) (io : Option Nat) (j : Nat) (ev : G → M (List Ar × G)) : TA := fun σ H Q => ∃ F g, Rel R F g σ H ∧
 wp (ev g) (fun (as, g') => ∀ vs F' H', Rel R F' g' σ H' → Step g σ F H g' F' H' → ArsAt (ArAt R F' H' H g' σ) io j vs as → Q vs H') (ExW R W)
def TA1_ (R : Fr) (W : XK) (io : Option Nat) (j : Nat) (ev : G → M (Ar × G)) : TE := fun σ H Q => ∃ F g, Rel R F g σ H ∧
 wp (ev g) (fun (a, g') => ∀ v F' H', Rel R F' g' σ H' → Step g σ F H g' F' H' → ArAt R F' H' H g' σ v a → ((io = some j) ↔ (∀ s, a ≠ .val s)) → Q v H') (ExW R W)
section
variable {X : Cx} {R : Fr} {W : XK} {E : Ev} {e : Expr} {es : List Expr} {c : C} {cs : List C} {io : Option Nat} {j : Nat} {F H F' H' H0 : Hp} {g g' : G} {σ : L2.St}
theorem ArAt.mono {v : V} {a : Ar} (h : ArAt R F H H0 g σ v a) (r : Rel R F g σ H) (st : Step g σ F H g' F' H') : ArAt R F' H' H0 g' σ v a := by
 cases a with
 | val s => exact At.mono (FN_mono st.exF) _ _ h
 | slot i => exact h
 | tmp s =>
  obtain ⟨p, rfl, h1, h2, h3, h4⟩ := h
  obtain ⟨u, hu⟩ := h4.is
  exact ⟨p, rfl, h1, st.nF p h2 (by rw [hu]; rfl) h3, fun z => h3 (st.own p z), h4.mono (FN_mono st.exF) (by rw [hu]; exact st.fr p u hu (h4.nt hu) h3)⟩
theorem ArAt.before {v : V} {a : Ar} {g1 : G} {F1 H1 : Hp} (h : ArAt R F' H' H1 g' σ v a) (st : Step g σ F H g1 F1 H1) : ArAt R F' H' H g' σ v a := by
 cases a with
 | val s => exact h
 | slot i => exact h
 | tmp s =>
  obtain ⟨p, rfl, h1, h2⟩ := h
  exact ⟨p, rfl, st.gone h1, h2⟩
theorem pe_arg (h : PE X e (TE_ R W (evE E c))) (ho : PE X e (TO_ R W (opd c (evE E c)))) : PE X e (TA1_ R W io j (arg1 io j c (evE E c))) := by
 by_cases hj : io = some j
 ·have h1 : arg1 io j c (evE E c) = fun g => match c with
   | .var i => match g.get i with
    | some ⟨_, .fr, _⟩ => none
    | some _ => some (.ok (Ar.slot i, g))
    | none => none
   | _ => M.bnd (evE E c g) fun (s, g1) => if s.m = .ow then some (.ok (Ar.tmp s, g1)) else none := by
   funext g
   unfold arg1
   rw [if_pos hj]
   cases c <;> rfl
  rw [h1]
  by_cases hc : ∃ i, c = .var i
  ·obtain ⟨i, rfl⟩ := hc
   refine PE.imp ho fun σ H Q ⟨F, g, r, q⟩ => ⟨F, g, r, ?_⟩
   dsimp only at q
   unfold opd
   cases e1 : g.get i with
   | none => rw [e1] at q; exact q.elim
   | some s =>
    rw [e1] at q
    dsimp only
    rw [e1]
    intro v F' H' r' st hv
    obtain ⟨d, m, n⟩ := s
    cases m with
    | fr => exact q.elim
    | ow => exact q v F' H' r' st hv ⟨fun _ s z => (by cases z), fun _ => hj⟩
    | io => exact q v F' H' r' st hv ⟨fun _ s z => (by cases z), fun _ => hj⟩
  ·refine PE.imp h fun σ H Q ⟨F, g, r, q⟩ => ⟨F, g, r, ?_⟩
   have q' : wp (M.bnd (evE E c g) fun (s, g1) => if s.m = .ow then some (.ok (Ar.tmp s, g1)) else none) (fun (a, g') => ∀ v F' H', Rel R F' g' σ H' → Step g σ F H g' F' H' → ArAt R F' H' H g' σ v a → ((io = some j) ↔ (∀ s, a ≠ .val s)) → Q v H') (ExW R W) := by
    cases c <;> first | exact q | exact absurd ⟨_, rfl⟩ hc
   refine wp_mono (wp_bnd q') (fun (s, g1) q1 v F1 H1 r1 st1 h1 => ?_) fun _ z => z
   dsimp only at q1
   split at q1
   ·rename_i hm
    obtain ⟨d, m, n⟩ := s
    cases (show m = .ow from hm)
    obtain ⟨p, rfl, h2, h3, h4, h5⟩ := h1
    exact q1 _ F1 H1 r1 st1 ⟨p, rfl, h2, h3, h4, h5⟩ ⟨fun _ s z => (by cases z), fun _ => hj⟩
   ·exact q1.elim
 ·have h1 : arg1 io j c (evE E c) = fun g => M.bnd (evE E c g) fun (s, g1) => some (.ok (Ar.val s.frz, g1)) := by
   funext g
   unfold arg1
   rw [if_neg hj]
  rw [h1]
  refine PE.imp (pe_frz h) fun σ H Q ⟨F, g, r, q⟩ => ⟨F, g, r, wp_mono (wp_bnd q) (fun (s, g1) q1 v F1 H1 r1 st1 h1 => ?_) fun _ z => z⟩
  exact q1 v F1 H1 r1 st1 h1 ⟨fun z => absurd z hj, fun z => absurd rfl (z s.frz)⟩
theorem pa_a_nil : PA X [] (TA_ R W io j (evA E io j [])) := PA.imp pa_nil fun σ H Q ⟨F, g, r, q⟩ => q [] F H r (Step.refl g σ F H) .nil
theorem pa_a_cons (h : PE X e (TA1_ R W io j (arg1 io j c (evE E c)))) (hs : PA X es (TA_ R W io (j + 1) (evA E io (j + 1) cs))) (st : starEach (e :: es) X.env = (false, eval e X.env) :: starEach es X.env) : PA X (e :: es) (TA_ R W io j (evA E io j (c :: cs))) := by
 refine PA.imp (pa_cons h hs st) fun σ H Q ⟨F, g, r, q⟩ => ?_
 refine ⟨F, g, r, wp_mono (wp_bnd q) (fun (a, g1) q1 v F1 H1 r1 st1 h1 hk => ⟨F1, g1, r1, wp_mono (wp_bnd q1) (fun (as, g2) q2 vs F2 H2 r2 st2 h2 => ?_) fun _ z => z⟩) fun _ z => z⟩
 exact q2 (v :: vs) F2 H2 r2 (st1.trans st2) (.cons (h1.mono r1 st2) hk (h2.imp fun _ _ z => z.before st1))
end
end Y
namespace Y
open PySem PySem.Spec L2
section
variable {R : Fr} {W : XK} {E : Ev} {io : Option Nat} {F H F1 H1 : Hp} {g g1 : G} {σ : L2.St}
theorem ioOf_spec {P : V → Ar → Prop} : ∀ {j : Nat} {vs : List V} {as : List Ar}, ArsAt P io j vs as → match ioOf as with
  | none => ∀ k, io = some (j + k) → vs.length ≤ k
  | some (some i) => ∃ k v, io = some (j + k) ∧ vs[k]? = some v ∧ P v (.slot i)
  | some none => ∃ k v s, io = some (j + k) ∧ vs[k]? = some v ∧ P v (.tmp s)
 | j, _, _, .nil => fun k _ => Nat.zero_le _
 | j, _, _, .cons (v := v) (a := a) (vs := vs) (as := as) h hk t => by
  cases a with
  | slot i => exact ⟨0, v, hk.mpr fun s z => (by cases z), rfl, h⟩
  | tmp s => exact ⟨0, v, s, hk.mpr fun s z => (by cases z), rfl, h⟩
  | val s =>
   have hne : io ≠ some j := fun z => (hk.mp z) s rfl
   have ih := ioOf_spec t
   show match ioOf as with
    | none => ∀ k, io = some (j + k) → (v :: vs).length ≤ k
    | some (some i) => ∃ k w, io = some (j + k) ∧ (v :: vs)[k]? = some w ∧ P w (.slot i)
    | some none => ∃ k w s, io = some (j + k) ∧ (v :: vs)[k]? = some w ∧ P w (.tmp s)
   cases q : ioOf as with
   | none =>
    rw [q] at ih
    intro k hk
    cases k with
    | zero => exact absurd hk hne
    | succ k =>
     have := ih k (by rw [hk]; congr 1; omega)
     simpa using this
   | some o =>
    rw [q] at ih
    cases o with
    | none =>
     obtain ⟨k, w, s, h1, h2, h3⟩ := ih
     exact ⟨k + 1, w, s, by rw [h1]; congr 1; omega, by simpa using h2, h3⟩
    | some i =>
     obtain ⟨k, w, h1, h2, h3⟩ := ih
     exact ⟨k + 1, w, by rw [h1]; congr 1; omega, by simpa using h2, h3⟩
theorem args_of (rl : Rel R F g σ H) {H0 : Hp} {dvs : List V} {more : List D} (hd : Paired (At R.K (fun _ => none)) dvs more) : ∀ {j : Nat} {vs : List V} {as : List Ar} {ds : List D}, ArsAt (ArAt R F H H0 g σ) io j vs as → (∀ k, io = some k → k < j + vs.length) → arsD g as = some ds →
  ArgAt R.K F H io j (vs ++ dvs) (ds ++ more)
 | j, _, _, ds, .nil, hio, e => by
  cases e
  have go : ∀ (dvs : List V) (more : List D), Paired (At R.K (fun _ => none)) dvs more → ∀ j, (∀ k, io = some k → k < j) → ArgAt R.K F H io j dvs more := by
   intro dvs more hp
   induction hp with
   | nil => intro j _; exact .nil
   | cons r t ih =>
    intro j hj
    exact .val (fun z => absurd (hj j z) (Nat.lt_irrefl _)) (At.mono (fun b o z => by cases z) _ _ r) (ih (j + 1) fun k z => Nat.lt_succ_of_lt (hj k z))
  exact go dvs more hd j (by simpa using hio)
 | j, _, _, ds, .cons (v := v) (a := a) (vs := vs) (as := as) h hk t, hio, e => by
  have e' : (match a.d g, arsD g as with
   | some d, some ds => some (d :: ds)
   | _, _ => none) = some ds := e
  cases q1 : a.d g with
  | none => rw [q1] at e'; cases e'
  | some d =>
   cases q2 : arsD g as with
   | none => rw [q1, q2] at e'; cases e'
   | some rs =>
    rw [q1, q2] at e'
    cases e'
    have ih := args_of rl hd t (fun k z => by have := hio k z; rw [List.length_cons] at this; omega) q2
    cases a with
    | val s =>
     cases q1
     exact .val (fun z => (hk.mp z) s rfl) (At.mono FN_le _ _ h) ih
    | slot i =>
     have q1' : (match g.get i with | some s => if s.m = .fr then none else some s.d | none => none) = some d := q1
     cases q3 : g.get i with
     | none => rw [q3] at q1'; cases q1'
     | some s =>
      rw [q3] at q1'
      dsimp only at q1'
      split at q1'
      ·cases q1'
      ·rename_i hm
       cases q1'
       obtain ⟨w, h1, h2⟩ := rl.at_ i s q3
       have h' : σ[i]? = some (some v) := h
       rw [h'] at h1
       cases h1
       obtain ⟨p, rfl, h3, h4⟩ := slAt_own h2 hm
       exact .io (hk.mpr fun s z => (by cases z)) h3 (h4.mono FN_le rfl) ih
    | tmp s =>
     cases q1
     obtain ⟨p, rfl, h1, h2, h3, h4⟩ := h
     exact .io (hk.mpr fun s z => (by cases z)) h2 (h4.mono FN_le rfl) ih
theorem ars_len {P : V → Ar → Prop} : ∀ {j : Nat} {vs : List V} {as : List Ar}, ArsAt P io j vs as → vs.length = as.length
 | _, _, _, .nil => rfl
 | _, _, _, .cons _ _ t => by rw [List.length_cons, List.length_cons, ars_len t]
theorem call_sp {fn : Fn} {np : Nat} {vs dvs : List V} {as : List Ar} {more : List D} {Q : VK} (rl : Rel R F1 g1 σ H1) (st : Step g σ F H g1 F1 H1) (r0 : Rel R F g σ H) (hA : ArsAt (ArAt R F1 H1 H g1 σ) io 0 vs as)
  (hd : Paired (At R.K (fun _ => none)) dvs more)
  (q : wp (doCall fn io np more as g1) (fun (s, g') => ∀ v F' H', Rel R F' g' σ H' → Step g σ F H g' F' H' → ResAt R g' σ H F' H' v s → Q v H') (ExW R W)) : spD R.K io np fn (vs ++ dvs) H1 Q W := by
 unfold doCall at q
 by_cases hcond : as.length + more.length = np ∧ ioLt io as.length = true
 rotate_left
 ·rw [if_neg hcond] at q; exact q.elim
 rw [if_pos hcond] at q
 have hn : (vs ++ dvs).length = np := by rw [List.length_append, ars_len hA, hd.length]; exact hcond.1
 have hio : ∀ k, io = some k → k < vs.length := fun k z => by
  rw [ars_len hA]
  have := hcond.2
  exact (ioLt_no this).2 k z
 rw [spD_old (ioLt_no hcond.2).1]
 cases e : arsD g1 as with
 | none => rw [e] at q; exact q.elim
 | some ds =>
  rw [e] at q
  have hArg := args_of rl hd hA (by simpa using hio) e
  have hsp := ioOf_spec hA
  have hioA : ∀ k v, io = some k → vs[k]? = some v → ioA io (vs ++ dvs) = (match v with | .ref p => some p | _ => none) := fun k v h1 h2 => by
   unfold ioA
   rw [h1]
   have hk : k < vs.length := (List.getElem?_eq_some_iff.mp h2).1
   simp only [List.getElem?_append_left hk, h2]
   cases v <;> rfl
  refine ⟨F1, ds ++ more, rl.ex, rl.tb, hn, hArg, wp_mono (wp_bnd q) (fun (r, o) q1 v F' H' post => ?_) fun c hw d F' H' xd eF eH tb nF fr th => hw d F' H' xd (rl.f0.trans eF) eH tb (fun b q1 q2 => nF b (rl.fn b q1 q2) (rl.there b q2)) (fun b u h1 ht h2 => fr b u (rl.keep b u h1 ht h2) ht fun eq => ?_) fun b q => th b (rl.there b q)⟩
  ·dsimp only at q1
   cases q2 : ioOf as with
   | none =>
    rw [q2] at q1 hsp
    have hnone : ioA io (vs ++ dvs) = none := by
     unfold ioA
     cases h : io with
     | none => rfl
     | some k => exact absurd (hio k h) (Nat.not_lt.mpr (hsp k (by rw [h]; simp)))
    rw [hnone] at post
    cases o with
    | none =>
     obtain ⟨r', st'⟩ := rl.calledA post st r0 fun a z => by cases z
     exact q1 v F' H' r' st' (post.resAt rl st fun b z => z)
    | some _ => exact q1.elim
   | some oi =>
    rw [q2] at q1 hsp
    cases oi with
    | none =>
     obtain ⟨k, w, s, h1, h2, p, rfl, h3, h4, h5, h6⟩ := hsp
     rw [hioA k _ (by simpa using h1) h2] at post
     cases o with
     | none => exact q1.elim
     | some dn =>
      obtain ⟨r', st'⟩ := rl.calledA post st r0 fun a z => by cases z; exact ⟨h5, h3⟩
      exact q1 v F' H' r' st' (post.resAt rl st fun b z => z)
    | some i =>
     obtain ⟨k, w, h1, h2, h3⟩ := hsp
     have h3' : σ[i]? = some (some w) := h3
     cases o with
     | none => exact q1.elim
     | some dn =>
      dsimp only at q1
      cases q3 : g1.get i with
      | none => rw [q3] at q1; exact q1.elim
      | some t =>
       rw [q3] at q1
       dsimp only at q1
       split at q1
       ·exact q1.elim
       ·rename_i hm
        obtain ⟨w', h4, h5⟩ := rl.at_ i t q3
        rw [h3'] at h4
        cases h4
        obtain ⟨p, rfl, h6, h7⟩ := slAt_own h5 hm
        rw [hioA k _ (by simpa using h1) h2] at post
        obtain ⟨r', st'⟩ := rl.calledB post q3 hm h3'
        exact q1 v F' H' r' (st.trans st') (post.resAt rl st fun b z => z.put_le q3 fun _ => hm)
  ·-- an exception: what stood at the entry stands
   cases q2 : ioOf as with
   | none =>
    rw [q2] at hsp
    have hnone : ioA io (vs ++ dvs) = none := by
     unfold ioA
     cases h : io with
     | none => rfl
     | some k => exact absurd (hio k h) (Nat.not_lt.mpr (hsp k (by rw [h]; simp)))
    rw [hnone] at eq
    cases eq
   | some oi =>
    rw [q2] at hsp
    cases oi with
    | none =>
     obtain ⟨k, w, s, h3, h4, p, rfl, h5, h6, h7, h8⟩ := hsp
     rw [hioA k _ (by simpa using h3) h4] at eq
     cases eq
     rw [(r0.fresh h5).2.1] at h1
     cases h1
    | some i =>
     obtain ⟨k, w, h3, h4, h5⟩ := hsp
     have h5' : σ[i]? = some (some w) := h5
     rw [hioA k _ (by simpa using h3) h4] at eq
     cases w with
     | ref p =>
      cases eq
      have : ∃ t, g1.get i = some t ∧ t.m ≠ .fr := by
       have : ∀ (as : List Ar) (ds : List D), arsD g1 as = some ds → ioOf as = some (some i) → ∃ t, g1.get i = some t ∧ t.m ≠ .fr := by
        intro as
        induction as with
        | nil => intro ds _ h; cases h
        | cons a as ih =>
         intro ds h6 h7
         have h6' : (match a.d g1, arsD g1 as with
          | some d, some ds => some (d :: ds)
          | _, _ => none) = some ds := h6
         cases a with
         | val s =>
          cases q4 : arsD g1 as with
          | none => rw [q4] at h6'; simp [Ar.d] at h6'
          | some rs => exact ih rs q4 h7
         | slot i' =>
          cases h7
          cases q4 : g1.get i with
          | none => simp [Ar.d, q4] at h6'
          | some t =>
           refine ⟨t, rfl, fun hm => ?_⟩
           simp [Ar.d, q4, hm] at h6'
         | tmp s => cases h7
       exact this as ds e q2
      obtain ⟨t, h6, h7⟩ := this
      obtain ⟨w', h8, h9⟩ := rl.at_ i t h6
      rw [h5'] at h8
      cases h8
      obtain ⟨d, m, n⟩ := t
      cases m with
      | fr => exact absurd rfl h7
      | ow =>
       obtain ⟨q', e', _, h10, _⟩ := h9
       cases e'
       rw [h10] at h1
       cases h1
      | io =>
       obtain ⟨q', e', _, h10, _⟩ := h9
       cases e'
       exact h2 _ h10 rfl
     | _ => cases eq
end
end Y
namespace Y
open PySem PySem.Spec L2
def CalleeAt (X : Cx) (K : PySem.W.Frag) (E : Ev) (fn : Nat → Fn) (k fid : Nat) (f : Addr) : Prop := ∃ (fd : FuncData) (ps : List Str), ps.length = E.np fid ∧ FnG X.prog X.w X.K X.mg X.base (RX.CX X.prog X.w) k f fd ps (spD K (E.io fid) (E.np fid) (fn fid)) ∧
 ∀ n, n + (moreOf E fid n).length = E.np fid → ∃ (ds : List Value) (dvs : List V), Binds X.K fd ps ds ∧ Vals dvs ds ∧ Paired (At K (fun _ => none)) dvs (moreOf E fid n)
structure BareK (K : PySem.W.Frag) (C : Addr) : Prop where
 makes : PySem.W.makesIn K C = true
 init : PySem.W.findIn K (.ref C) "__init__" = some (some (.builtin "object.__init__"))
 top : PySem.W.mroIn K C (.type "object") = some true
 kp : PySem.W.keepIn K (.ref C) = true
structure Lv (X : Cx) (K : PySem.W.Frag) (E : Ev) (k : Nat) : Prop where
 gl : ∀ x fid, E.gl x = some fid → ∃ f, X.mg x = some (.ref f) ∧ PySem.W.keepIn X.K (.ref f) = true ∧ CalleeAt X K E E.fn k fid f
 mt : ∀ c m fid, E.mt c m = some fid → ∃ f, Cls X.K (He.ga K c) ∧ Meth X.K (He.ga K c) m f ∧ CalleeAt X K E E.fn k fid f
 ini : ∀ c fid, E.ini c = some fid → ∃ f j, j + 1 = k ∧ X.mg c = some (.ref (He.ga K c)) ∧ Mk X.K (He.ga K c) f ∧ CalleeAt X K E E.fm j fid f
 bare : ∀ c, E.bare c = true → X.mg c = some (.ref (He.ga K c)) ∧ BareK X.K (He.ga K c)
section
variable {X : Cx} {R : Fr} {W : XK} {E : Ev} {e : Expr} {es : List Expr} {c co : C} {cs : List C} {pos p apos : Pos} {o : Expr} {k : Nat}
theorem ifNone {α : Type} {C : Prop} [Decidable C] {m : M α} {P : α → Prop} {W : Xc → Prop} (h : wp (if C then m else none) P W) : C ∧ wp m P W := by
 by_cases hc : C
 ·rw [if_pos hc] at h; exact ⟨hc, h⟩
 ·rw [if_neg hc] at h; exact h.elim
theorem doCall_n {fn : Fn} {io : Option Nat} {np : Nat} {more : List D} {as : List Ar} {g : G} {P : Sl × G → Prop} {W : Xc → Prop} (h : wp (doCall fn io np more as g) P W) : as.length + more.length = np := by
 unfold doCall at h
 exact (ifNone h).1.1
theorem evA_len {E : Ev} {io : Option Nat} : ∀ {cs : List C} {j : Nat} {g g' : G} {as : List Ar}, evA E io j cs g = some (.ok (as, g')) → as.length = cs.length
 | [], j, g, g', as, h => by cases h; rfl
 | c :: cs, j, g, g', as, h => by
  have h' : M.bnd (arg1 io j c (evE E c) g) (fun (a, g1) => M.bnd (evA E io (j + 1) cs g1) fun (as, g2) => some (.ok (a :: as, g2))) = some (.ok (as, g')) := h
  cases q : arg1 io j c (evE E c) g with
  | none => rw [q] at h'; cases h'
  | some o =>
   cases o with
   | ex c => rw [q] at h'; cases h'
   | ok p =>
    obtain ⟨a, g1⟩ := p
    rw [q] at h'
    simp only [bnd_ok] at h'
    cases q2 : evA E io (j + 1) cs g1 with
    | none => rw [q2] at h'; cases h'
    | some o =>
     cases o with
     | ex c => rw [q2] at h'; cases h'
     | ok p =>
      obtain ⟨as2, g2⟩ := p
      rw [q2] at h'
      cases h'
      rw [List.length_cons, List.length_cons, evA_len q2]
theorem wp_evA {E : Ev} {io : Option Nat} {cs : List C} {j : Nat} {g : G} {P : List Ar × G → Prop} {W : Xc → Prop} (h : wp (evA E io j cs g) P W) : wp (evA E io j cs g) (fun p => p.1.length = cs.length ∧ P p) W := by
 cases q : evA E io j cs g with
 | none => rw [q] at h; exact h
 | some o =>
  rw [q] at h
  cases o with
  | ex c => exact h
  | ok p => obtain ⟨as, g1⟩ := p; exact ⟨evA_len q, h⟩
theorem pe_callD {x : Str} {f : Addr} {fd : FuncData} {ps : List Str} {sp : Sp} {t : TA} {CX : CXT} {E : XK} (F : FnG X.prog X.w X.K X.mg X.base CX k f fd ps sp) (gd : X.A.guards = some []) (hr : Room k X.A) (hg : Gl X x) (hm : X.mg x = some (.ref f)) (hk : PySem.W.keepIn X.K (.ref f) = true)
  (hx : Passes CX X E) (ha : PA X (e :: es) t) (hdb : (x == ("__debug__" : Str)) = false) (he : starEach (e :: es) X.env = (false, eval e X.env) :: starEach es X.env) (hpl : (backTo pos (starEach es X.env)).any (·.1) = false) :
  PE X (.Call (.Name x p) (e :: es) [] pos) (fun σ H Q => t σ H fun vs H1 => ∃ ds dvs, Binds X.K fd ps ds ∧ Vals dvs ds ∧ sp (vs ++ dvs) H1 Q E) := by
 refine ⟨fun pins s σ H Q I h => ?_⟩
 refine wpAny_Call_Name_kw (ld_glob I hg hm ?_ hdb)
 refine PySem.W.callWith_K (h₀ := X.base) I.ok.mod.kin hk (thn (ha.run pos pins s σ H _ I h) fun us s1 ⟨vs, H1, I1, r, ds, dvs, hb, hd, q⟩ => ⟨I1.kIn, ?_⟩) he hpl
 exact run_fnG F gd hr hb hd hx I1 r q
theorem pe_methD {m : Str} {pl : Sem Bool} {ta : TE} {t : TA} {CX : CXT} {E : XK} (he : PE X o ta) (gd : X.A.guards = some []) (hr : Room k X.A) (hx : Passes CX X E) (ha : PA X (e :: es) t)
  (hst : starEach (e :: es) X.env = (false, eval e X.env) :: starEach es X.env) (hpl : (backTo pos (starEach es X.env)).any (·.1) = false)
  (ht : eval (.Call (.Attribute o m apos) (e :: es) [] pos) X.env = (do
   let ov ← eval o X.env
   standAt apos.atName
   let (f, first) ← holding [ov] (getMethod ov m pl)
   callWith pos f first (backTo pos (starEach (e :: es) X.env)) (backToKw pos (keywordEach [] X.env)))) :
  PE X (.Call (.Attribute o m apos) (e :: es) [] pos) (fun σ H Q => ta σ H fun x H1 => ∃ a C dx fs f, x = .ref a ∧ H1 a = some (.ins C dx fs) ∧ Cls X.K C ∧ Meth X.K C m f ∧ fs.lookup m = none ∧
   t σ H1 fun vs H2 => ∃ fd ps sp ds dvs, FnG X.prog X.w X.K X.mg X.base CX k f fd ps sp ∧ Binds X.K fd ps ds ∧ Vals dvs ds ∧ sp (x :: (vs ++ dvs)) H2 Q E) := by
 refine ⟨fun pins s σ H Q I h => ?_⟩
 refine PySem.W.methodCall_KW (pl := pl) (thn (he.run pins s σ H _ I h) fun u s1 ⟨x, H1, I1, rx, a, C, dx, fs, f, ex, ea, c, hm, l, q⟩ => ?_) ht
 subst ex
 obtain rfl : u = Value.ref a := rx
 refine getmeth_ok I1 ea c hm l ?_
 refine PySem.W.callWith_K (first := [.ref a]) (h₀ := X.base) I.ok.mod.kin hm.kp (thn (ha.run pos pins s1 σ H1 _ I1 q) fun us s2 ⟨vs, H2, I2, r, fd, ps, sp, ds, dvs, F, hb, hd, q2⟩ => ⟨I2.kIn, ?_⟩) hst hpl
 exact run_fnG (us := .ref a :: us) (vs := .ref a :: vs) F gd hr hb hd hx I2 (.cons rfl r) q2
theorem pe_call_ {x : Str} {fid : Nat} (hK : X.K = R.K) (tk : RX.Takes X (fun cls d _ H => W cls d H)) (L : Lv X R.K E k) (hx : E.gl x = some fid) (gd : X.A.guards = some []) (hr : Room k X.A) (hg : Gl X x) (ha : PA X (e :: es) (TA_ R W (E.io fid) 0 (evA E (E.io fid) 0 (c :: cs))))
  (hdb : (x == ("__debug__" : Str)) = false) (he : starEach (e :: es) X.env = (false, eval e X.env) :: starEach es X.env) (hpl : (backTo pos (starEach es X.env)).any (·.1) = false) :
  PE X (.Call (.Name x p) (e :: es) [] pos) (TE_ R W (evE E (.call fid (c :: cs)))) := by
 obtain ⟨f, hm, hk, fd, ps, hps, F, hb⟩ := L.gl x fid hx
 refine PE.imp (pe_callD F gd hr hg hm hk (RX.passes_call tk fun _ _ _ _ z => z) ha hdb he hpl) fun σ H Q ⟨F0, g, r, q⟩ => ?_
 refine ⟨F0, g, r, wp_mono (wp_evA (wp_bnd q)) (fun (as, g1) ⟨hlen, q1⟩ vs F1 H1 r1 st1 hA => ?_) fun _ z => z⟩
 have hn := doCall_n q1
 have hl : as.length = (c :: cs).length := hlen
 rw [hl] at hn
 obtain ⟨ds, dvs, b1, b2, b3⟩ := hb (c :: cs).length hn
 exact ⟨ds, dvs, b1, b2, call_sp r1 st1 r hA b3 q1⟩
theorem pe_call0_ {x : Str} {fid : Nat} (hK : X.K = R.K) (tk : RX.Takes X (fun cls d _ H => W cls d H)) (L : Lv X R.K E k) (hx : E.gl x = some fid) (gd : X.A.guards = some []) (hr : Room k X.A) (hg : Gl X x) (hdb : (x == ("__debug__" : Str)) = false) (hn : 0 + (moreOf E fid 0).length = E.np fid) :
  PE X (.Call (.Name x p) [] [] pos) (TE_ R W (evE E (.call fid []))) := by
 obtain ⟨f, hm, hk, fd, ps, hps, F, hb⟩ := L.gl x fid hx
 obtain ⟨ds, dvs, b1, b2, b3⟩ := hb 0 hn
 exact PE.imp (pe_call0G F gd hr hg hm hk b1 b2 (RX.passes_call tk fun _ _ _ _ z => z) hdb) fun σ H Q ⟨F0, g, r, q⟩ => call_sp (vs := []) (as := []) r (Step.refl g σ F0 H) r .nil b3 q
theorem self_of {F H H0 : Hp} {g : G} {σ : L2.St} {v : V} {a : Ar} {m : Str} {fid : Nat} (rl : Rel R F g σ H) (h : ArAt R F H H0 g σ v a) (e : selfFid E m g a = some fid) :
  ∃ c q dx kvs, v = .ref q ∧ H q = some (.ins (He.ga R.K c) dx kvs) ∧ E.mt c m = some fid ∧ kvs.lookup m = none := by
 have main : ∀ d : D, selfD E m d = some fid → View R.K F H v d → ∃ c q dx kvs, v = .ref q ∧ H q = some (.ins (He.ga R.K c) dx kvs) ∧ E.mt c m = some fid ∧ kvs.lookup m = none := fun d hd hv => by
  cases d with
  | obj c fs xs =>
   have hd' : (if fs.contains m then none else E.mt c m) = some fid := hd
   split at hd'
   ·cases hd'
   ·rename_i hc
    obtain ⟨q, dx, kvs, rfl, h1, h2, h3⟩ := hv.as_obj
    refine ⟨c, q, dx, kvs, rfl, h1, hd', lookup_none ?_⟩
    rw [h2]
    intro z
    exact hc (List.contains_iff_mem.mpr z)
  | _ => cases hd
 cases a with
 | val s => exact main s.d e (At.view rl.ex (At.mono FN_le _ _ h))
 | slot i =>
  cases q : g.get i with
  | none => simp only [selfFid, q] at e; cases e
  | some s =>
   simp only [selfFid, q] at e
   obtain ⟨w, h1, h2⟩ := rl.at_ i s q
   have h' : σ[i]? = some (some v) := h
   rw [h'] at h1
   cases h1
   refine main s.d e ?_
   obtain ⟨d, m, n⟩ := s
   cases m with
   | fr => exact At.view rl.ex (At.mono FN_le _ _ h2)
   | ow =>
    obtain ⟨p, rfl, _, _, h4⟩ := h2
    exact .top (h4.mono FN_le rfl)
   | io =>
    obtain ⟨p, rfl, _, _, h4⟩ := h2
    exact .top (h4.mono FN_le rfl)
 | tmp s =>
  obtain ⟨p, rfl, _, _, _, h4⟩ := h
  exact main s.d e (.top (h4.mono FN_le rfl))
theorem pe_meth_ {m : Str} {pl : Sem Bool} {io : Option Nat} (hK : X.K = R.K) (tk : RX.Takes X (fun cls d _ H => W cls d H)) (L : Lv X R.K E k) (gd : X.A.guards = some []) (hr : Room k X.A) (ho : PE X o (TA1_ R W io 0 (arg1 io 0 co (evE E co)))) (ha : PA X (e :: es) (TA_ R W io 1 (evA E io 1 (c :: cs))))
  (hst : starEach (e :: es) X.env = (false, eval e X.env) :: starEach es X.env) (hpl : (backTo pos (starEach es X.env)).any (·.1) = false)
  (ht : eval (.Call (.Attribute o m apos) (e :: es) [] pos) X.env = (do
   let ov ← eval o X.env
   standAt apos.atName
   let (f, first) ← holding [ov] (getMethod ov m pl)
   callWith pos f first (backTo pos (starEach (e :: es) X.env)) (backToKw pos (keywordEach [] X.env)))) :
  PE X (.Call (.Attribute o m apos) (e :: es) [] pos) (TE_ R W (evE E (.meth m io co (c :: cs)))) := by
 refine PE.imp (pe_methD ho gd hr (RX.passes_call tk fun _ _ _ _ z => z) ha hst hpl ht) fun σ H Q ⟨F0, g, r, q⟩ => ?_
 refine ⟨F0, g, r, wp_mono (wp_bnd q) (fun (a, g1) q1 v F1 H1 r1 st1 hA hk => ?_) fun _ z => z⟩
 dsimp only at q1
 cases e1 : selfFid E m g1 a with
 | none => rw [e1] at q1; exact q1.elim
 | some fid =>
  rw [e1] at q1
  obtain ⟨cl, q0, dx, kvs, rfl, h1, h2, h3⟩ := self_of r1 hA e1
  obtain ⟨f, hC, hM, fd, ps, hps, Fk, hb⟩ := L.mt cl m fid h2
  refine ⟨q0, _, dx, kvs, f, rfl, h1, hC, hM, h3, F1, g1, r1, wp_mono (wp_evA (wp_bnd q1)) (fun (as, g2) ⟨hlen, q2⟩ vs F2 H2 r2 st2 hAs => ?_) fun _ z => z⟩
  obtain ⟨hio, q3⟩ := ifNone q2
  have hn := doCall_n q3
  rw [List.length_cons] at hn
  have hl : as.length = (c :: cs).length := hlen
  rw [hl] at hn
  obtain ⟨ds, dvs, b1, b2, b3⟩ := hb ((c :: cs).length + 1) hn
  rw [hio] at Fk
  exact ⟨fd, ps, _, ds, dvs, Fk, b1, b2, call_sp (vs := .ref q0 :: vs) (as := a :: as) r2 (st1.trans st2) r (.cons (hA.mono r1 st2) hk (hAs.imp fun _ _ z => z.before st1)) b3 q3⟩
end
end Y
namespace Y
open PySem PySem.Spec L2
section
variable {X : Cx} {R : Fr} {W : XK} {E : Ev} {e : Expr} {es : List Expr} {c co : C} {cs : List C} {pos p apos : Pos} {o : Expr} {k : Nat}
theorem new_sp {σ : L2.St} {cl : Str} {fid : Nat} {F H F1 H1 : Hp} {g g1 : G} {as : List Ar} {vs dvs : List V} {more : List D} {Q : VK} {n : Nat} (hmore : more = moreOf E fid n) (hio : E.io fid = some 0) (hnp : as.length + 1 + more.length = E.np fid)
  (rl : Rel R F1 g1 σ H1) (st : Step g σ F H g1 F1 H1) (r0 : Rel R F g σ H) (hA : ArsAt (ArAt R F1 H1 H g1 σ) (some 0) 1 vs as) (hd : Paired (At R.K (fun _ => none)) dvs more)
  (q : wp (match arsD g1 as with
   | some ds => M.bnd (E.fm fid (.obj cl [] [] :: (ds ++ more))) fun (r, o) => match r.d, o with
    | .non, some dn => some (.ok ((⟨dn.1, .ow, dn.2 || dn.1.kidsAtom⟩ : Sl), g1))
    | _, _ => none
   | none => none) (fun (s, g') => ∀ v F' H', Rel R F' g' σ H' → Step g σ F H g' F' H' → ResAt R g' σ H F' H' v s → Q v H') (ExW R W))
  (x dx : Addr) (nx : H1 x = none) (nd : H1 dx = none) (ne : dx ≠ x) :
  spD R.K (some 0) (E.np fid) (E.fm fid) (.ref x :: (vs ++ dvs)) (upd (upd H1 dx (.own x)) x (.ins (He.ga R.K cl) dx [])) (fun v H2 => v = .non ∧ Q (.ref x) H2) W := by
 have r2 : Rel R F1 g1 σ (upd H1 dx (.own x)) := rl.alloc nd
 have nx2 : upd H1 dx (.own x) x = none := by rw [upd_ne (Ne.symm ne)]; exact nx
 have r3 : Rel R F1 g1 σ (upd (upd H1 dx (.own x)) x (.ins (He.ga R.K cl) dx [])) := r2.alloc nx2
 have st3 : Step g σ F H g1 F1 (upd (upd H1 dx (.own x)) x (.ins (He.ga R.K cl) dx [])) := (st.trans (.alloc rl nd)).trans (.alloc r2 nx2)
 obtain ⟨f0, h0, no⟩ := rl.fresh nx
 cases e : arsD g1 as with
 | none => rw [e] at q; exact q.elim
 | some ds =>
  rw [e] at q
  have hArg0 : ArgAt R.K F1 H1 (some 0) 1 (vs ++ dvs) (ds ++ more) := args_of rl hd hA (fun k z => by cases z; omega) e
  have keepT : ∀ {a : Addr} {d : D}, Top R.K F1 H1 a d → Top R.K F1 (upd (upd H1 dx (.own x)) x (.ins (He.ga R.K cl) dx [])) a d := fun {a d} h => by
   obtain ⟨u, hu⟩ := h.is
   exact h.mono (Same.refl _) (by rw [upd_ne (ne_of_none hu nx), upd_ne (ne_of_none hu nd)])
  have hArg : ∀ {j : Nat} {vs : List V} {ds : List D}, ArgAt R.K F1 H1 (some 0) j vs ds → ArgAt R.K F1 (upd (upd H1 dx (.own x)) x (.ins (He.ga R.K cl) dx [])) (some 0) j vs ds := fun {j vs ds} h => by
   induction h with
   | nil => exact .nil
   | val h1 h2 _ ih => exact .val h1 h2 ih
   | io h1 h2 h3 _ ih => exact .io h1 h2 (keepT h3) ih
  refine ⟨F1, .obj cl [] [] :: (ds ++ more), r3.ex, r3.tb, ?_, .io rfl f0 (.obj upd_same rfl .nil) (hArg hArg0), wp_mono (wp_bnd q) (fun (r, o) q1 v F' H' post => ?_) fun c hw d F' H' xd eF eH tb nF fr th => hw d F' H' xd (r3.f0.trans eF) eH tb (fun b q1 q2 => nF b (r3.fn b q1 q2) (r3.there b q2)) (fun b u h1 ht h2 => fr b u (r3.keep b u h1 ht h2) ht fun eq => ?_) fun b q => th b (r3.there b q)⟩
  ·rw [List.length_cons, List.length_append, ars_len hA, hd.length]
   omega
  ·have hioA : ioA (some 0) (V.ref x :: (vs ++ dvs)) = some x := rfl
   rw [hioA] at post
   obtain ⟨dr, mr, nr⟩ := r
   cases o with
   | none => dsimp only at q1; split at q1 <;> first | exact q1.elim | (rename_i h; cases h)
   | some dn =>
    have hnon : dr = .non := by
     dsimp only at q1
     split at q1
     ·rfl
     ·exact q1.elim
    subst hnon
    have hv : v = .non := by
     have hres := post.res
     cases mr with
     | fr => have h1 : At R.K (FN _ F' nr) v .non := hres; cases h1; rfl
     | ow =>
      obtain ⟨q', rfl, _, _, h3⟩ := hres
      cases h3
     | io => exact hres.elim
    obtain ⟨r', st'⟩ := r3.calledA post st3 r0 fun a z => by cases z; exact ⟨no, st.gone nx⟩
    refine ⟨hv, ?_⟩
    obtain ⟨dn', e2, hF, hT⟩ := post.io x rfl
    cases e2
    refine q1 _ F' H' r' st' ⟨x, rfl, st.gone nx, hF, no, ?_⟩
    show Top R.K (FN R.H0 F' (dn.2 || dn.1.kidsAtom)) H' x dn.1
    cases hk : dn.1.kidsAtom with
    | true => exact hT.atoms hk
    | false =>
     rw [Bool.or_false]
     exact hT.mono (FN_sub r3.there) rfl
  ·have hioA : ioA (some 0) (V.ref x :: (vs ++ dvs)) = some x := rfl
   rw [hioA] at eq
   cases eq
   rw [h0] at h1
   cases h1
theorem new_q {A : Option Nat} {x : Str} {fid n : Nat} {g g1 : G} {as : List Ar} {P : Sl × G → Prop} {Wx : Xc → Prop} (q : wp (if A = some 0 ∧ E.ini x = some fid ∧ as.length + 1 + (moreOf E fid n).length = E.np fid then match arsD g1 as with
   | some ds => M.bnd (E.fm fid (.obj x [] [] :: (ds ++ moreOf E fid n))) fun (r, o) => match r.d, o with
    | .non, some dn => some (.ok ((⟨dn.1, .ow, dn.2 || dn.1.kidsAtom⟩ : Sl), g1))
    | _, _ => none
   | none => none
  else none) P Wx) : as.length + 1 + (moreOf E fid n).length = E.np fid ∧ wp (match arsD g1 as with
   | some ds => M.bnd (E.fm fid (.obj x [] [] :: (ds ++ moreOf E fid n))) fun (r, o) => match r.d, o with
    | .non, some dn => some (.ok ((⟨dn.1, .ow, dn.2 || dn.1.kidsAtom⟩ : Sl), g1))
    | _, _ => none
   | none => none) P Wx := by
 obtain ⟨h1, h2⟩ := ifNone q
 exact ⟨h1.2.2, h2⟩
theorem pe_new_ {x : Str} {fid : Nat} (hK : X.K = R.K) (tk : RX.Takes X (fun cls d _ H => W cls d H)) (L : Lv X R.K E k) (hx : E.ini x = some fid) (gd : X.A.guards = some []) (hr : Room k X.A) (hg : Gl X x) (hio : E.io fid = some 0) (hn : (c :: cs).length + 1 + (moreOf E fid ((c :: cs).length + 1)).length = E.np fid)
  (ha : PA X (e :: es) (TA_ R W (some 0) 1 (evA E (some 0) 1 (c :: cs))))
  (hdb : (x == ("__debug__" : Str)) = false) (he : starEach (e :: es) X.env = (false, eval e X.env) :: starEach es X.env) (hpl : (backTo pos (starEach es X.env)).any (·.1) = false) :
  PE X (.Call (.Name x p) (e :: es) [] pos) (TE_ R W (evE E (.new x fid (c :: cs)))) := by
 obtain ⟨f, j, hj, hm, hM, fd, ps, hps, F, hb⟩ := L.ini x fid hx
 obtain ⟨ds, dvs, b1, b2, b3⟩ := hb ((c :: cs).length + 1) hn
 refine PE.imp (pe_makeG hM F gd (hr.mono (by omega)) hg hm b1 b2 (RX.passes_call tk fun _ _ _ _ z => z) ha hdb he hpl) fun σ H Q ⟨F0, g, r, q⟩ => ?_
 have q1 := wp_bnd q
 rw [hio] at q1
 refine ⟨F0, g, r, wp_mono q1 (fun (as, g1) q2 vs F1 H1 r1 st1 hA x dx nx nd ne => ?_) fun _ z => z⟩
 rw [hio]
 obtain ⟨h1, h2⟩ := new_q (g := g) q2
 exact new_sp (n := (c :: cs).length + 1) rfl hio h1 r1 st1 r hA b3 h2 x dx nx nd ne
theorem pe_new0_ {x : Str} {fid : Nat} (hK : X.K = R.K) (tk : RX.Takes X (fun cls d _ H => W cls d H)) (L : Lv X R.K E k) (hx : E.ini x = some fid) (gd : X.A.guards = some []) (hr : Room k X.A) (hg : Gl X x) (hio : E.io fid = some 0) (hn : 0 + 1 + (moreOf E fid (0 + 1)).length = E.np fid)
  (hdb : (x == ("__debug__" : Str)) = false) :
  PE X (.Call (.Name x p) [] [] pos) (TE_ R W (evE E (.new x fid []))) := by
 obtain ⟨f, j, hj, hm, hM, fd, ps, hps, F, hb⟩ := L.ini x fid hx
 obtain ⟨ds, dvs, b1, b2, b3⟩ := hb (0 + 1) hn
 refine PE.imp (pe_make0G hM F gd (hr.mono (by omega)) hg hm b1 b2 (RX.passes_call tk fun _ _ _ _ z => z) hdb) fun σ H Q ⟨F0, g, r, q⟩ => ?_
 intro x dx nx nd ne
 rw [hio]
 obtain ⟨h1, h2⟩ := new_q (g := g) (as := []) (n := 0 + 1) q
 exact new_sp (as := []) (n := 0 + 1) rfl hio h1 r (Step.refl g σ F0 H) r .nil b3 h2 x dx nx nd ne
theorem pe_meth0D {m : Str} {pl : Sem Bool} {ta : TE} {CX : CXT} {E : XK} (he : PE X o ta) (gd : X.A.guards = some []) (hr : Room k X.A) (hx : Passes CX X E)
  (ht : eval (.Call (.Attribute o m apos) [] [] pos) X.env = (do
   let ov ← eval o X.env
   standAt apos.atName
   let (f, first) ← holding [ov] (getMethod ov m pl)
   callWith pos f first (backTo pos (starEach [] X.env)) (backToKw pos (keywordEach [] X.env)))) :
  PE X (.Call (.Attribute o m apos) [] [] pos) (fun σ H Q => ta σ H fun x H1 => ∃ a C dx fs f, x = .ref a ∧ H1 a = some (.ins C dx fs) ∧ Cls X.K C ∧ Meth X.K C m f ∧ fs.lookup m = none ∧
   ∃ fd ps sp ds dvs, FnG X.prog X.w X.K X.mg X.base CX k f fd ps sp ∧ Binds X.K fd ps ds ∧ Vals dvs ds ∧ sp (x :: dvs) H1 Q E) := by
 refine ⟨fun pins s σ H Q I h => ?_⟩
 refine PySem.W.methodCall_KW (pl := pl) (thn (he.run pins s σ H _ I h) fun u s1 ⟨x, H1, I1, rx, a, C, dx, fs, f, ex, ea, c, hm, l, fd, ps, sp, ds, dvs, F, hb, hd, q⟩ => ?_) ht
 subst ex
 obtain rfl : u = Value.ref a := rx
 refine getmeth_ok I1 ea c hm l ?_
 exact PySem.W.callWith_K0 (first := [.ref a]) I1.kIn hm.kp (run_fnG (us := [.ref a]) (vs := [.ref a]) F gd hr hb hd hx I1 (.cons rfl .nil) q)
theorem pe_meth0_ {m : Str} {pl : Sem Bool} {io : Option Nat} (hK : X.K = R.K) (tk : RX.Takes X (fun cls d _ H => W cls d H)) (L : Lv X R.K E k) (gd : X.A.guards = some []) (hr : Room k X.A) (ho : PE X o (TA1_ R W io 0 (arg1 io 0 co (evE E co))))
  (ht : eval (.Call (.Attribute o m apos) [] [] pos) X.env = (do
   let ov ← eval o X.env
   standAt apos.atName
   let (f, first) ← holding [ov] (getMethod ov m pl)
   callWith pos f first (backTo pos (starEach [] X.env)) (backToKw pos (keywordEach [] X.env)))) :
  PE X (.Call (.Attribute o m apos) [] [] pos) (TE_ R W (evE E (.meth m io co []))) := by
 refine PE.imp (pe_meth0D ho gd hr (RX.passes_call tk fun _ _ _ _ z => z) ht) fun σ H Q ⟨F0, g, r, q⟩ => ?_
 refine ⟨F0, g, r, wp_mono (wp_bnd q) (fun (a, g1) q1 v F1 H1 r1 st1 hA hk => ?_) fun _ z => z⟩
 dsimp only at q1
 cases e1 : selfFid E m g1 a with
 | none => rw [e1] at q1; exact q1.elim
 | some fid =>
  rw [e1] at q1
  obtain ⟨cl, q0, dx, kvs, rfl, h1, h2, h3⟩ := self_of r1 hA e1
  obtain ⟨f, hC, hM, fd, ps, hps, Fk, hb⟩ := L.mt cl m fid h2
  have q2 : wp (if E.io fid = io then doCall (E.fn fid) io (E.np fid) (moreOf E fid (0 + 1)) [a] g1 else none) (fun (s, g') => ∀ v F' H', Rel R F' g' σ H' → Step g σ F0 H g' F' H' → ResAt R g' σ H F' H' v s → Q v H') (ExW R W) := q1
  obtain ⟨hio, q3⟩ := ifNone q2
  have hn := doCall_n q3
  obtain ⟨ds, dvs, b1, b2, b3⟩ := hb (0 + 1) hn
  rw [hio] at Fk
  exact ⟨q0, _, dx, kvs, f, rfl, h1, hC, hM, h3, fd, ps, _, ds, dvs, Fk, b1, b2, call_sp (vs := [.ref q0]) (as := [a]) r1 st1 r (.cons hA hk .nil) b3 q3⟩
theorem run_bare {C : Addr} {pins : List (Addr × Obj)} {σ : L2.St} {H : Hp} {s : Shared} {Q : VK} (B : BareK X.K C) (I : Inv X pins σ H s) (q : ∀ x dx, H x = none → H dx = none → dx ≠ x → Q (.ref x) (upd (upd H dx (.own x)) x (.ins C dx []))) :
  wpAny (model X.prog X.w) X.A (call (.ref C) []) (EP X pins σ Q) X.xe s := by
 have hq := q (s.heap.objs.size + 1) s.heap.objs.size (I.hok.fresh (Nat.le_succ _)) (I.hok.fresh (Nat.le_refl _)) (Nat.ne_of_lt (Nat.lt_succ_self _))
 have I2 := Inv.made (C := C) I
 have hx : ((s.heap.push PySem.W.emptyDict).push (PySem.W.instObj C s.heap.objs.size)).get? (s.heap.objs.size + 1) = some (PySem.W.instObj C s.heap.objs.size) := by
  have := Heap.get?_push_size (s.heap.push PySem.W.emptyDict) (o := PySem.W.instObj C s.heap.objs.size) rfl
  rwa [Heap.size_push] at this
 have t1 : PySem.W.Looks (model X.prog X.w) ((s.heap.push PySem.W.emptyDict).push (PySem.W.instObj C s.heap.objs.size)) (typeOf (.ref (s.heap.objs.size + 1))) (.ref C) := (PySem.W.Looks.ld hx).andThen .now
 have t2 : PySem.W.Looks (model X.prog X.w) ((s.heap.push PySem.W.emptyDict).push (PySem.W.instObj C s.heap.objs.size)) (isInstance (.ref (s.heap.objs.size + 1)) (.type "object")) true := t1.andThen (PySem.W.looks_mroIn I2.kIn B.top)
 refine wpAny_call (make_map0 I.kIn B.makes B.init (fun self => PySem.W.Looks.of_pure (PySem.W.oi_bind self)) ?_)
 refine codeAny_call_builtin PySem.W.oi_plain PySem.W.entry_oi (@PySem.W.check_slot (model X.prog X.w) _ _ _ "object.__init__" "object" "__init__" (.ref (s.heap.objs.size + 1)) [] [] _ PySem.W.oi_kind PySem.W.oi_split t2 (by unfold argsOk; kernel_rfl) ?_)
 rw [PySem.W.oi_run]
 exact wpAny_pure (And.intro rfl ⟨V.ref (s.heap.objs.size + 1), _, I2, rfl, hq⟩)
theorem pe_bare {x : Str} (hK : X.K = R.K) (L : Lv X R.K E k) (hx : E.bare x = true) (hg : Gl X x) (hdb : (x == ("__debug__" : Str)) = false) : PE X (.Call (.Name x p) [] [] pos) (TE_ R W (evE E (.bare x))) := by
 obtain ⟨hm, B⟩ := L.bare x hx
 refine ⟨fun pins s σ H Q I ⟨F0, g, r, q⟩ => ?_⟩
 refine wpAny_Call_Name_kw (ld_glob I hg hm ?_ hdb)
 refine PySem.W.callWith_K0 I.kIn B.kp (run_bare B I fun a da na nd ne => ?_)
 have q1 : wp (if E.bare x = true then some (.ok ((⟨.obj x [] [], .ow, true⟩ : Sl), g)) else none) (fun (s, g') => ∀ v F' H', Rel R F' g' σ H' → Step g σ F0 H g' F' H' → ResAt R g' σ H F' H' v s → Q v H') (ExW R W) := q
 rw [if_pos hx] at q1
 have r2 : Rel R F0 g σ (upd H da (.own a)) := r.alloc nd
 have nx2 : upd H da (.own a) a = none := by rw [upd_ne (Ne.symm ne)]; exact na
 have r3 : Rel R F0 g σ (upd (upd H da (.own a)) a (.ins (He.ga R.K x) da [])) := r2.alloc nx2
 have st3 : Step g σ F0 H g F0 (upd (upd H da (.own a)) a (.ins (He.ga R.K x) da [])) := (Step.refl g σ F0 H).trans ((Step.alloc r nd).trans (.alloc r2 nx2))
 obtain ⟨f0, h0, no⟩ := r.fresh na
 exact q1 (.ref a) F0 _ r3 st3 ⟨a, rfl, na, f0, no, .obj upd_same rfl .nil⟩
end
end Y
namespace EZ
open PySem PySem.Spec PyProof.Rows L2
open Builtin
abbrev IsZ (h : Heap) (z TI TO : Addr) (f0 : Value) (f : Bool) : Prop :=
 h.get? z = some { cls := .type "zip", dict := none, data := .fields #[f0, .bool f, .bool false, .ref TI, .ref TO], slots := #[] }
section
variable {prog : Program} {w : World} {A : Around} {E : Value → Shared → Prop} {s : Shared}
theorem alive {a : Addr} {Q : Option Obj → Shared → Prop} (h : Q (s.heap.get? a) s) : wpAny (model prog w) A (loadIfAlive a) Q E s := fun _ _ _ => h
theorem free_zip {z TI TO T : Addr} {f : Bool} {Q : Bool → Shared → Prop} (hz : IsZ s.heap z TI TO (rawInt T) f) (hT : s.heap.get? T = none) (h1 : Q true s) :
  wpAny (model prog w) A (SmallTypes.ownedTupleIsFree (.ref z)) Q E s := by
 unfold SmallTypes.ownedTupleIsFree
 refine wpAny_bind (wpAny_field hz rfl (x := rawInt T) rfl ?_)
 show wpAny _ _ (loadIfAlive ((T : Int).toNat) >>= _) _ _ _
 rw [Int.toNat_natCast]
 refine wpAny_bind (alive ?_)
 rw [hT]
 simp only [Option.isNone_none, if_true]
 exact wpAny_pure h1
theorem gone_item {z TI TO T i1 i2 l1 l2 : Addr} {f : Bool} {k1 k2 : Nat} {xs ys : Array Value} {x y a b : Value} {Q : Value → Shared → Prop} (D : ZipApart z TI TO i1 i2 l1 l2)
  (hz : IsZ s.heap z TI TO (rawInt T) f) (hT : s.heap.get? T = none) (hTI : IsPair s.heap TI (.ref i1) (.ref i2)) (hTO : IsPair s.heap TO a b)
  (h1 : s.heap.IsListIter i1 l1 k1) (h2 : s.heap.IsListIter i2 l2 k2) (hl1 : s.heap.IsList l1 xs) (hl2 : s.heap.IsList l2 ys) (hx : xs[k1]? = some x) (hy : ys[k2]? = some y)
  (hQ : ∀ h', IsZ h' z TI TO (rawInt s.heap.objs.size) false → IsPair h' TO x y → h'.IsListIter i1 l1 (k1 + 1) → h'.IsListIter i2 l2 (k2 + 1) → IsPair h' s.heap.objs.size x y → h'.objs.size = s.heap.objs.size + 1 →
   (∀ c o, c ≠ z → c ≠ TO → c ≠ i1 → c ≠ i2 → s.heap.get? c = some o → h'.get? c = some o) → Q (.ref s.heap.objs.size) { s with heap := h' }) :
  wpAny (model prog w) A (Builtin.«zip.__next__» ⟨[.ref z], []⟩) (fun fin s' => ∃ v, fin = .done (.ret v) ∧ Q v s') E s := by
 show wpAny _ _ (field (.ref z) 2 >>= _) _ _ _
 refine wpAny_bind (wpAny_field hz rfl (x := .bool false) rfl ?_)
 show wpAny _ _ (field (.ref z) 3 >>= _) _ _ _
 refine wpAny_bind (wpAny_field hz rfl (x := .ref TI) rfl ?_)
 refine wpAny_bind (wpAny_seqItems hTI rfl ?_)
 show wpAny _ _ (SmallTypes.ownedTupleIsFree (.ref z) >>= _) _ _ _
 refine wpAny_bind (free_zip hz hT ?_)
 simp only [if_true]
 refine wpAny_bind (wpAny_rule ?_)
 refine wpAny_bind (wpAny_field hz rfl (x := .ref TO) rfl ?_)
 refine wpAny_bind (wpAny_setField_rec hz (by simp) fun h₁ hz₁ hs₁ => ?_)
 replace hz₁ : IsZ h₁ z TI TO .ellipsis f := hz₁
 refine wpAny_bind ?_
 simp only [List.zipIdx_cons, List.zipIdx_nil, List.forIn_cons, List.forIn_nil]
 refine wpAny_bind (wpAny_bind (wpAny_onRaise ?_))
 show wpAny _ _ (SmallTypes.nextOf (.ref i1) >>= _) _ _ _
 refine wpAny_bind (wpAny_nextOf_list_item (h1.extBut hs₁.extBut D.i1z) (hl1.extBut hs₁.extBut D.l1z) hx fun h₂ h1₂ hs₂ => wpAny_pure ?_)
 have hTO₂ : IsPair h₂ TO a b := hs₂.extBut _ _ D.TOi1 (hs₁.extBut _ _ D.TOz hTO)
 refine wpAny_bind (wpAny_seqItems hTO₂ rfl ?_)
 refine wpAny_bind (wpAny_updateSeq_pair hTO₂ fun h₃ hTO₃ hs₃ => ?_)
 replace hTO₃ : IsPair h₃ TO x b := hTO₃
 refine wpAny_bind (wpAny_letGo (wpAny_pure ?_))
 refine wpAny_bind (wpAny_bind (wpAny_onRaise ?_))
 show wpAny _ _ (SmallTypes.nextOf (.ref i2) >>= _) _ _ _
 refine wpAny_bind (wpAny_nextOf_list_item (((h2.extBut hs₁.extBut D.i2z).extBut hs₂.extBut D.i12.symm).extBut hs₃.extBut D.TOi2.symm)
  (((hl2.extBut hs₁.extBut D.l2z).extBut hs₂.extBut D.l2i1).extBut hs₃.extBut D.l2TO) hy fun h₄ h2₄ hs₄ => wpAny_pure ?_)
 have hTO₄ : IsPair h₄ TO x b := hs₄.extBut _ _ D.TOi2 hTO₃
 refine wpAny_bind (wpAny_seqItems hTO₄ rfl ?_)
 refine wpAny_bind (wpAny_updateSeq_pair hTO₄ fun h₅ hTO₅ hs₅ => ?_)
 replace hTO₅ : IsPair h₅ TO x y := hTO₅
 refine wpAny_bind (wpAny_letGo (wpAny_pure (wpAny_pure ?_)))
 refine wpAny_bind (wpAny_seqItems hTO₅ rfl ?_)
 refine wpAny_bind (wpAny_newTuple ?_)
 have hsz : h₅.objs.size = s.heap.objs.size := by rw [hs₅.1, hs₄.1, hs₃.1, hs₂.1, hs₁.1]
 have hz₅ : IsZ h₅ z TI TO .ellipsis f := hs₅.extBut _ _ D.TOz.symm (hs₄.extBut _ _ D.i2z.symm (hs₃.extBut _ _ D.TOz.symm (hs₂.extBut _ _ D.i1z.symm hz₁)))
 have hk₅ : ∀ c o, c ≠ z → c ≠ TO → c ≠ i1 → c ≠ i2 → s.heap.get? c = some o → h₅.get? c = some o := fun c o c1 c2 c3 c4 e =>
  hs₅.extBut _ _ c2 (hs₄.extBut _ _ c4 (hs₃.extBut _ _ c2 (hs₂.extBut _ _ c3 (hs₁.extBut _ _ c1 e))))
 have h1₅ : h₅.IsListIter i1 l1 (k1 + 1) := ((h1₂.extBut hs₃.extBut D.TOi1.symm).extBut hs₄.extBut D.i12).extBut hs₅.extBut D.TOi1.symm
 have h2₅ : h₅.IsListIter i2 l2 (k2 + 1) := h2₄.extBut hs₅.extBut D.TOi2.symm
 have hzlt : z < h₅.objs.size := Heap.lt_size hz₅
 show wpAny _ _ (SmallTypes.ownedTupleHandOut (.ref z) (.ref h₅.objs.size) >>= _) _ _ _
 refine wpAny_bind ?_
 unfold SmallTypes.ownedTupleHandOut
 have hz₆ : IsZ (h₅.push { cls := .type "tuple", data := .seq #[x, y] }) z TI TO .ellipsis f := Heap.get?_push_of_some _ hz₅
 refine wpAny_bind (wpAny_setField_rec hz₆ (by simp) fun h₇ hz₇ hs₇ => ?_)
 replace hz₇ : IsZ h₇ z TI TO (rawInt h₅.objs.size) f := hz₇
 refine wpAny_setField_rec hz₇ (by simp) fun h₈ hz₈ hs₈ => ?_
 replace hz₈ : IsZ h₈ z TI TO (rawInt h₅.objs.size) false := hz₈
 have up : ∀ c o, c ≠ z → h₅.get? c = some o → h₈.get? c = some o := fun c o c1 e => hs₈.extBut _ _ c1 (hs₇.extBut _ _ c1 (Heap.get?_push_of_some _ e))
 have hT₈ : IsPair h₈ h₅.objs.size x y := hs₈.extBut _ _ (Nat.ne_of_gt hzlt) (hs₇.extBut _ _ (Nat.ne_of_gt hzlt) (Heap.get?_push_size _ rfl))
 have hz8 : h₈.objs.size = h₅.objs.size + 1 := by rw [hs₈.1, hs₇.1, Heap.size_push]
 rw [hsz] at hz₈ hT₈ hz8
 refine wpAny_pure ⟨_, rfl, ?_⟩
 show Q (.ref h₅.objs.size) _
 rw [hsz]
 exact hQ h₈ hz₈ (up _ _ D.TOz hTO₅) (h1₅.at fun o e => up _ o D.i1z e) (h2₅.at fun o e => up _ o D.i2z e) hT₈ hz8 fun c o c1 c2 c3 c4 e => up c o c1 (hk₅ c o c1 c2 c3 c4 e)
theorem gone_end {z TI TO T i1 i2 l1 l2 : Addr} {f : Bool} {k1 k2 : Nat} {xs ys : Array Value} {a b : Value} {Q : Fin → Shared → Prop} (hh : A.handled = none) (D : ZipApart z TI TO i1 i2 l1 l2)
  (hz : IsZ s.heap z TI TO (rawInt T) f) (hT : s.heap.get? T = none) (hTI : IsPair s.heap TI (.ref i1) (.ref i2)) (hTO : IsPair s.heap TO a b)
  (h1 : s.heap.IsListIter i1 l1 k1) (h2 : s.heap.IsListIter i2 l2 k2) (hl1 : s.heap.IsList l1 xs) (hl2 : s.heap.IsList l2 ys) (hend : xs[k1]? = none ∨ ys[k2]? = none)
  (hE : ∀ h' e, (∀ c o, c ≠ z → c ≠ TO → c ≠ i1 → c ≠ i2 → s.heap.get? c = some o → h'.get? c = some o) → (∃ o, h'.get? e = some o ∧ o.cls = .type "StopIteration") → E (.ref e) { s with heap := h' }) :
  wpAny (model prog w) A (Builtin.«zip.__next__» ⟨[.ref z], []⟩) Q E s := by
 show wpAny _ _ (field (.ref z) 2 >>= _) _ _ _
 refine wpAny_bind (wpAny_field hz rfl (x := .bool false) rfl ?_)
 show wpAny _ _ (field (.ref z) 3 >>= _) _ _ _
 refine wpAny_bind (wpAny_field hz rfl (x := .ref TI) rfl ?_)
 refine wpAny_bind (wpAny_seqItems hTI rfl ?_)
 show wpAny _ _ (SmallTypes.ownedTupleIsFree (.ref z) >>= _) _ _ _
 refine wpAny_bind (free_zip hz hT ?_)
 simp only [if_true]
 refine wpAny_bind (wpAny_rule ?_)
 refine wpAny_bind (wpAny_field hz rfl (x := .ref TO) rfl ?_)
 refine wpAny_bind (wpAny_setField_rec hz (by simp) fun h₁ hz₁ hs₁ => ?_)
 replace hz₁ : IsZ h₁ z TI TO .ellipsis f := hz₁
 refine wpAny_bind ?_
 simp only [List.zipIdx_cons, List.zipIdx_nil, List.forIn_cons, List.forIn_nil]
 refine wpAny_bind (wpAny_bind (wpAny_onRaise ?_))
 show wpAny _ _ (SmallTypes.nextOf (.ref i1) >>= _) _ _ _
 cases hx : xs[k1]? with
 | none =>
  refine wpAny_bind (wpAny_nextOf_list_end hh (h1.extBut hs₁.extBut D.i1z) (hl1.extBut hs₁.extBut D.l1z) hx fun h₂ e hs₂ he => ?_)
  obtain ⟨oe, hoe, hce⟩ := he
  have hz₂ : IsZ h₂ z TI TO .ellipsis f := hs₂ _ _ D.i1z.symm hz₁
  have hez : e ≠ z := fun x => by subst x; rw [hz₂] at hoe; cases hoe; simp at hce
  refine wpAny_setField_rec hz₂ (by simp) fun h₃ _ hs₃ => hE h₃ e (fun c o c1 _ c3 _ x => hs₃.extBut _ _ c1 (hs₂ _ _ c3 (hs₁.extBut _ _ c1 x))) ⟨oe, hs₃.extBut _ _ hez hoe, hce⟩
 | some x =>
  have hy : ys[k2]? = none := by rcases hend with h | h; rw [hx] at h; cases h; exact h
  refine wpAny_bind (wpAny_nextOf_list_item (h1.extBut hs₁.extBut D.i1z) (hl1.extBut hs₁.extBut D.l1z) hx fun h₂ h1₂ hs₂ => wpAny_pure ?_)
  have hTO₂ : IsPair h₂ TO a b := hs₂.extBut _ _ D.TOi1 (hs₁.extBut _ _ D.TOz hTO)
  refine wpAny_bind (wpAny_seqItems hTO₂ rfl ?_)
  refine wpAny_bind (wpAny_updateSeq_pair hTO₂ fun h₃ hTO₃ hs₃ => ?_)
  refine wpAny_bind (wpAny_letGo (wpAny_pure ?_))
  refine wpAny_bind (wpAny_bind (wpAny_onRaise ?_))
  show wpAny _ _ (SmallTypes.nextOf (.ref i2) >>= _) _ _ _
  refine wpAny_bind (wpAny_nextOf_list_end hh (((h2.extBut hs₁.extBut D.i2z).extBut hs₂.extBut D.i12.symm).extBut hs₃.extBut D.TOi2.symm)
   (((hl2.extBut hs₁.extBut D.l2z).extBut hs₂.extBut D.l2i1).extBut hs₃.extBut D.l2TO) hy fun h₄ e hs₄ he => ?_)
  obtain ⟨oe, hoe, hce⟩ := he
  have hz₄ : IsZ h₄ z TI TO .ellipsis f := hs₄ _ _ D.i2z.symm (hs₃.extBut _ _ D.TOz.symm (hs₂.extBut _ _ D.i1z.symm hz₁))
  have hez : e ≠ z := fun x => by subst x; rw [hz₄] at hoe; cases hoe; simp at hce
  refine wpAny_setField_rec hz₄ (by simp) fun h₅ _ hs₅ => hE h₅ e (fun c o c1 c2 c3 c4 x => hs₅.extBut _ _ c1 (hs₄ _ _ c4 (hs₃.extBut _ _ c2 (hs₂.extBut _ _ c3 (hs₁.extBut _ _ c1 x))))) ⟨oe, hs₅.extBut _ _ hez hoe, hce⟩
structure ZSt (h : Heap) (z TI TO i1 i2 l1 l2 : Addr) (k : Nat) : Prop where
 zip : IsZip h z TI TO .none ∨ ∃ (T : Addr) (f : Bool), IsZ h z TI TO (rawInt T) f
 ti : IsPair h TI (.ref i1) (.ref i2)
 to : ∃ x y, IsPair h TO x y
 it1 : h.IsListIter i1 l1 k
 it2 : h.IsListIter i2 l2 k
theorem ZSt.at {h h' : Heap} {z TI TO i1 i2 l1 l2 : Addr} {k : Nat} (st : ZSt h z TI TO i1 i2 l1 l2 k) (q : ∀ b, (b = z ∨ b = TI ∨ b = TO ∨ b = i1 ∨ b = i2) → ∀ o, h.get? b = some o → h'.get? b = some o) : ZSt h' z TI TO i1 i2 l1 l2 k where
 zip := st.zip.elim (fun e => .inl (q z (by simp) _ e)) fun ⟨T, f, e⟩ => .inr ⟨T, f, q z (by simp) _ e⟩
 ti := q TI (by simp) _ st.ti
 to := let ⟨x, y, e⟩ := st.to; ⟨x, y, q TO (by simp) _ e⟩
 it1 := st.it1.at fun o e => q i1 (by simp) o e
 it2 := st.it2.at fun o e => q i2 (by simp) o e
theorem ZSt.typeIs {h : Heap} {z TI TO i1 i2 l1 l2 : Addr} {k : Nat} (st : ZSt s.heap z TI TO i1 i2 l1 l2 k) : s.TypeIs (.ref z) "zip" := by
 rcases st.zip with e | ⟨T, f, e⟩
 ·exact ⟨_, e, rfl⟩
 ·exact ⟨_, e, rfl⟩
theorem ZSt.lt {h : Heap} {z TI TO i1 i2 l1 l2 : Addr} {k : Nat} (st : ZSt h z TI TO i1 i2 l1 l2 k) : ∀ b, (b = z ∨ b = TI ∨ b = TO ∨ b = i1 ∨ b = i2) → ∃ o, h.get? b = some o ∧ ∀ v, o.data ≠ .cell v := fun b hb => by
 obtain ⟨x, y, e3⟩ := st.to
 obtain ⟨o1, e4, _, d4⟩ := st.it1
 obtain ⟨o2, e5, _, d5⟩ := st.it2
 rcases hb with q | q | q | q | q
 ·rw [q]
  rcases st.zip with e | ⟨T, f, e⟩
  ·exact ⟨_, e, fun v q => nomatch q⟩
  ·exact ⟨_, e, fun v q => nomatch q⟩
 ·rw [q]; exact ⟨_, st.ti, fun v q => nomatch q⟩
 ·rw [q]; exact ⟨_, e3, fun v q => nomatch q⟩
 ·rw [q]; exact ⟨_, e4, fun v q => by rw [d4] at q; cases q⟩
 ·rw [q]; exact ⟨_, e5, fun v q => by rw [d5] at q; cases q⟩
theorem zs_item {z TI TO i1 i2 l1 l2 : Addr} {k : Nat} {xs ys : Array Value} {x y : Value} {Q : Value → Shared → Prop} (D : ZipApart z TI TO i1 i2 l1 l2)
  (st : ZSt s.heap z TI TO i1 i2 l1 l2 k) (hl1 : s.heap.IsList l1 xs) (hl2 : s.heap.IsList l2 ys) (hx : xs[k]? = some x) (hy : ys[k]? = some y)
  (hQ : ∀ h', ZSt h' z TI TO i1 i2 l1 l2 (k + 1) → IsPair h' s.heap.objs.size x y → h'.objs.size = s.heap.objs.size + 1 →
   (∀ c o, c ≠ z → c ≠ TO → c ≠ i1 → c ≠ i2 → s.heap.get? c = some o → h'.get? c = some o) → Q (.ref s.heap.objs.size) { s with heap := h' }) :
  wpAny (model prog w) A (SmallTypes.nextOf (.ref z)) Q E s := by
 have hT := st.typeIs (h := s.heap)
 obtain ⟨x0, y0, hTO⟩ := st.to
 unfold SmallTypes.nextOf
 refine wpAny_bind (wpAny_callSpecial?_slot (name := Str.ofString "__next__") hT F.slot_zip_next
  (wpAny_call_entry F.slot_zip_next hT F.entry_zip_next ?_ (F.args_zip_next_1 _)))
 rcases st.zip with e | ⟨T, f, e⟩
 ·refine zip_next_item D e st.ti hTO st.it1 st.it2 hl1 hl2 hx hy fun h' a1 a2 a3 a4 a5 a6 a7 => wpAny_pure (hQ h' ⟨.inr ⟨_, _, a1⟩, ?_, ⟨_, _, a2⟩, a3, a4⟩ a5 a6 a7)
  exact a7 _ _ D.TIz D.TITO D.TIi1 D.TIi2 st.ti
 ·cases hT : s.heap.get? T with
  | none =>
   refine gone_item D e hT st.ti hTO st.it1 st.it2 hl1 hl2 hx hy fun h' a1 a2 a3 a4 a5 a6 a7 => wpAny_pure (hQ h' ⟨.inr ⟨_, _, a1⟩, ?_, ⟨_, _, a2⟩, a3, a4⟩ a5 a6 a7)
   exact a7 _ _ D.TIz D.TITO D.TIi1 D.TIi2 st.ti
  | some oT =>
   refine zip_next_item_held D e hT st.ti st.it1 st.it2 hl1 hl2 hx hy fun h' a1 a3 a4 a5 a6 a7 => wpAny_pure (hQ h' ⟨.inr ⟨_, _, a1⟩, ?_, ⟨_, _, a7 _ _ D.TOz D.TOi1 D.TOi2 hTO⟩, a3, a4⟩ a5 a6 fun c o c1 _ c3 c4 q => a7 c o c1 c3 c4 q)
   exact a7 _ _ D.TIz D.TIi1 D.TIi2 st.ti
theorem zs_end {z TI TO i1 i2 l1 l2 : Addr} {k : Nat} {xs ys : Array Value} {Q : Value → Shared → Prop} (hh : A.handled = none) (D : ZipApart z TI TO i1 i2 l1 l2)
  (st : ZSt s.heap z TI TO i1 i2 l1 l2 k) (hl1 : s.heap.IsList l1 xs) (hl2 : s.heap.IsList l2 ys) (hend : xs[k]? = none ∨ ys[k]? = none)
  (hE : ∀ h' e, (∀ c o, c ≠ z → c ≠ TO → c ≠ i1 → c ≠ i2 → s.heap.get? c = some o → h'.get? c = some o) → (∃ o, h'.get? e = some o ∧ o.cls = .type "StopIteration") → E (.ref e) { s with heap := h' }) :
  wpAny (model prog w) A (SmallTypes.nextOf (.ref z)) Q E s := by
 have hT := st.typeIs (h := s.heap)
 obtain ⟨x0, y0, hTO⟩ := st.to
 unfold SmallTypes.nextOf
 refine wpAny_bind (wpAny_callSpecial?_slot (name := Str.ofString "__next__") hT F.slot_zip_next
  (wpAny_call_entry F.slot_zip_next hT F.entry_zip_next ?_ (F.args_zip_next_1 _)))
 rcases st.zip with e | ⟨T, f, e⟩
 ·exact zip_next_end hh D e st.ti hTO st.it1 st.it2 hl1 hl2 hend hE
 ·cases hT : s.heap.get? T with
  | none => exact gone_end hh D e hT st.ti hTO st.it1 st.it2 hl1 hl2 hend hE
  | some oT => exact zip_next_end_held hh D e hT st.ti st.it1 st.it2 hl1 hl2 hend fun h' e hk he => hE h' e (fun c o c1 _ c3 c4 q => hk c o c1 c3 c4 q) he
end
end EZ
namespace EZ
open PySem PySem.Spec PyProof.Rows L2
open Builtin
section
variable {prog : Program} {w : World} {A : Around} {E : Value → Shared → Prop} {s : Shared}
theorem ez_item {e z TI TO i1 i2 l1 l2 : Addr} {i : Nat} {xs ys : Array Value} {x y old : Value} {Q : Value → Shared → Prop} (D : ZipApart z TI TO i1 i2 l1 l2)
  (he : IsEnum s.heap e z i old) (st : ZSt s.heap z TI TO i1 i2 l1 l2 i) (hl1 : s.heap.IsList l1 xs) (hl2 : s.heap.IsList l2 ys) (hx : xs[i]? = some x) (hy : ys[i]? = some y)
  (ne : ∀ b, (b = z ∨ b = TI ∨ b = TO ∨ b = i1 ∨ b = i2) → b ≠ e)
  (hQ : ∀ h' tk, IsEnumOut h' e z ((i : Int) + 1) (.ref s.heap.objs.size) (s.heap.objs.size + 1) → ZSt h' z TI TO i1 i2 l1 l2 (i + 1) → IsPair h' s.heap.objs.size x y →
   h'.get? (s.heap.objs.size + 1) = some { cls := .type "tuple", data := .seq #[.int i tk, .ref s.heap.objs.size] } → h'.objs.size = s.heap.objs.size + 2 →
   (∀ b o, b ≠ e → b ≠ z → b ≠ TO → b ≠ i1 → b ≠ i2 → s.heap.get? b = some o → h'.get? b = some o) → Q (.ref (s.heap.objs.size + 1)) { s with heap := h', toks := tk + 1 }) :
  wpAny (model prog w) A (Builtin.«enumerate.__next__» ⟨[.ref e], []⟩) (fun fin s' => ∃ v, fin = .done (.ret v) ∧ Q v s') E s := by
 obtain ⟨hp, g, d, tk, os⟩ := s
 show wpAny _ _ (field (.ref e) 2 >>= _) _ _ _
 refine wpAny_bind (wpAny_field he rfl (x := .ref z) rfl ?_)
 refine wpAny_bind (zs_item D st hl1 hl2 hx hy fun h₁ st₁ hT₁ hz₁ hk₁ => ?_)
 replace hT₁ : IsPair h₁ hp.objs.size x y := hT₁
 replace hz₁ : h₁.objs.size = hp.objs.size + 1 := hz₁
 have ez := (ne z (by simp)).symm
 have he₁ : IsEnum h₁ e z i old := hk₁ _ _ ez (ne TO (by simp)).symm (ne i1 (by simp)).symm (ne i2 (by simp)).symm he
 show wpAny _ _ (field (.ref e) 3 >>= _) _ _ ⟨h₁, g, d, tk, os⟩
 refine wpAny_bind (wpAny_field he₁ rfl (x := rawInt i) rfl ?_)
 show wpAny _ _ (field (.ref e) 4 >>= _) _ _ ⟨h₁, g, d, tk, os⟩
 refine wpAny_bind (wpAny_field he₁ rfl (x := .none) rfl ?_)
 show wpAny _ _ (mkInt i >>= _) _ _ ⟨h₁, g, d, tk, os⟩
 refine wpAny_bind (wpAny_mkInt ?_)
 show wpAny _ _ (setField (.ref e) 3 (rawInt ((i : Int) + 1)) >>= _) _ _ ⟨h₁, g, d, tk + 1, os⟩
 refine wpAny_bind (wpAny_setField_rec he₁ (by simp) fun h₂ he₂ hs₂ => ?_)
 replace hs₂ : Heap.SameBut e h₁ h₂ := hs₂
 replace he₂ : IsEnum h₂ e z ((i : Int) + 1) old := he₂
 show wpAny _ _ (setField (.ref e) 4 .none >>= _) _ _ ⟨h₂, g, d, tk + 1, os⟩
 refine wpAny_bind (wpAny_setField_rec he₂ (by simp) fun h₃ he₃ hs₃ => ?_)
 replace hs₃ : Heap.SameBut e h₂ h₃ := hs₃
 replace he₃ : IsEnum h₃ e z ((i : Int) + 1) old := he₃
 show wpAny _ _ (newTuple [.int i tk, .ref hp.objs.size] >>= _) _ _ ⟨h₃, g, d, tk + 1, os⟩
 refine wpAny_bind (wpAny_newTuple ?_)
 have he₄ : IsEnum (h₃.push { cls := .type "tuple", data := .seq #[.int i tk, .ref hp.objs.size] }) e z ((i : Int) + 1) old := Heap.get?_push_of_some _ he₃
 generalize hh₄ : h₃.push { cls := .type "tuple", data := .seq #[.int i tk, .ref hp.objs.size] } = h₄ at he₄
 have hsz : h₃.objs.size = hp.objs.size + 1 := by rw [hs₃.1, hs₂.1, hz₁]
 have hel : e < hp.objs.size := Heap.lt_size he
 have ht₄ : h₄.get? (hp.objs.size + 1) = some { cls := .type "tuple", data := .seq #[.int i tk, .ref hp.objs.size] } := by rw [← hh₄, ← hsz]; exact Heap.get?_push_size _ rfl
 have hz₄ : h₄.objs.size = hp.objs.size + 2 := by rw [← hh₄, Heap.size_push, hsz]
 have up₄ : ∀ b o, b ≠ e → h₁.get? b = some o → h₄.get? b = some o := fun b o hbe hb => by
  rw [← hh₄]; exact Heap.get?_push_of_some _ (hs₃.extBut b o hbe (hs₂.extBut b o hbe hb))
 show wpAny _ _ (SmallTypes.ownedTupleIsFree (.ref e) >>= _) _ _ ⟨h₄, g, d, tk + 1, os⟩
 rw [hsz]
 clear hh₄ he₃ hs₃ he₂ hs₂ he₁ hsz h₃ h₂
 refine wpAny_bind ?_
 unfold SmallTypes.ownedTupleIsFree
 refine wpAny_bind (wpAny_field he₄ rfl (x := .none) rfl (wpAny_pure ?_))
 simp only [if_true]
 refine wpAny_bind (wpAny_rule ?_)
 refine wpAny_bind (wpAny_field he₄ rfl (x := old) rfl ?_)
 refine wpAny_bind (wpAny_setField_rec he₄ (by simp) fun h₅ he₅ hs₅ => ?_)
 replace hs₅ : Heap.SameBut e h₄ h₅ := hs₅
 replace he₅ : IsEnum h₅ e z ((i : Int) + 1) (.ref hp.objs.size) := he₅
 show wpAny _ _ (SmallTypes.ownedTupleHandOut (.ref e) (.ref (hp.objs.size + 1)) >>= _) _ _ ⟨h₅, g, d, tk + 1, os⟩
 refine wpAny_bind ?_
 unfold SmallTypes.ownedTupleHandOut
 refine wpAny_bind (wpAny_setField_rec he₅ (by simp) fun h₆ he₆ hs₆ => ?_)
 replace hs₆ : Heap.SameBut e h₅ h₆ := hs₆
 replace he₆ : IsEnumOut h₆ e z ((i : Int) + 1) (.ref hp.objs.size) (hp.objs.size + 1) := he₆
 refine wpAny_setField_rec he₆ (by simp) fun h₇ he₇ hs₇ => ?_
 replace hs₇ : Heap.SameBut e h₆ h₇ := hs₇
 replace he₇ : IsEnumOut h₇ e z ((i : Int) + 1) (.ref hp.objs.size) (hp.objs.size + 1) := he₇
 have up : ∀ b o, b ≠ e → h₁.get? b = some o → h₇.get? b = some o := fun b o hbe hb => hs₇.extBut b o hbe (hs₆.extBut b o hbe (hs₅.extBut b o hbe (up₄ b o hbe hb)))
 refine wpAny_bind (wpAny_letGo (wpAny_pure ⟨_, rfl, hQ h₇ tk he₇ (st₁.at fun b hb o q => up b o (ne b hb) q) (up _ _ (Nat.ne_of_gt hel) hT₁) ?_ ?_ fun b o c0 c1 c2 c3 c4 q => up b o c0 (hk₁ b o c1 c2 c3 c4 q)⟩))
 ·have n : hp.objs.size + 1 ≠ e := Nat.ne_of_gt (Nat.lt_succ_of_lt hel)
  exact hs₇.extBut _ _ n (hs₆.extBut _ _ n (hs₅.extBut _ _ n ht₄))
 ·show h₇.objs.size = hp.objs.size + 2
  rw [hs₇.1, hs₆.1, hs₅.1, hz₄]
theorem pyNext_ez_item {e z TI TO i1 i2 l1 l2 : Addr} {i : Nat} {xs ys : Array Value} {x y old : Value} {Q : Option Value → Shared → Prop} (D : ZipApart z TI TO i1 i2 l1 l2)
  (he : IsEnum s.heap e z i old) (st : ZSt s.heap z TI TO i1 i2 l1 l2 i) (hl1 : s.heap.IsList l1 xs) (hl2 : s.heap.IsList l2 ys) (hx : xs[i]? = some x) (hy : ys[i]? = some y)
  (ne : ∀ b, (b = z ∨ b = TI ∨ b = TO ∨ b = i1 ∨ b = i2) → b ≠ e)
  (hQ : ∀ h' tk, IsEnumOut h' e z ((i : Int) + 1) (.ref s.heap.objs.size) (s.heap.objs.size + 1) → ZSt h' z TI TO i1 i2 l1 l2 (i + 1) → IsPair h' s.heap.objs.size x y →
   h'.get? (s.heap.objs.size + 1) = some { cls := .type "tuple", data := .seq #[.int i tk, .ref s.heap.objs.size] } → h'.objs.size = s.heap.objs.size + 2 →
   (∀ b o, b ≠ e → b ≠ z → b ≠ TO → b ≠ i1 → b ≠ i2 → s.heap.get? b = some o → h'.get? b = some o) → Q (some (.ref (s.heap.objs.size + 1))) { s with heap := h', toks := tk + 1 }) :
  wpAny (model prog w) A (pyNext (.ref e)) Q E s := by
 have hT : s.TypeIs (.ref e) "enumerate" := ⟨_, he, rfl⟩
 unfold pyNext
 exact wpAny_bind (wpAny_attempt (wpAny_callSpecial?_slot (name := Str.ofString "__next__") hT F.slot_enumerate_next
  (wpAny_call_entry F.slot_enumerate_next hT F.entry_enumerate_next
   (ez_item D he st hl1 hl2 hx hy ne fun h' tk a b c d k q => wpAny_pure (hQ h' tk a b c d k q)) (F.args_enumerate_next_1 _))))
theorem pyNext_ez_end {e z TI TO i1 i2 l1 l2 : Addr} {i : Int} {k : Nat} {xs ys : Array Value} {old : Value} {Q : Option Value → Shared → Prop} (hh : A.handled = none) (D : ZipApart z TI TO i1 i2 l1 l2)
  (he : IsEnum s.heap e z i old) (st : ZSt s.heap z TI TO i1 i2 l1 l2 k) (hl1 : s.heap.IsList l1 xs) (hl2 : s.heap.IsList l2 ys) (hend : xs[k]? = none ∨ ys[k]? = none)
  (hQ : ∀ h', (∀ c o, c ≠ z → c ≠ TO → c ≠ i1 → c ≠ i2 → s.heap.get? c = some o → h'.get? c = some o) → Q none { s with heap := h' }) : wpAny (model prog w) A (pyNext (.ref e)) Q E s := by
 have hT : s.TypeIs (.ref e) "enumerate" := ⟨_, he, rfl⟩
 unfold pyNext
 refine wpAny_bind (wpAny_attempt (wpAny_callSpecial?_slot (name := Str.ofString "__next__") hT F.slot_enumerate_next
  (wpAny_call_entry F.slot_enumerate_next hT F.entry_enumerate_next ?_ (F.args_enumerate_next_1 _))))
 show wpAny _ _ (field (.ref e) 2 >>= _) _ _ _
 refine wpAny_bind (wpAny_field he rfl (x := .ref z) rfl ?_)
 refine wpAny_bind (zs_end hh D st hl1 hl2 hend fun h' x he' hx' => ?_)
 obtain ⟨o, ho, hc⟩ := hx'
 refine wpAny_bind (wpAny_isInstance (T := "StopIteration") (b := true) ⟨o, ho, hc⟩ isSubtype_stop ?_)
 exact wpAny_pure (hQ _ he')
end
set_option maxHeartbeats 1000000 in
theorem meets_enumerate_newZ (z TI TO : Addr) :
  Meets (Builtin.«enumerate.__new__» ⟨[.type "enumerate", .ref z], []⟩) (fun _ R s => IsZip s.heap z TI TO .none ∧
   R (.ok (.ret (.ref s.heap.objs.size))) { s with heap := s.heap.push { cls := .type "enumerate", data := .fields #[.none, .bool false, .ref z, rawInt 0, .none, .none] } }) :=
 .of_wp fun prog w A R s h => by
  obtain ⟨hp, g, d, tk, os⟩ := s; obtain ⟨h1, h⟩ := h
  have hsub := sub_enumerate
  have q1 : ∀ {A' : Around} {E : Value → Shared → Prop} {Q : Value → Shared → Prop}, Q (.ref z) ⟨hp, g, d, tk, os⟩ → wpAny (model prog w) A' (pyIter (.ref z)) Q E ⟨hp, g, d, tk, os⟩ :=
   fun q => wpAny_pyIter_zip (s := ⟨hp, g, d, tk, os⟩) h1 q
  wp_walk using q1, AutoSeq1.wpAny_loadPart' h1
  refine wpAny_stack_any fun st => wpAny_pure ?_
  split
  ·rename_i c _ _ _ _ _
   cases (c == Value.type "enumerate")
   ·wp_walk using q1, AutoSeq1.wpAny_loadPart' h1
    exact ⟨_, rfl, h⟩
   ·wp_walk using q1, AutoSeq1.wpAny_loadPart' h1
    exact ⟨_, rfl, h⟩
  ·wp_walk using q1, AutoSeq1.wpAny_loadPart' h1
   exact ⟨_, rfl, h⟩
section
variable {prog : Program} {w : World} {A : Around} {E : Value → Shared → Prop} {s : Shared}
theorem call_enumerate_zip {z TI TO : Addr} {Q : Value → Shared → Prop} (hz : IsZip s.heap z TI TO .none)
  (h : ∀ h', IsEnum h' s.heap.objs.size z 0 .none → h'.objs.size = s.heap.objs.size + 1 →
   (∀ b o, s.heap.get? b = some o → h'.get? b = some o) → Q (.ref s.heap.objs.size) { s with heap := h' }) :
  wpAny (model prog w) A (call (.type "enumerate") [.ref z]) Q E s := by
 refine callType_new F.called_enumerate (by decide) (F.typeCall_enumerate_1 _) (F.newCall_enumerate_1 _) (fun obj => F.args_object_init_2 obj _) F.entry_enumerate_new
  (meets_enumerate_newZ z TI TO) ⟨hz, ?_⟩
 have he : IsEnum (s.heap.push { cls := .type "enumerate", data := .fields #[.none, .bool false, .ref z, rawInt 0, .none, .none] }) s.heap.objs.size z 0 .none := Heap.get?_push_size _ rfl
 exact ⟨⟨_, he, rfl⟩, h _ he (by rw [Heap.size_push]) fun b o x => Heap.get?_push_of_some _ x⟩
end
end EZ
namespace EZ
open PySem PySem.Spec PyProof.Rows L2
def Itez (K : PySem.W.Frag) (a b : Addr) : It :=
 ⟨fun i H => ∃ (xs ys : List V) (x y : V), SqL K H a xs ∧ SqL K H b ys ∧ xs[i]? = some x ∧ ys[i]? = some y,
  fun i H v H' => ∃ T T2 x y, v = .ref T2 ∧ H T = none ∧ H T2 = none ∧ T2 ≠ T ∧ H' = upd (upd H T (.tup [x, y])) T2 (.tup [.int (i : Nat), .ref T]) ∧ (∀ xs, SqL K H a xs → xs[i]? = some x) ∧ ∀ ys, SqL K H b ys → ys[i]? = some y,
  fun i H => ∃ xs ys : List V, SqL K H a xs ∧ SqL K H b ys ∧ (xs.length ≤ i ∨ ys.length ≤ i)⟩
theorem turn_ez {P : Program} {w : World} {K : PySem.W.Frag} {elts : List Expr} {kk : Nat} {tpos : Pos} {a b e z TI TO i1 i2 : Addr} (D : ZipApart z TI TO i1 i2 a b) (ne : ∀ c, (c = z ∨ c = TI ∨ c = TO ∨ c = i1 ∨ c = i2) → c ≠ e) :
  Turn P w K (.Tuple elts kk tpos) (Itez K a b) [e, z, TI, TO, i1, i2] e (fun i h => (∃ old, IsEnum h e z ((i : Nat) : Int) old) ∧ ZSt h z TI TO i1 i2 a b i) where
 mem := by simp
 obj := fun i h st c hc => by
  obtain ⟨⟨old, he⟩, zs⟩ := st
  have e' : c = e ∨ (c = z ∨ c = TI ∨ c = TO ∨ c = i1 ∨ c = i2) := by simpa using hc
  rcases e' with q | q
  ·rw [q]; exact ⟨_, he, fun v q => nomatch q⟩
  ·exact zs.lt c q
 keep := fun i h h' st k => by
  obtain ⟨⟨old, he⟩, zs⟩ := st
  refine ⟨⟨old, k e (by simp) _ he⟩, zs.at fun c hc o q => k c ?_ o q⟩
  have : c = e ∨ (c = z ∨ c = TI ∨ c = TO ∨ c = i1 ∨ c = i2) := .inr hc
  simpa using this
 item := by
  intro X hP hw hK hc i pins s σ H E I hf st hg
  subst hP hw hK
  obtain ⟨⟨old, he⟩, zs⟩ := st
  obtain ⟨xs, ys, x, y, hqx, hqy, hx, hy⟩ := hg
  obtain ⟨its, rv, p, _⟩ := I.list hqx
  obtain ⟨its2, rv2, p2, _⟩ := I.list hqy
  obtain ⟨u, hu, ru⟩ := rv.get hx
  obtain ⟨u2, hu2, ru2⟩ := rv2.get hy
  have hel : e < s.heap.objs.size := Heap.lt_size he
  refine pyNext_ez_item D he zs p.isList p2.isList (x := u) (y := u2) (by simpa using hu) (by simpa using hu2) ne fun h' tk ho zs' hT hT2 hsz hk => ?_
  refine ⟨_, rfl, wpAny_letOwnedTupleGo_enum (s := { s with heap := h', toks := tk + 1 }) ho fun h'' he' sb => ?_⟩
  have hn1 : H s.heap.objs.size = none := I.hok.fresh (Nat.le_refl _)
  have hn2 : H (s.heap.objs.size + 1) = none := I.hok.fresh (Nat.le_succ _)
  have nT : s.heap.objs.size ≠ e := Nat.ne_of_gt hel
  have nT2 : s.heap.objs.size + 1 ≠ e := Nat.ne_of_gt (Nat.lt_succ_of_lt hel)
  have hT' : h''.get? s.heap.objs.size = some { cls := .type "tuple", data := .seq #[u, u2] } := (sb.2 _ nT).trans hT
  have hT2' : h''.get? (s.heap.objs.size + 1) = some { cls := .type "tuple", data := .seq #[.int i tk, .ref s.heap.objs.size] } := (sb.2 _ nT2).trans hT2
  obtain ⟨G, g1, g2⟩ := restrict h'' fun b => decide (b ≠ s.heap.objs.size + 1)
  have gk : ∀ b, b ≠ s.heap.objs.size + 1 → G.get? b = h''.get? b := fun b hb => g1 b (decide_eq_true hb)
  have ge : G.get? (s.heap.objs.size + 1) = none := g2 _ (by simp)
  have gs : ∀ b o, G.get? b = some o → h''.get? b = some o := fun b o q => by
   by_cases hb : b = s.heap.objs.size + 1
   ·rw [hb, ge] at q; cases q
   ·rw [← gk b hb]; exact q
  have new1 : ObjOk X.prog X.w (upd H s.heap.objs.size (.tup [x, y])) G s.heap.objs.size (.tup [x, y]) :=
   ⟨by show 2 ≤ sizeLine; decide, [u, u2], .cons ru (.cons ru2 .nil), ⟨_, (gk _ (Nat.ne_of_lt (Nat.lt_succ_self _))).trans hT', rfl, _, rfl⟩⟩
  have hfr : ∀ c o, c ∉ [e, z, TI, TO, i1, i2] → s.heap.get? c = some o → G.get? c = some o := fun c o hb q => by
   rw [gk c (Nat.ne_of_lt (Nat.lt_succ_of_lt (Heap.lt_size q)))]
   exact (sb.2 c (fun q' => hb (by simp [q']))).trans (hk c o (fun q' => hb (by simp [q'])) (fun q' => hb (by simp [q'])) (fun q' => hb (by simp [q'])) (fun q' => hb (by simp [q'])) (fun q' => hb (by simp [q'])) q)
  have I1 : Inv X pins σ (upd H s.heap.objs.size (.tup [x, y])) { s with heap := G, toks := tk + 1 } := I.turnedNew (t' := tk + 1) hfr hf (Nat.le_refl _) new1
  have hn2' : upd H s.heap.objs.size (.tup [x, y]) (s.heap.objs.size + 1) = none := by rw [upd_ne (Nat.succ_ne_self _)]; exact hn2
  have new2 : ObjOk X.prog X.w (upd (upd H s.heap.objs.size (.tup [x, y])) (s.heap.objs.size + 1) (.tup [.int (i : Nat), .ref s.heap.objs.size])) h'' (s.heap.objs.size + 1) (.tup [.int (i : Nat), .ref s.heap.objs.size]) :=
   ⟨by show 2 ≤ sizeLine; decide, [.int i tk, .ref s.heap.objs.size], .cons ⟨_, rfl⟩ (.cons rfl .nil), ⟨_, hT2', rfl, _, rfl⟩⟩
  have flt : ∀ c, c ∈ [e, z, TI, TO, i1, i2] → c < s.heap.objs.size := fun c hcm => by
   have e' : c = e ∨ (c = z ∨ c = TI ∨ c = TO ∨ c = i1 ∨ c = i2) := by simpa using hcm
   rcases e' with q | q
   ·rw [q]; exact hel
   ·obtain ⟨o, q2, _⟩ := zs.lt c q
    exact Heap.lt_size q2
  have I2 : Inv X pins σ (upd (upd H s.heap.objs.size (.tup [x, y])) (s.heap.objs.size + 1) (.tup [.int (i : Nat), .ref s.heap.objs.size])) { s with heap := h'', toks := tk + 1 } := I1.laidN (t' := tk + 1) gs ge hn2' new2
  refine ⟨.ref (s.heap.objs.size + 1), _, I2, rfl, ⟨_, _, x, y, rfl, hn1, hn2, Nat.succ_ne_self _, rfl, fun l hl => by rw [I.list_inj hl hqx]; exact hx, fun l hl => by rw [I.list_inj hl hqy]; exact hy⟩, ⟨⟨.ref s.heap.objs.size, ?_⟩, zs'.at fun c hc o q => (sb.2 c (ne c hc)).trans q⟩, fun c hcm => ?_⟩
  ·have e1 : ((i + 1 : Nat) : Int) = (i : Int) + 1 := by omega
   rw [e1]; exact he'
  ·have lt := flt c hcm
   rw [upd_ne (Nat.ne_of_lt (Nat.lt_succ_of_lt lt)), upd_ne (Nat.ne_of_lt lt)]
   exact (hf c hcm).1
 done := by
  intro X hP hw hK hc i pins s σ H E I hf st hg
  subst hP hw hK
  obtain ⟨⟨old, he⟩, zs⟩ := st
  obtain ⟨xs, ys, hqx, hqy, hend⟩ := hg
  obtain ⟨its, rv, p, _⟩ := I.list hqx
  obtain ⟨its2, rv2, p2, _⟩ := I.list hqy
  have l1 := rv.length
  have l2 := rv2.length
  have hen : its.toArray[i]? = none ∨ its2.toArray[i]? = none := by
   rcases hend with q | q
   ·exact .inl (by simp; omega)
   ·exact .inr (by simp; omega)
  exact pyNext_ez_end (I.ok.hd hc) D he zs p.isList p2.isList hen fun h' hk => ⟨rfl, I.turnedL (t' := s.toks) (ch := [e, z, TI, TO, i1, i2]) (fun c o hb q =>
   hk c o (fun q' => hb (by simp [q'])) (fun q' => hb (by simp [q'])) (fun q' => hb (by simp [q'])) (fun q' => hb (by simp [q'])) q) hf⟩
 self := fun A i s Q E st h => let ⟨⟨_, he⟩, _⟩ := st; wpAny_pyIter_enum he h
def iEZ (K : PySem.W.Frag) (ta : TA) : TI := fun σ H R => ta σ H fun vs H1 => ∃ a b xs ys, vs = [.ref a, .ref b] ∧ SqL K H1 a xs ∧ SqL K H1 b ys ∧ R (Itez K a b) H1
theorem pi_ez {X : Cx} {e e2 : Expr} {ta : TA} {p p2 pos pos2 tpos : Pos} {elts : List Expr} {kk : Nat} (hg : Gl X "zip") (hm : X.mg "zip" = none) (hg2 : Gl X "enumerate") (hm2 : X.mg "enumerate" = none) (ha : PA X [e, e2] ta)
  (hs : starEach [e, e2] X.env = (false, eval e X.env) :: starEach [e2] X.env := by rfl) (hpl : (backTo pos2 (starEach [e2] X.env)).any (·.1) = false := by rfl) :
  PI X (.Tuple elts kk tpos) (.Call (.Name "enumerate" p) [.Call (.Name "zip" p2) [e, e2] [] pos2] [] pos) (iEZ X.K ta) := by
 refine ⟨fun pins s σ H R I h => ?_⟩
 refine Call_ (ld_blt I hg2 hm2 boot_enumerate (PyProof.Rows.callWith_type1 ?_ rfl rfl))
 show wpAny _ _ (spliced ((false, eval (.Call (.Name "zip" p2) [e, e2] [] pos2) X.env) :: [])) _ _ s
 refine Calls.spliced_cons ?_
 refine Call_ (ld_blt I hg hm PyProof.Rows.boot_zip (PyProof.Rows.callWith_type1 (thn (ha.run pos2 pins s σ H _ I h) fun us s1 ⟨vs, H1, I1, r1, q1⟩ => ?_) hs hpl))
 obtain ⟨a, b, xs, ys, ex, hqx, hqy, q⟩ := q1
 subst ex
 cases r1 with
 | cons r rr =>
  cases rr with
  | cons r' rr =>
   cases rr
   cases r
   cases r'
   obtain ⟨its, rv, p1, _⟩ := I1.list hqx
   obtain ⟨its2, rv2, p2, _⟩ := I1.list hqy
   have la : a < s1.heap.objs.size := p1.lt
   have lb : b < s1.heap.objs.size := p2.lt
   refine call_zip_2 p1.isList p2.isList fun h' hz hTI hTO h1 h2 hsz hk => Calls.spliced_nil ?_
   refine call_enumerate_zip (s := { s1 with heap := h' }) hz fun h'' he hsz2 hk2 => wpAny_pyIter_enum he ?_
   have kk : ∀ b o, s1.heap.get? b = some o → h''.get? b = some o := fun b o q => hk2 b o (hk b o q)
   have I2 : Inv X pins σ H1 { s1 with heap := h'' } := I1.kept (t' := s1.toks) kk
   have D := PySem.W.ktu_apart s1.heap.objs.size a b la lb
   have hsz' : h'.objs.size = s1.heap.objs.size + 5 := hsz
   refine ⟨h'.objs.size, [h'.objs.size, s1.heap.objs.size + 4, s1.heap.objs.size + 2, s1.heap.objs.size + 3, s1.heap.objs.size, s1.heap.objs.size + 1], _, _, H1, rfl, I2, turn_ez D (fun c hc => ?_), ⟨⟨.none, he⟩, ⟨.inl (hk2 _ _ hz), hk2 _ _ hTI, ⟨_, _, hk2 _ _ hTO⟩, h1.at fun o q => hk2 _ o q, h2.at fun o q => hk2 _ o q⟩⟩, fun c hcm => ?_, q⟩
   ·rw [hsz']
    rcases hc with z | z | z | z | z <;> (rw [z]; exact Nat.ne_of_lt (by omega))
   ·have e' : c = h'.objs.size ∨ c = s1.heap.objs.size + 4 ∨ c = s1.heap.objs.size + 2 ∨ c = s1.heap.objs.size + 3 ∨ c = s1.heap.objs.size ∨ c = s1.heap.objs.size + 1 := by simpa using hcm
    have hle : s1.heap.objs.size ≤ c := by
     rcases e' with z | z | z | z | z | z
     ·rw [z, hsz']; exact Nat.le_add_right _ _
     ·rw [z]; exact Nat.le_add_right _ _
     ·rw [z]; exact Nat.le_add_right _ _
     ·rw [z]; exact Nat.le_add_right _ _
     ·rw [z]; exact Nat.le_refl _
     ·rw [z]; exact Nat.le_add_right _ _
    exact I1.fpOk hle (I1.hok.fresh hle)
end EZ
namespace EZ
open PySem PySem.Spec PyProof.Rows L2
section
variable {prog : Program} {w : World} {A : Around} {E : Value → Shared → Prop} {s : Shared}
theorem pyNext_zs_item {z TI TO i1 i2 l1 l2 : Addr} {k : Nat} {xs ys : Array Value} {x y : Value} {Q : Option Value → Shared → Prop} (D : ZipApart z TI TO i1 i2 l1 l2)
  (st : ZSt s.heap z TI TO i1 i2 l1 l2 k) (hl1 : s.heap.IsList l1 xs) (hl2 : s.heap.IsList l2 ys) (hx : xs[k]? = some x) (hy : ys[k]? = some y)
  (hQ : ∀ h', ZSt h' z TI TO i1 i2 l1 l2 (k + 1) → IsPair h' s.heap.objs.size x y → h'.objs.size = s.heap.objs.size + 1 →
   (∀ c o, c ≠ z → c ≠ TO → c ≠ i1 → c ≠ i2 → s.heap.get? c = some o → h'.get? c = some o) → Q (some (.ref s.heap.objs.size)) { s with heap := h' }) :
  wpAny (model prog w) A (pyNext (.ref z)) Q E s := by
 have hT := st.typeIs (h := s.heap)
 obtain ⟨x0, y0, hTO⟩ := st.to
 unfold pyNext
 refine wpAny_bind (wpAny_attempt (wpAny_callSpecial?_slot (name := Str.ofString "__next__") hT F.slot_zip_next
  (wpAny_call_entry F.slot_zip_next hT F.entry_zip_next ?_ (F.args_zip_next_1 _))))
 rcases st.zip with e | ⟨T, f, e⟩
 ·refine zip_next_item D e st.ti hTO st.it1 st.it2 hl1 hl2 hx hy fun h' a1 a2 a3 a4 a5 a6 a7 => wpAny_pure (hQ h' ⟨.inr ⟨_, _, a1⟩, ?_, ⟨_, _, a2⟩, a3, a4⟩ a5 a6 a7)
  exact a7 _ _ D.TIz D.TITO D.TIi1 D.TIi2 st.ti
 ·cases hT : s.heap.get? T with
  | none =>
   refine gone_item D e hT st.ti hTO st.it1 st.it2 hl1 hl2 hx hy fun h' a1 a2 a3 a4 a5 a6 a7 => wpAny_pure (hQ h' ⟨.inr ⟨_, _, a1⟩, ?_, ⟨_, _, a2⟩, a3, a4⟩ a5 a6 a7)
   exact a7 _ _ D.TIz D.TITO D.TIi1 D.TIi2 st.ti
  | some oT =>
   refine zip_next_item_held D e hT st.ti st.it1 st.it2 hl1 hl2 hx hy fun h' a1 a3 a4 a5 a6 a7 => wpAny_pure (hQ h' ⟨.inr ⟨_, _, a1⟩, ?_, ⟨_, _, a7 _ _ D.TOz D.TOi1 D.TOi2 hTO⟩, a3, a4⟩ a5 a6 fun c o c1 _ c3 c4 q => a7 c o c1 c3 c4 q)
   exact a7 _ _ D.TIz D.TIi1 D.TIi2 st.ti
theorem pyNext_zs_end {z TI TO i1 i2 l1 l2 : Addr} {k : Nat} {xs ys : Array Value} {Q : Option Value → Shared → Prop} (hh : A.handled = none) (D : ZipApart z TI TO i1 i2 l1 l2)
  (st : ZSt s.heap z TI TO i1 i2 l1 l2 k) (hl1 : s.heap.IsList l1 xs) (hl2 : s.heap.IsList l2 ys) (hend : xs[k]? = none ∨ ys[k]? = none)
  (hQ : ∀ h', (∀ c o, c ≠ z → c ≠ TO → c ≠ i1 → c ≠ i2 → s.heap.get? c = some o → h'.get? c = some o) → Q none { s with heap := h' }) : wpAny (model prog w) A (pyNext (.ref z)) Q E s := by
 have hT := st.typeIs (h := s.heap)
 obtain ⟨x0, y0, hTO⟩ := st.to
 have fin : ∀ h' e, (∀ c o, c ≠ z → c ≠ TO → c ≠ i1 → c ≠ i2 → s.heap.get? c = some o → h'.get? c = some o) → (∃ o, h'.get? e = some o ∧ o.cls = .type "StopIteration") →
   wpAny (model prog w) A (do if ← isInstance (.ref e) (.type "StopIteration") then return none else throw (.ref e)) Q E { s with heap := h' } := fun h' e hk ⟨o, ho, hc⟩ => by
  refine wpAny_bind (wpAny_isInstance (T := "StopIteration") (b := true) ⟨o, ho, hc⟩ isSubtype_stop ?_)
  exact wpAny_pure (hQ _ hk)
 unfold pyNext
 refine wpAny_bind (wpAny_attempt (wpAny_callSpecial?_slot (name := Str.ofString "__next__") hT F.slot_zip_next
  (wpAny_call_entry F.slot_zip_next hT F.entry_zip_next ?_ (F.args_zip_next_1 _))))
 rcases st.zip with e | ⟨T, f, e⟩
 ·exact zip_next_end hh D e st.ti hTO st.it1 st.it2 hl1 hl2 hend fun h' e hk he => fin h' e hk he
 ·cases hT : s.heap.get? T with
  | none => exact gone_end hh D e hT st.ti hTO st.it1 st.it2 hl1 hl2 hend fun h' e hk he => fin h' e hk he
  | some oT => exact zip_next_end_held hh D e hT st.ti st.it1 st.it2 hl1 hl2 hend fun h' e hk he => fin h' e (fun c o c1 _ c3 c4 q => hk c o c1 c3 c4 q) he
end
theorem turn_zn {P : Program} {w : World} {K : PySem.W.Frag} {nm : Str} {tpos : Pos} {a b z TI TO i1 i2 : Addr} (D : ZipApart z TI TO i1 i2 a b) :
  Turn P w K (.Name nm tpos) (Itz K a b) [z, TI, TO, i1, i2] z (fun i h => ZSt h z TI TO i1 i2 a b i) where
 mem := by simp
 obj := fun i h zs c hc => by
  have e' : c = z ∨ c = TI ∨ c = TO ∨ c = i1 ∨ c = i2 := by simpa using hc
  exact zs.lt c e'
 keep := fun i h h' zs k => zs.at fun c hc o q => k c (by simpa using hc) o q
 item := by
  intro X hP hw hK hc i pins s σ H E I hf zs hg
  subst hP hw hK
  obtain ⟨xs, ys, x, y, hqx, hqy, hx, hy⟩ := hg
  obtain ⟨its, rv, p, _⟩ := I.list hqx
  obtain ⟨its2, rv2, p2, _⟩ := I.list hqy
  obtain ⟨u, hu, ru⟩ := rv.get hx
  obtain ⟨u2, hu2, ru2⟩ := rv2.get hy
  refine pyNext_zs_item D zs p.isList p2.isList (x := u) (y := u2) (by simpa using hu) (by simpa using hu2) fun h' zs' hT hsz hk => ?_
  refine ⟨_, rfl, ?_⟩
  show wpAny _ _ (pure ()) _ _ _
  refine wpAny_pure ?_
  have new : ObjOk X.prog X.w (upd H s.heap.objs.size (.tup [x, y])) h' s.heap.objs.size (.tup [x, y]) :=
   ⟨by show 2 ≤ sizeLine; decide, [u, u2], .cons ru (.cons ru2 .nil), ⟨_, hT, rfl, _, rfl⟩⟩
  have I1 : Inv X pins σ (upd H s.heap.objs.size (.tup [x, y])) { s with heap := h' } :=
   I.turnedNew (t' := s.toks) (ch := [z, TI, TO, i1, i2]) (fun c o hb q => hk c o (fun q' => hb (by simp [q'])) (fun q' => hb (by simp [q'])) (fun q' => hb (by simp [q'])) (fun q' => hb (by simp [q'])) q) hf (Nat.le_refl _) new
  refine ⟨.ref s.heap.objs.size, _, I1, rfl, ⟨_, x, y, rfl, I.hok.fresh (Nat.le_refl _), rfl, fun l hl => by rw [I.list_inj hl hqx]; exact hx, fun l hl => by rw [I.list_inj hl hqy]; exact hy⟩, zs', fun c hcm => ?_⟩
  have hlt : c < s.heap.objs.size := by
   obtain ⟨o, q, _⟩ := zs.lt c (by simpa using hcm)
   exact Heap.lt_size q
  rw [upd_ne (Nat.ne_of_lt hlt)]
  exact (hf c hcm).1
 done := by
  intro X hP hw hK hc i pins s σ H E I hf zs hg
  subst hP hw hK
  obtain ⟨xs, ys, hqx, hqy, hend⟩ := hg
  obtain ⟨its, rv, p, _⟩ := I.list hqx
  obtain ⟨its2, rv2, p2, _⟩ := I.list hqy
  have l1 := rv.length
  have l2 := rv2.length
  have hen : its.toArray[i]? = none ∨ its2.toArray[i]? = none := by
   rcases hend with q | q
   ·exact .inl (by simp; omega)
   ·exact .inr (by simp; omega)
  exact pyNext_zs_end (I.ok.hd hc) D zs p.isList p2.isList hen fun h' hk => ⟨rfl, I.turnedL (t' := s.toks) (ch := [z, TI, TO, i1, i2]) (fun c o hb q =>
   hk c o (fun q' => hb (by simp [q'])) (fun q' => hb (by simp [q'])) (fun q' => hb (by simp [q'])) (fun q' => hb (by simp [q'])) q) hf⟩
 self := fun A i s Q E zs h => by
  rcases zs.zip with e | ⟨T, f, e⟩
  ·exact wpAny_pyIter_zip e h
  ·have hT : s.TypeIs (.ref z) "zip" := ⟨_, e, rfl⟩
   refine wpAny_pyIter_slot hT F.slot_zip_iter (wpAny_call_entry F.slot_zip_iter hT F.entry_zip_iter ?_ (F.args_zip_iter_1 _))
   show wpAny _ _ (ret (.ref z)) _ _ s
   exact wpAny_pure ⟨_, rfl, "zip", _, hT, F.slot_zip_next.lookup, h⟩
theorem pi_zn {X : Cx} {e e2 : Expr} {ta : TA} {p pos tpos : Pos} {nm : Str} (hg : Gl X "zip") (hm : X.mg "zip" = none) (ha : PA X [e, e2] ta)
  (hs : starEach [e, e2] X.env = (false, eval e X.env) :: starEach [e2] X.env := by rfl) (hpl : (backTo pos (starEach [e2] X.env)).any (·.1) = false := by rfl) :
  PI X (.Name nm tpos) (.Call (.Name "zip" p) [e, e2] [] pos) (iZip X.K ta) := by
 refine ⟨fun pins s σ H R I h => ?_⟩
 refine Call_ (ld_blt I hg hm PyProof.Rows.boot_zip (PyProof.Rows.callWith_type1 (thn (ha.run pos pins s σ H _ I h) fun us s1 ⟨vs, H1, I1, r1, q1⟩ => ?_) hs hpl))
 obtain ⟨a, b, xs, ys, ex, hqx, hqy, q⟩ := q1
 subst ex
 cases r1 with
 | cons r rr =>
  cases rr with
  | cons r' rr =>
   cases rr
   cases r
   cases r'
   obtain ⟨its, rv, p1, _⟩ := I1.list hqx
   obtain ⟨its2, rv2, p2, _⟩ := I1.list hqy
   have la : a < s1.heap.objs.size := p1.lt
   have lb : b < s1.heap.objs.size := p2.lt
   refine call_zip_2 p1.isList p2.isList fun h' hz hTI hTO h1 h2 hsz hk => wpAny_pyIter_zip hz ?_
   have I2 : Inv X pins σ H1 { s1 with heap := h' } := I1.kept (t' := s1.toks) hk
   refine ⟨s1.heap.objs.size + 4, [s1.heap.objs.size + 4, s1.heap.objs.size + 2, s1.heap.objs.size + 3, s1.heap.objs.size, s1.heap.objs.size + 1], _, _, H1, rfl, I2, turn_zn (PySem.W.ktu_apart s1.heap.objs.size a b la lb), ⟨.inl hz, hTI, ⟨_, _, hTO⟩, h1, h2⟩, fun c hcm => ?_, q⟩
   have e' : c = s1.heap.objs.size + 4 ∨ c = s1.heap.objs.size + 2 ∨ c = s1.heap.objs.size + 3 ∨ c = s1.heap.objs.size ∨ c = s1.heap.objs.size + 1 := by simpa using hcm
   have hle : s1.heap.objs.size ≤ c := by
    rcases e' with z | z | z | z | z
    ·rw [z]; exact Nat.le_add_right _ _
    ·rw [z]; exact Nat.le_add_right _ _
    ·rw [z]; exact Nat.le_add_right _ _
    ·rw [z]; exact Nat.le_refl _
    ·rw [z]; exact Nat.le_add_right _ _
   exact I1.fpOk hle (I1.hok.fresh hle)
end EZ
namespace Y
open PySem PySem.Spec L2
def YD (R : Fr) (F1 : Hp) (items : List D) (n : Bool) : Nat → Hp → V → Hp → Prop := fun i H x H' => ∃ d, items[i]? = some d ∧
 ((H' = H ∧ At R.K (FN R.H0 F1 n) x d) ∨ (∃ T a b da db, x = .ref T ∧ H T = none ∧ H' = upd H T (.tup [a, b]) ∧ d = .tup [da, db] ∧ At R.K (FN R.H0 F1 n) a da ∧ At R.K (FN R.H0 F1 n) b db) ∨
  ∃ T T2 a b c da db dc, x = .ref T2 ∧ H T = none ∧ H T2 = none ∧ T2 ≠ T ∧ H' = upd (upd H T (.tup [b, c])) T2 (.tup [a, .ref T]) ∧ d = .tup [da, .tup [db, dc]] ∧ At R.K (FN R.H0 F1 n) a da ∧ At R.K (FN R.H0 F1 n) b db ∧ At R.K (FN R.H0 F1 n) c dc)
structure IterOk (R : Fr) (J : It) (F1 : Hp) (items : List D) (n : Bool) : Prop where
 w : ∃ Gd, Walk J items.length Gd (YD R F1 items n) ∧ ∀ H, Same F1 H → Gd H
def TI_ (R : Fr) (W : XK) (E : Ev) (k : ItK) (its : List C) : TI := fun σ H Rr => ∃ F g, Rel R F g σ H ∧
 wp (evV E its g) (fun (ss, g') => match itemsK k ss with
  | some (items, n) => ∀ J F' H', Rel R F' g' σ H' → Step g σ F H g' F' H' → IterOk R J F' items n → Rr J H'
  | none => False) (ExW R W)
section
variable {R : Fr} {F H F1 : Hp} {g : G} {σ : L2.St} {n : Bool} {items : List D}
theorem YD.go {i : Nat} {x : V} {H' : Hp} (y : YD R F1 items n i H x H') (r : Rel R F g σ H) (e : Same F1 F) : ∃ d F', items[i]? = some d ∧ Rel R F' g σ H' ∧ Step g σ F H g F' H' ∧ At R.K (FN R.H0 F' n) x d := by
 obtain ⟨d, hd, ⟨rfl, h⟩ | ⟨T, a, b, da, db, rfl, hT, rfl, rfl, ha, hb⟩ | ⟨T, T2, a, b, c, da, db, dc, rfl, hT, hT2, ne, rfl, rfl, ha, hb, hc⟩⟩ := y
 ·exact ⟨d, F, hd, r, Step.refl _ _ _ _, At.mono (FN_mono e) _ _ h⟩
 ·obtain ⟨f0, h0, no⟩ := r.fresh hT
  have e1 : Same (FN R.H0 F1 n) (FN R.H0 (upd F T (.tup [a, b])) n) := FN_mono (e.trans (same_upd f0))
  refine ⟨.tup [da, db], upd F T (.tup [a, b]), hd, (r.alloc hT).freeze f0 upd_same no h0 nt_tup, (Step.alloc r hT).freeze hT f0, .tup (vs := [a, b]) ?_ (.cons (At.mono e1 _ _ ha) (.cons (At.mono e1 _ _ hb) .nil))⟩
  rw [FN_new h0, upd_same]
 ·obtain ⟨f0, h0, no⟩ := r.fresh hT
  have r1 := (r.alloc hT).freeze (o := .tup [b, c]) f0 upd_same no h0 nt_tup
  have st1 : Step g σ F H g (upd F T (.tup [b, c])) (upd H T (.tup [b, c])) := (Step.alloc r hT).freeze hT f0
  have hT3 : upd H T (.tup [b, c]) T2 = none := by rw [upd_ne ne]; exact hT2
  obtain ⟨f2, h2, no2⟩ := r1.fresh hT3
  have e0 : Same F1 (upd (upd F T (.tup [b, c])) T2 (.tup [a, .ref T])) := (e.trans (same_upd f0)).trans (same_upd f2)
  have e1 : Same (FN R.H0 F1 n) (FN R.H0 (upd (upd F T (.tup [b, c])) T2 (.tup [a, .ref T])) n) := FN_mono e0
  refine ⟨.tup [da, .tup [db, dc]], upd (upd F T (.tup [b, c])) T2 (.tup [a, .ref T]), hd, (r1.alloc hT3).freeze f2 upd_same no2 h2 nt_tup, st1.trans ((Step.alloc r1 hT3).freeze hT3 f2), .tup (vs := [a, .ref T]) ?_ (.cons (At.mono e1 _ _ ha) (.cons (.tup (vs := [b, c]) ?_ (.cons (At.mono e1 _ _ hb) (.cons (At.mono e1 _ _ hc) .nil))) .nil))⟩
  ·rw [FN_new h2, upd_same]
  ·rw [FN_new h0, upd_ne (Ne.symm ne), upd_same]
theorem IterOk.by {J : It} {m : Nat} {Gd : Hp → Prop} (w : Walk J m Gd (YD R F items n)) (hl : m = items.length) (hG : ∀ H, Same F H → Gd H) : IterOk R J F items n := ⟨_, hl ▸ w, hG⟩
theorem iter_lst {a : Addr} {vs : List V} {ds : List D} (h : F a = some (.lst vs)) (hp : Paired (At R.K (FN R.H0 F n)) vs ds) : IterOk R (Itl R.K a) F ds n := by
 refine .by ((walk_list (K := R.K) (a := a) (xs := vs)).mono (G' := fun H => Same F H) (fun H e => SqL.of (e _ _ h)) fun i H x H' hi _ ⟨h1, h2⟩ => ?_) (hp.length) fun H e => e
 obtain ⟨d, h3, h4⟩ := hp.yatL h2
 exact ⟨d, h3, .inl ⟨h1, h4⟩⟩
theorem iter_scr {a : Addr} {ns : List Int} (h : SqL R.K F a (ns.map V.int)) : IterOk R (Itl R.K a) F (ns.map .int) n := by
 refine .by ((walk_list (K := R.K) (a := a) (xs := ns.map V.int)).mono (G' := fun H => Same F H) (fun H e => e.seq h) fun i H x H' hi _ ⟨h1, h2⟩ => ?_) (by rw [List.length_map, List.length_map]) fun H e => e
 rw [List.getElem?_map] at h2
 cases q : ns[i]? with
 | none => rw [q] at h2; cases h2
 | some m =>
  rw [q] at h2
  cases h2
  exact ⟨.int m, by rw [List.getElem?_map, q]; rfl, .inl ⟨h1, .int m⟩⟩
theorem iter_tup {a : Addr} {vs : List V} {ds : List D} (h : F a = some (.tup vs)) (hp : Paired (At R.K (FN R.H0 F n)) vs ds) : IterOk R (Itt R.K a) F ds n := by
 refine .by ((walk_tup (K := R.K) (a := a) (xs := vs)).mono (G' := fun H => Same F H) (fun H e => SqT.of (e _ _ h)) fun i H x H' hi _ ⟨h1, h2⟩ => ?_) (hp.length) fun H e => e
 obtain ⟨d, h3, h4⟩ := hp.yatL h2
 exact ⟨d, h3, .inl ⟨h1, h4⟩⟩
theorem strItems_len (z : Str) : (strItems z).length = z.cps.size := by
 unfold strItems
 rw [List.length_map, Array.length_toList]
theorem iter_str {z : Str} : IterOk R (Its z) F (strItems z) n := by
 refine .by ((walk_str (z := z)).mono (G' := fun _ => True) (fun H e => e) fun i H x H' hi _ ⟨h1, c, h2, h3⟩ => ?_) ((strItems_len z).symm) fun H e => trivial
 subst h3
 refine ⟨.str ⟨#[c]⟩, ?_, .inl ⟨h1, .str _⟩⟩
 unfold strItems
 rw [List.getElem?_map, Array.getElem?_toList, h2]
 rfl
theorem rngL_len (lo : Int) (m : Nat) (c : Int) : (rngL lo m c).length = m := by
 unfold rngL
 rw [List.length_map, List.length_range]
theorem rngL_at {lo : Int} {m : Nat} {c : Int} {i : Nat} (h : i < m) : (rngL lo m c)[i]? = some (.int (lo + (i : Int) * c)) := by
 unfold rngL
 rw [List.getElem?_map, List.getElem?_range h]
 rfl
theorem iter_rng {lo : Int} {m : Nat} : IterOk R (Itr lo m) F (rngL lo m 1) n := by
 refine .by ((walk_range (lo := lo) (n := m)).mono (G' := fun _ => True) (fun H e => e) fun i H x H' hi _ ⟨h1, h2⟩ => ?_) ((rngL_len _ _ _).symm) fun H e => trivial
 subst h2
 refine ⟨_, rngL_at hi, .inl ⟨h1, ?_⟩⟩
 rw [Int.mul_one]
 exact .int _
theorem iter_rngC {lo c : Int} {m : Nat} : IterOk R (Itc lo c m) F (rngL lo m c) n := by
 refine .by ((walk_rangeC (lo := lo) (c := c) (n := m)).mono (G' := fun _ => True) (fun H e => e) fun i H x H' hi _ ⟨h1, h2⟩ => ?_) ((rngL_len _ _ _).symm) fun H e => trivial
 subst h2
 exact ⟨_, rngL_at hi, .inl ⟨h1, .int _⟩⟩
theorem iter_enum {a : Addr} {vs : List V} {ds : List D} (h : F a = some (.lst vs)) (hp : Paired (At R.K (FN R.H0 F n)) vs ds) : IterOk R (Ite R.K a) F (enumL ds) n := by
 refine .by ((walk_enum (K := R.K) (a := a) (xs := vs)).mono (G' := fun H => Same F H) (fun H e => SqL.of (e _ _ h)) fun i H x H' hi _ ⟨T, p, q, h1, h2, h3, h4, h5⟩ => ?_) (by unfold enumL; rw [List.length_map, List.length_zipIdx, hp.length]) fun H e => e
 obtain ⟨d, h6, h7⟩ := hp.yatL h5
 cases h4
 refine ⟨.tup [.int (i : Nat), d], ?_, .inr (.inl ⟨T, _, q, _, d, h1, h2, h3, rfl, .int _, h7⟩)⟩
 unfold enumL
 rw [List.getElem?_map, List.getElem?_zipIdx, h6]
 simp
theorem zip_at {xs ys : List D} {i : Nat} {a b : D} (h1 : xs[i]? = some a) (h2 : ys[i]? = some b) : (zipL xs ys)[i]? = some (.tup [a, b]) := by
 unfold zipL
 rw [List.getElem?_map]
 have : (xs.zip ys)[i]? = some (a, b) := by
  rw [List.getElem?_zip_eq_some]
  exact ⟨h1, h2⟩
 rw [this]
 rfl
theorem zip_len {xs ys : List D} : (zipL xs ys).length = min xs.length ys.length := by
 unfold zipL
 rw [List.length_map, List.length_zip]
theorem walk_zipT {K : PySem.W.Frag} {a b : Addr} {xs ys : List V} {n : Nat} (hn : n = min xs.length ys.length) : Walk (RZ.ItzT K a b) n (fun H => SqT K H a xs ∧ SqT K H b ys) (YPair (fun i => xs[i]?) (fun i => ys[i]?)) := by
 subst hn
 refine ⟨fun i _ hi q => ?_, fun _ q => ⟨xs, ys, q.1, q.2, by omega⟩, fun i H v H' _ q y => ?_⟩
 ·have h1 : i < xs.length := by omega
  have h2 : i < ys.length := by omega
  exact ⟨xs, ys, xs[i], ys[i], q.1, q.2, by simp [h1], by simp [h2]⟩
 ·obtain ⟨T, x, z, h1, h2, h3, h4, h5⟩ := y
  exact ⟨T, x, z, h1, h2, h3, h4 xs q.1, h5 ys q.2⟩
theorem iter_zip {a b : Addr} {vs ws : List V} {ds es : List D} (h : F a = some (.lst vs)) (h' : F b = some (.lst ws)) (hp : Paired (At R.K (FN R.H0 F n)) vs ds) (hp' : Paired (At R.K (FN R.H0 F n)) ws es) : IterOk R (Itz R.K a b) F (zipL ds es) n := by
 refine .by ((walk_zip (K := R.K) (a := a) (b := b) (xs := vs) (ys := ws) rfl).mono (G' := fun H => Same F H) (fun H e => ⟨SqL.of (e _ _ h), SqL.of (e _ _ h')⟩) fun i H x H' hi _ ⟨T, p, q, h1, h2, h3, h4, h5⟩ => ?_) (by rw [zip_len, hp.length, hp'.length]) fun H e => e
 obtain ⟨d, h6, h7⟩ := hp.yatL h4
 obtain ⟨d', h8, h9⟩ := hp'.yatL h5
 exact ⟨.tup [d, d'], zip_at h6 h8, .inr (.inl ⟨T, p, q, d, d', h1, h2, h3, rfl, h7, h9⟩)⟩
theorem iter_zipT {a b : Addr} {vs ws : List V} {ds es : List D} (h : F a = some (.tup vs)) (h' : F b = some (.tup ws)) (hp : Paired (At R.K (FN R.H0 F n)) vs ds) (hp' : Paired (At R.K (FN R.H0 F n)) ws es) : IterOk R (RZ.ItzT R.K a b) F (zipL ds es) n := by
 refine .by ((walk_zipT (K := R.K) (a := a) (b := b) (xs := vs) (ys := ws) rfl).mono (G' := fun H => Same F H) (fun H e => ⟨SqT.of (e _ _ h), SqT.of (e _ _ h')⟩) fun i H x H' hi _ ⟨T, p, q, h1, h2, h3, h4, h5⟩ => ?_) (by rw [zip_len, hp.length, hp'.length]) fun H e => e
 obtain ⟨d, h6, h7⟩ := hp.yatL h4
 obtain ⟨d', h8, h9⟩ := hp'.yatL h5
 exact ⟨.tup [d, d'], zip_at h6 h8, .inr (.inl ⟨T, p, q, d, d', h1, h2, h3, rfl, h7, h9⟩)⟩
theorem walk_ez {K : PySem.W.Frag} {a b : Addr} {xs ys : List V} {n : Nat} (hn : n = min xs.length ys.length) : Walk (EZ.Itez K a b) n (fun H => SqL K H a xs ∧ SqL K H b ys)
  (fun i H v H' => ∃ T T2 x y, v = .ref T2 ∧ H T = none ∧ H T2 = none ∧ T2 ≠ T ∧ H' = upd (upd H T (.tup [x, y])) T2 (.tup [.int (i : Nat), .ref T]) ∧ xs[i]? = some x ∧ ys[i]? = some y) := by
 subst hn
 refine ⟨fun i _ hi q => ?_, fun _ q => ⟨xs, ys, q.1, q.2, by omega⟩, fun i H v H' _ q y => ?_⟩
 ·have h1 : i < xs.length := by omega
  have h2 : i < ys.length := by omega
  exact ⟨xs, ys, xs[i], ys[i], q.1, q.2, by simp [h1], by simp [h2]⟩
 ·obtain ⟨T, T2, x, z, h1, h2, h3, h4, h5, h6, h7⟩ := y
  exact ⟨T, T2, x, z, h1, h2, h3, h4, h5, h6 xs q.1, h7 ys q.2⟩
theorem iter_ezip {a b : Addr} {vs ws : List V} {ds es : List D} (h : F a = some (.lst vs)) (h' : F b = some (.lst ws)) (hp : Paired (At R.K (FN R.H0 F n)) vs ds) (hp' : Paired (At R.K (FN R.H0 F n)) ws es) : IterOk R (EZ.Itez R.K a b) F (enumL (zipL ds es)) n := by
 refine .by ((walk_ez (K := R.K) (a := a) (b := b) (xs := vs) (ys := ws) rfl).mono (G' := fun H => Same F H) (fun H e => ⟨SqL.of (e _ _ h), SqL.of (e _ _ h')⟩) fun i H x H' hi _ ⟨T, T2, p, q, h1, h2, h3, ne, h3', h4, h5⟩ => ?_) (by unfold enumL; rw [List.length_map, List.length_zipIdx, zip_len, hp.length, hp'.length]) fun H e => e
 obtain ⟨d, h6, h7⟩ := hp.yatL h4
 obtain ⟨d', h8, h9⟩ := hp'.yatL h5
 refine ⟨.tup [.int (i : Nat), .tup [d, d']], ?_, .inr (.inr ⟨T, T2, _, p, q, _, d, d', h1, h2, h3, ne, h3', rfl, .int _, h7, h9⟩)⟩
 unfold enumL
 rw [List.getElem?_map, List.getElem?_zipIdx, zip_at h6 h8]
 simp
theorem at_strs {K : PySem.W.Frag} {G : Hp} : ∀ xs : List Str, Paired (At K G) (xs.map V.str) (xs.map D.str)
 | [] => .nil
 | n :: ns => .cons (.str n) (at_strs ns)
theorem iter_zipK {a b : Addr} {vs : List V} {ds : List D} {ss : List Str} (h : F a = some (.tup vs)) (h' : SqT R.K (fun _ => none) b (ss.map V.str)) (hp : Paired (At R.K (FN R.H0 F n)) vs ds) : IterOk R (RZ.ItzT R.K a b) F (zipL ds (ss.map .str)) n := by
 have hp' := at_strs (K := R.K) (G := FN R.H0 F n) ss
 refine .by ((walk_zipT (K := R.K) (a := a) (b := b) (xs := vs) (ys := ss.map V.str) rfl).mono (G' := fun H => Same F H) (fun H e => ⟨SqT.of (e _ _ h), ex_seqT (fun b o z => by cases z) h'⟩) fun i H x H' hi _ ⟨T, p, q, h1, h2, h3, h4, h5⟩ => ?_) (by rw [zip_len, hp.length, hp'.length]) fun H e => e
 obtain ⟨d, h6, h7⟩ := hp.yatL h4
 obtain ⟨d', h8, h9⟩ := hp'.yatL h5
 exact ⟨.tup [d, d'], zip_at h6 h8, .inr (.inl ⟨T, p, q, d, d', h1, h2, h3, rfl, h7, h9⟩)⟩
end
section
variable {X : Cx} {R : Fr} {W : XK} {E : Ev} {tg e : Expr} {es : List Expr} {c : C} {cs : List C} {p pos : Pos}
theorem iter_any {pins : List (Addr × Obj)} {σ : L2.St} {H F : Hp} {s : Shared} {v : V} {u : Value} {d : D} {n : Bool} {items : List D} {Rr : It → Hp → Prop} (hK : X.K = R.K) (I : Inv X pins σ H s) (ru : RelV v u) (eF : Same F H) (h : At R.K (FN R.H0 F n) v d) (hi : d.items = some items)
  (q : ∀ J, IterOk R J F items n → Rr J H) : wpAny (model X.prog X.w) X.A (pyIter u) (PIE X pins σ tg Rr) X.xe s := by
 cases h with
 | lst h1 h2 =>
  cases hi
  cases ru
  have hq : SqL X.K H _ _ := SqL.of (eF _ _ (FN_le _ _ h1))
  obtain ⟨its, rv, p, hz⟩ := I.list hq
  refine wpAny_pyIter_list p.isList ?_
  exact pi_one (tk := s.toks) I _ (turn_list _ _) ⟨_, Heap.get?_push_size _ rfl, rfl, rfl⟩ (by rw [hK]; exact q _ (iter_lst (FN_le _ _ h1) h2))
 | scr h1 =>
  cases hi
  cases ru
  have hq := eF.seq (FN_le.seq h1)
  rw [← hK] at hq
  obtain ⟨its, rv, p, hz⟩ := I.list hq
  refine wpAny_pyIter_list p.isList ?_
  exact pi_one (tk := s.toks) I _ (turn_list _ _) ⟨_, Heap.get?_push_size _ rfl, rfl, rfl⟩ (by rw [hK]; exact q _ (iter_scr (FN_le.seq h1)))
 | tup h1 h2 =>
  cases hi
  cases ru
  have hq : SqT X.K H _ _ := SqT.of (eF _ _ (FN_le _ _ h1))
  obtain ⟨its, rv, p, hz⟩ := I.tuple hq
  refine wpAny_pyIter_tuple (show s.heap.IsTuple _ its.toArray from p) ?_
  exact pi_one (tk := s.toks) I _ (turn_tuple _ _) ⟨_, Heap.get?_push_size _ rfl, rfl, rfl⟩ (by rw [hK]; exact q _ (iter_tup (FN_le _ _ h1) h2))
 | str x =>
  cases hi
  obtain ⟨t, rfl⟩ := ru
  cases ha : x.cps.all (· < 128)
  ·exact wpAny_pyIter_wide ha (pi_one (tk := s.toks) I _ (turn_str _ x t "str_iterator" (.inr rfl)) ⟨_, Heap.get?_push_size _ rfl, rfl, rfl⟩ (q _ iter_str))
  ·exact wpAny_pyIter_ascii ha (pi_one (tk := s.toks) I _ (turn_str _ x t "str_ascii_iterator" (.inl rfl)) ⟨_, Heap.get?_push_size _ rfl, rfl, rfl⟩ (q _ iter_str))
 | _ => cases hi
theorem pi_any_ (hK : X.K = R.K) (he : PE X e (TE_ R W (evE E c))) : PI X tg e (TI_ R W E .any [c]) := by
 refine ⟨fun pins s σ H Rr I ⟨F, g, r, q⟩ => ?_⟩
 have q' : wp (M.bnd (evE E c g) fun (s, g1) => M.bnd (some (.ok ([], g1)) : M (List Sl × G)) fun (ss, g2) => some (.ok (s.frz :: ss, g2))) (fun (ss, g') => match itemsK .any ss with
  | some (items, n) => ∀ J F' H', Rel R F' g' σ H' → Step g σ F H g' F' H' → IterOk R J F' items n → Rr J H'
  | none => False) (ExW R W) := q
 have q1 : TF_ R W (evE E c) σ H (fun v H' => ∃ F' d n items, Same F' H' ∧ At R.K (FN R.H0 F' n) v d ∧ d.items = some items ∧ ∀ J, IterOk R J F' items n → Rr J H') := by
  refine ⟨F, g, r, wp_mono (wp_bnd q') (fun (s1, g1) q2 v F' H' r' st h => ?_) fun _ z => z⟩
  have q3 : match (s1.d.items.map fun l => (l, s1.n)) with
   | some (items, n) => ∀ J F' H', Rel R F' g1 σ H' → Step g σ F H g1 F' H' → IterOk R J F' items n → Rr J H'
   | none => False := q2
  cases hi : s1.d.items with
  | none => rw [hi] at q3; exact q3.elim
  | some l =>
   rw [hi] at q3
   exact ⟨F', s1.d, s1.n, l, r'.ex, h, hi, fun J ok => q3 J F' H' r' st ok⟩
 refine thn ((pe_frz he).run pins s σ H _ I q1) fun u s1 ⟨v, H1, I1, ru, F', d, n, items, eF, hv, hi, k⟩ => ?_
 exact iter_any hK I1 ru eF hv hi k
theorem rngOk_iff {i : Int} (h : rngOk i = true) : -(2 ^ 62) ≤ i ∧ i < 2 ^ 62 := by
 unfold rngOk at h
 simpa using h
theorem pi_rng1_ {a : Expr} (hg : Gl X "range") (hm : X.mg "range" = none) (ha : PA X [a] (TV_ R W (evV E [c]))) (hs : starEach [a] X.env = [(false, eval a X.env)]) : PI X tg (.Call (.Name "range" p) [a] [] pos) (TI_ R W E .rng1 [c]) := by
 refine PI.imp (pi_range1 hg hm ha hs) fun σ H Rr ⟨F, g, r, q⟩ => ⟨F, g, r, wp_mono q (fun (ss, g1) q1 vs F1 H1 r1 st1 h => ?_) fun _ z => z⟩
 dsimp only at q1
 match ss, vs, h, q1 with
 | [x], [v], .cons h .nil, q1 =>
  have q2 : match (match x.d with | .int j => if rngOk j then some (rngL 0 j.toNat 1, true) else none | _ => none : Option (List D × Bool)) with
   | some (items, n) => ∀ J F' H', Rel R F' g1 σ H' → Step g σ F H g1 F' H' → IterOk R J F' items n → Rr J H'
   | none => False := q1
  split at q2
  ·rename_i items n' e1
   split at e1
   ·rename_i j hj
    split at e1
    ·rename_i ho
     cases e1
     rw [hj] at h
     cases h
     obtain ⟨h1, h2⟩ := rngOk_iff ho
     exact ⟨j, rfl, h1, h2, q2 _ F1 H1 r1 st1 iter_rng⟩
    ·cases e1
   ·cases e1
  ·exact q2.elim
 | [], _, _, q1 => exact q1.elim
 | _ :: _ :: _, _, _, q1 => exact q1.elim
theorem pi_rng2_ {a b : Expr} {ca cb : C} (hg : Gl X "range") (hm : X.mg "range" = none) (ha : PA X [a, b] (TV_ R W (evV E [ca, cb]))) (hs : starEach [a, b] X.env = [(false, eval a X.env), (false, eval b X.env)]) (hs2 : starEach [b] X.env = [(false, eval b X.env)]) : PI X tg (.Call (.Name "range" p) [a, b] [] pos) (TI_ R W E .rng2 [ca, cb]) := by
 refine PI.imp (pi_range2 hg hm ha hs hs2) fun σ H Rr ⟨F, g, r, q⟩ => ⟨F, g, r, wp_mono q (fun (ss, g1) q1 vs F1 H1 r1 st1 h => ?_) fun _ z => z⟩
 dsimp only at q1
 match ss, vs, h, q1 with
 | [x, y], [v, w], .cons h (.cons h' .nil), q1 =>
  have q2 : match (match x.d, y.d with | .int i, .int j => if rngOk i && rngOk j then some (rngL i (j - i).toNat 1, true) else none | _, _ => none : Option (List D × Bool)) with
   | some (items, n) => ∀ J F' H', Rel R F' g1 σ H' → Step g σ F H g1 F' H' → IterOk R J F' items n → Rr J H'
   | none => False := q1
  split at q2
  ·rename_i items n' e1
   split at e1
   ·rename_i i j hi hj
    split at e1
    ·rename_i ho
     cases e1
     rw [hi] at h
     rw [hj] at h'
     cases h
     cases h'
     rw [Bool.and_eq_true] at ho
     obtain ⟨h1, h2⟩ := rngOk_iff ho.1
     obtain ⟨h3, h4⟩ := rngOk_iff ho.2
     exact ⟨i, j, rfl, ⟨h1, h2, h3, h4⟩, q2 _ F1 H1 r1 st1 iter_rng⟩
    ·cases e1
   ·cases e1
  ·exact q2.elim
 | [], _, _, q1 => exact q1.elim
 | [_], _, _, q1 => exact q1.elim
 | _ :: _ :: _ :: _, _, _, q1 => exact q1.elim
theorem pi_rng3_ {a b d : Expr} {ca cb cd : C} (hg : Gl X "range") (hm : X.mg "range" = none) (ha : PA X [a, b, d] (TV_ R W (evV E [ca, cb, cd]))) (hs : starEach [a, b, d] X.env = (false, eval a X.env) :: starEach [b, d] X.env) (hpl : (backTo pos (starEach [b, d] X.env)).any (·.1) = false) : PI X tg (.Call (.Name "range" p) [a, b, d] [] pos) (TI_ R W E .rng3 [ca, cb, cd]) := by
 refine PI.imp (pi_range3 hg hm ha hs hpl) fun σ H Rr ⟨F, g, r, q⟩ => ⟨F, g, r, wp_mono q (fun (ss, g1) q1 vs F1 H1 r1 st1 h => ?_) fun _ z => z⟩
 dsimp only at q1
 match ss, vs, h, q1 with
 | [x, y, z], [v, w, u], .cons h (.cons h' (.cons h'' .nil)), q1 =>
  have q2 : match (match x.d, y.d, z.d with
   | .int i, .int j, .int c => if c ≠ 0 ∧ c.natAbs < 1073741824 ∧ Builtin.Range.small i j c = true ∧ 0 ≤ Builtin.Range.rangeSize i j c then some (rngL i (Builtin.Range.rangeSize i j c).toNat c, true) else none
   | _, _, _ => none : Option (List D × Bool)) with
   | some (items, n) => ∀ J F' H', Rel R F' g1 σ H' → Step g σ F H g1 F' H' → IterOk R J F' items n → Rr J H'
   | none => False := q1
  split at q2
  ·rename_i items n' e1
   split at e1
   ·rename_i i j c hi hj hc
    split at e1
    ·rename_i ho
     cases e1
     rw [hi] at h
     rw [hj] at h'
     rw [hc] at h''
     cases h
     cases h'
     cases h''
     obtain ⟨o1, o2, o3, o4⟩ := ho
     exact ⟨i, j, c, (Builtin.Range.rangeSize i j c).toNat, rfl, ⟨o1, o2, o3, (Int.toNat_of_nonneg o4).symm⟩, q2 _ F1 H1 r1 st1 iter_rngC⟩
    ·cases e1
   ·cases e1
  ·exact q2.elim
 | [], _, _, q1 => exact q1.elim
 | [_], _, _, q1 => exact q1.elim
 | [_, _], _, _, q1 => exact q1.elim
 | _ :: _ :: _ :: _ :: _, _, _, q1 => exact q1.elim
variable {tpos : Pos} {elts : List Expr} {kk : Nat}
theorem pi_enum_ (hK : X.K = R.K) (hg : Gl X "enumerate") (hm : X.mg "enumerate" = none) (ha : PA X [e] (TV_ R W (evV E [c]))) (hs : starEach [e] X.env = [(false, eval e X.env)]) : PI X (.Tuple elts kk tpos) (.Call (.Name "enumerate" p) [e] [] pos) (TI_ R W E .enum [c]) := by
 refine PI.imp (pi_enum hg hm ha hs) fun σ H Rr ⟨F, g, r, q⟩ => ⟨F, g, r, wp_mono q (fun (ss, g1) q1 vs F1 H1 r1 st1 h => ?_) fun _ z => z⟩
 dsimp only at q1
 match ss, vs, h, q1 with
 | [x], [v], .cons h .nil, q1 =>
  have q2 : match (match x.d with | .lst xs => some (enumL xs, x.n) | _ => none : Option (List D × Bool)) with
   | some (items, n) => ∀ J F' H', Rel R F' g1 σ H' → Step g σ F H g1 F' H' → IterOk R J F' items n → Rr J H'
   | none => False := q1
  split at q2
  ·rename_i items n' e1
   split at e1
   ·rename_i xs hx
    cases e1
    rw [hx] at h
    cases h with
    | lst h1 h2 =>
     refine ⟨_, _, rfl, SqL.of (r1.ex _ _ (FN_le _ _ h1)), ?_⟩
     rw [hK]
     exact q2 _ F1 H1 r1 st1 (iter_enum (FN_le _ _ h1) h2)
   ·cases e1
  ·exact q2.elim
 | [], _, _, q1 => exact q1.elim
 | _ :: _ :: _, _, _, q1 => exact q1.elim
theorem pi_ezip_ {e2 : Expr} {ca cb : C} {p2 pos2 : Pos} (hK : X.K = R.K) (hg : Gl X "zip") (hm : X.mg "zip" = none) (hg2 : Gl X "enumerate") (hm2 : X.mg "enumerate" = none) (ha : PA X [e, e2] (TV_ R W (evV E [ca, cb]))) (hs : starEach [e, e2] X.env = (false, eval e X.env) :: starEach [e2] X.env) (hpl : (backTo pos2 (starEach [e2] X.env)).any (·.1) = false) :
  PI X (.Tuple elts kk tpos) (.Call (.Name "enumerate" p) [.Call (.Name "zip" p2) [e, e2] [] pos2] [] pos) (TI_ R W E .ezip [ca, cb]) := by
 refine PI.imp (EZ.pi_ez hg hm hg2 hm2 ha hs hpl) fun σ H Rr ⟨F, g, r, q⟩ => ⟨F, g, r, wp_mono q (fun (ss, g1) q1 vs F1 H1 r1 st1 h => ?_) fun _ z => z⟩
 dsimp only at q1
 match ss, vs, h, q1 with
 | [x, y], [v, w], .cons h (.cons h' .nil), q1 =>
  have q2 : match (match x.d, y.d with
   | .lst xs, .lst ys => some (enumL (zipL xs ys), x.n && y.n)
   | _, _ => none : Option (List D × Bool)) with
   | some (items, n) => ∀ J F' H', Rel R F' g1 σ H' → Step g σ F H g1 F' H' → IterOk R J F' items n → Rr J H'
   | none => False := q1
  split at q2
  ·rename_i items n' e1
   split at e1
   ·rename_i xs ys hx hy
    cases e1
    rw [hx] at h
    rw [hy] at h'
    cases h with
    | lst h1 h2 =>
     cases h' with
     | lst h3 h4 =>
      refine ⟨_, _, _, _, rfl, SqL.of (r1.ex _ _ (FN_le _ _ h1)), SqL.of (r1.ex _ _ (FN_le _ _ h3)), ?_⟩
      rw [hK]
      exact q2 _ F1 H1 r1 st1 (iter_ezip (FN_le _ _ h1) (FN_le _ _ h3) (atL_and h2) (atL_and' h4))
   ·cases e1
  ·exact q2.elim
 | [], _, _, q1 => exact q1.elim
 | [_], _, _, q1 => exact q1.elim
 | _ :: _ :: _ :: _, _, _, q1 => exact q1.elim
theorem pi_zipn_ {e2 : Expr} {ca cb : C} {nm : Str} (hK : X.K = R.K) (hg : Gl X "zip") (hm : X.mg "zip" = none) (ha : PA X [e, e2] (TV_ R W (evV E [ca, cb]))) (hs : starEach [e, e2] X.env = (false, eval e X.env) :: starEach [e2] X.env) (hpl : (backTo pos (starEach [e2] X.env)).any (·.1) = false) :
  PI X (.Name nm tpos) (.Call (.Name "zip" p) [e, e2] [] pos) (TI_ R W E .zipn [ca, cb]) := by
 refine PI.imp (EZ.pi_zn hg hm ha hs hpl) fun σ H Rr ⟨F, g, r, q⟩ => ⟨F, g, r, wp_mono q (fun (ss, g1) q1 vs F1 H1 r1 st1 h => ?_) fun _ z => z⟩
 dsimp only at q1
 match ss, vs, h, q1 with
 | [x, y], [v, w], .cons h (.cons h' .nil), q1 =>
  have q2 : match (match x.d, y.d with
   | .lst xs, .lst ys => some (zipL xs ys, x.n && y.n)
   | _, _ => none : Option (List D × Bool)) with
   | some (items, n) => ∀ J F' H', Rel R F' g1 σ H' → Step g σ F H g1 F' H' → IterOk R J F' items n → Rr J H'
   | none => False := q1
  split at q2
  ·rename_i items n' e1
   split at e1
   ·rename_i xs ys hx hy
    cases e1
    rw [hx] at h
    rw [hy] at h'
    cases h with
    | lst h1 h2 =>
     cases h' with
     | lst h3 h4 =>
      refine ⟨_, _, _, _, rfl, SqL.of (r1.ex _ _ (FN_le _ _ h1)), SqL.of (r1.ex _ _ (FN_le _ _ h3)), ?_⟩
      rw [hK]
      exact q2 _ F1 H1 r1 st1 (iter_zip (FN_le _ _ h1) (FN_le _ _ h3) (atL_and h2) (atL_and' h4))
   ·cases e1
  ·exact q2.elim
 | [], _, _, q1 => exact q1.elim
 | [_], _, _, q1 => exact q1.elim
 | _ :: _ :: _ :: _, _, _, q1 => exact q1.elim
theorem pi_zip_ {e2 : Expr} {ca cb : C} (hK : X.K = R.K) (hg : Gl X "zip") (hm : X.mg "zip" = none) (ha : PA X [e, e2] (TV_ R W (evV E [ca, cb]))) (hs : starEach [e, e2] X.env = (false, eval e X.env) :: starEach [e2] X.env) (hpl : (backTo pos (starEach [e2] X.env)).any (·.1) = false) :
  PI X (.Tuple elts kk tpos) (.Call (.Name "zip" p) [e, e2] [] pos) (TI_ R W E .zip [ca, cb]) := by
 refine PI.imp (RZ.pi_zipA hg hm ha hs hpl) fun σ H Rr ⟨F, g, r, q⟩ => ⟨F, g, r, wp_mono q (fun (ss, g1) q1 vs F1 H1 r1 st1 h => ?_) fun _ z => z⟩
 dsimp only at q1
 match ss, vs, h, q1 with
 | [x, y], [v, w], .cons h (.cons h' .nil), q1 =>
  have q2 : match (match x.d, y.d with
   | .lst xs, .lst ys => some (zipL xs ys, x.n && y.n)
   | .tup xs, .tup ys => some (zipL xs ys, x.n && y.n)
   | .tup xs, .ktup ys => some (zipL xs (ys.map .str), x.n)
   | _, _ => none : Option (List D × Bool)) with
   | some (items, n) => ∀ J F' H', Rel R F' g1 σ H' → Step g σ F H g1 F' H' → IterOk R J F' items n → Rr J H'
   | none => False := q1
  split at q2
  ·rename_i items n' e1
   split at e1
   ·rename_i xs ys hx hy
    cases e1
    rw [hx] at h
    rw [hy] at h'
    cases h with
    | lst h1 h2 =>
     cases h' with
     | lst h3 h4 =>
      refine ⟨_, _, _, _, rfl, .inl ⟨SqL.of (r1.ex _ _ (FN_le _ _ h1)), SqL.of (r1.ex _ _ (FN_le _ _ h3)), ?_⟩⟩
      rw [hK]
      exact q2 _ F1 H1 r1 st1 (iter_zip (FN_le _ _ h1) (FN_le _ _ h3) (atL_and h2) (atL_and' h4))
   ·rename_i xs ys hx hy
    cases e1
    rw [hx] at h
    rw [hy] at h'
    cases h with
    | tup h1 h2 =>
     cases h' with
     | tup h3 h4 =>
      refine ⟨_, _, _, _, rfl, .inr ⟨SqT.of (r1.ex _ _ (FN_le _ _ h1)), SqT.of (r1.ex _ _ (FN_le _ _ h3)), ?_⟩⟩
      rw [hK]
      exact q2 _ F1 H1 r1 st1 (iter_zipT (FN_le _ _ h1) (FN_le _ _ h3) (atL_and h2) (atL_and' h4))
   ·rename_i xs ys hx hy
    cases e1
    rw [hx] at h
    rw [hy] at h'
    cases h with
    | tup h1 h2 =>
     cases h' with
     | ktup h3 =>
      refine ⟨_, _, _, _, rfl, .inr ⟨SqT.of (r1.ex _ _ (FN_le _ _ h1)), by rw [hK]; exact ex_seqT (fun b o z => by cases z) h3, ?_⟩⟩
      rw [hK]
      exact q2 _ F1 H1 r1 st1 (iter_zipK (FN_le _ _ h1) h3 h2)
   ·cases e1
  ·exact q2.elim
 | [], _, _, q1 => exact q1.elim
 | [_], _, _, q1 => exact q1.elim
 | _ :: _ :: _ :: _, _, _, q1 => exact q1.elim
end
end Y
namespace Y
open PySem PySem.Spec L2
theorem G.get_put_lt {g : G} {i : Nat} {s : Sl} (h : i < g.length) : (g.put i s).get i = some s := by
 unfold G.get G.put
 rw [List.getElem?_set_self h]
 rfl
theorem G.get_lt {g : G} {i : Nat} {s : Sl} (h : g.get i = some s) : i < g.length := by
 unfold G.get at h
 cases q : g[i]? with
 | none => rw [q] at h; cases h
 | some o => exact (List.getElem?_eq_some_iff.mp q).1
section
variable {R : Fr} {F H F1 H1 : Hp} {g g1 : G} {σ : L2.St} {n : Bool} {i : Nat} {v : V} {s : Sl}
theorem Rel.set (r : Rel R F g σ H) (hi : i < g.length) (hio : ∀ t, g.get i = some t → t.m ≠ .io) (h : SlAt R F H i v s) (hs : s.m ≠ .io) (hd : s.m ≠ .fr → ∀ p, v = .ref p → ¬ Own g σ p) : Rel R F (g.put i s) (σ.set i (some v)) H := by
 have hiσ : i < σ.length := by rw [r.len]; exact hi
 have ne : ∀ {j : Nat}, j ≠ i → (σ.set i (some v))[j]? = σ[j]? := fun {j} e => List.getElem?_set_ne (Ne.symm e)
 have eq : (σ.set i (some v))[i]? = some (some v) := List.getElem?_set_self hiσ
 refine ⟨by rw [List.length_set, G.put_len]; exact r.len, fun j t hj => ?_, fun a b t u p ha hb hta hub pa pb => ?_, r.ex, r.keep, r.there, r.ios, fun q hq => ?_, r.f0, r.fn, r.tb⟩
 ·by_cases e : j = i
  ·subst e
   rw [G.get_put_lt hi] at hj
   cases hj
   exact ⟨v, eq, h⟩
  ·rw [G.get_put_ne e] at hj
   rw [ne e]
   exact r.at_ j t hj
 ·by_cases e : a = i
  ·subst e
   rw [G.get_put_lt hi] at ha
   cases ha
   rw [eq] at pa
   cases pa
   by_cases e2 : b = a
   ·exact e2.symm
   ·rw [G.get_put_ne e2] at hb
    rw [ne e2] at pb
    exact absurd ⟨b, u, hb, hub, pb⟩ (hd hta p rfl)
  ·rw [G.get_put_ne e] at ha
   rw [ne e] at pa
   by_cases e2 : b = i
   ·subst e2
    rw [G.get_put_lt hi] at hb
    cases hb
    rw [eq] at pb
    cases pb
    exact absurd ⟨a, t, ha, hta, pa⟩ (hd hub p rfl)
   ·rw [G.get_put_ne e2] at hb
    rw [ne e2] at pb
    exact r.dis a b t u p ha hb hta hub pa pb
 ·obtain ⟨t, h1, h2, h3⟩ := r.iog q hq
  have e : q.1 ≠ i := fun e => hio t (by rw [← e]; exact h1) h2
  exact ⟨t, by rw [G.get_put_ne e]; exact h1, h2, by rw [ne e]; exact h3⟩
theorem Own.set_le {b : Addr} (hi : i < g.length) (hl : σ.length = g.length) (o : Own (g.put i s) (σ.set i (some v)) b) (hs : s.m = .fr) : Own g σ b := by
 obtain ⟨j, t, h1, h2, h3⟩ := o
 by_cases e : j = i
 ·subst e
  rw [G.get_put_lt hi] at h1
  cases h1
  exact absurd hs h2
 ·rw [G.get_put_ne e] at h1
  rw [List.getElem?_set_ne (Ne.symm e)] at h3
  exact ⟨j, t, h1, h2, h3⟩
def gNames : List Nat → TGs
 | [] => gNil
 | i :: is => gCons (gName i) (gNames is)
def Tg.is : Tg → List Nat
 | .one i => [i]
 | .tup is => is
def gT (K : PySem.W.Frag) : Tg → TG
 | .one i => gName i
 | .tup is => gTup K is.length (gNames is)
theorem wipe_set {σ : L2.St} {i : Nat} {o : Option V} {vs : List Nat} (h : i ∈ vs) : wipe (σ.set i o) vs = wipe σ vs := by
 apply List.ext_getElem?
 intro j
 by_cases hj : j ∈ vs
 ·have : ∀ (τ : L2.St) (ws : List Nat), j ∈ ws → (wipe τ ws)[j]? = if j < τ.length then some none else none := by
   intro τ ws
   induction ws with
   | nil => intro h; cases h
   | cons w ws ih =>
    intro hm
    unfold wipe
    by_cases e : w = j
    ·subst e
     by_cases hl : w < τ.length
     ·rw [if_pos hl, List.getElem?_set_self (by rw [wipe_length]; exact hl)]
     ·rw [if_neg hl]
      exact List.getElem?_eq_none (by rw [List.length_set, wipe_length]; omega)
    ·rw [List.getElem?_set_ne e]
     exact ih ((List.mem_cons.mp hm).elim (fun z => absurd z.symm e) id)
  rw [this _ _ hj, this _ _ hj, List.length_set]
 ·rw [wipe_out hj, wipe_out hj, List.getElem?_set_ne (fun e => hj (by rw [← e]; exact h))]
theorem put_names {Q : L2.St → Hp → Prop} : ∀ {is : List Nat} {ds : List D} {vs : List V} {g g' : G} {σ : L2.St}, Rel R F g σ H → Paired (At R.K (FN R.H0 F n)) vs ds → putAll g is ds n = some g' →
  (∀ σ', Rel R F g' σ' H → (∀ b, Own g' σ' b → Own g σ b) → (∀ ws, (∀ i ∈ is, i ∈ ws) → wipe σ' ws = wipe σ ws) → Q σ' H) → gNames is vs σ H Q
 | [], [], _, g, g', σ, r, .nil, e, k => by
  cases e
  exact ⟨rfl, k σ r (fun _ z => z) fun _ _ => rfl⟩
 | i :: is, d :: ds, _, g, g', σ, r, .cons (l₁ := vs) (a := v) h t, e, k => by
  have e' : (match g.get i with
   | some ⟨_, .io, _⟩ => none
   | _ => if i < g.length then putAll (g.put i ⟨d, .fr, n || d.atom⟩) is ds n else none) = some g' := e
  have key : (∀ t, g.get i = some t → t.m ≠ .io) ∧ i < g.length ∧ putAll (g.put i ⟨d, .fr, n || d.atom⟩) is ds n = some g' := by
   split at e'
   ·cases e'
   ·rename_i hno
    split at e'
    ·rename_i hl
     exact ⟨fun t ht hm => by obtain ⟨a, b, c⟩ := t; cases (show b = Mode.io from hm); exact hno _ _ ht, hl, e'⟩
    ·cases e'
  obtain ⟨hio, hl, e2⟩ := key
  have r1 : Rel R F (g.put i ⟨d, .fr, n || d.atom⟩) (σ.set i (some v)) H := r.set hl hio (At.sub h) (by simp) fun z => absurd rfl z
  refine ⟨v, vs, rfl, ?_⟩
  refine put_names r1 t e2 fun σ' r' ho hw => k σ' r' (fun b z => (ho b z).set_le hl r.len rfl) fun ws hws => ?_
  rw [hw ws fun j hj => hws j (List.mem_cons_of_mem _ hj)]
  exact wipe_set (hws i List.mem_cons_self)
 | [], _ :: _, _, _, _, _, _, _, e, _ => by cases e
 | _ :: _, [], _, _, _, _, _, _, e, _ => by cases e
theorem bind_tg {tg : Tg} {d : D} {g' : G} {Q : L2.St → Hp → Prop} (r : Rel R F g σ H) (h : At R.K (FN R.H0 F n) v d) (e : bindT g tg d n = some g')
  (k : ∀ σ', Rel R F g' σ' H → (∀ b, Own g' σ' b → Own g σ b) → (∀ ws, (∀ i ∈ tg.is, i ∈ ws) → wipe σ' ws = wipe σ ws) → Q σ' H) : gT R.K tg v σ H Q := by
 cases tg with
 | one i =>
  have := put_names (vs := [v]) (Q := Q) r (.cons h .nil) e k
  obtain ⟨v', vs', e1, e2⟩ := this
  cases e1
  exact e2.2
 | tup is =>
  cases h with
  | tup h1 h2 =>
   rename_i a vs ds
   have e2 : putAll g is ds n = some g' := e
   have hlen : ∀ {is : List Nat} {ds : List D} {g g' : G}, putAll g is ds n = some g' → is.length = ds.length := by
    intro is
    induction is with
    | nil => intro ds g g' z; cases ds with
     | nil => rfl
     | cons _ _ => cases z
    | cons i is ih =>
     intro ds g g' z
     cases ds with
     | nil => cases z
     | cons d ds =>
      have z' : (match g.get i with
       | some ⟨_, .io, _⟩ => none
       | _ => if i < g.length then putAll (g.put i ⟨d, .fr, n || d.atom⟩) is ds n else none) = some g' := z
      rw [List.length_cons, List.length_cons]
      split at z'
      ·cases z'
      ·split at z'
       ·rw [ih z']
       ·cases z'
   exact ⟨_, _, rfl, SqT.of (r.ex _ _ (FN_le _ _ h1)), by rw [h2.length]; exact (hlen e2).symm, put_names r h2 e2 k⟩
  | _ => cases e
theorem pgs_names {X : Cx} (hN : X.N.Nodup) : ∀ {es : List Expr} {is : List Nat}, Paired (fun e i => ∃ x pos, e = Expr.Name x pos ∧ X.N[i]? = some x ∧ Loc X.env.scope x ∧ (X.fn x = true ∨ X.env.scope.names.lookup x = some .local)) es is →
  (∀ e es', (e :: es') <:+ es → (assignEach (e :: es') X.env).map (·.2) = assign e X.env :: (assignEach es' X.env).map (·.2)) → PGs X es (gNames is)
 | _, _, .nil, _ => pgs_nil
 | _, _, .cons (l₁ := es) ⟨x, pos, e, h1, h2, h3⟩ t, hs => by
  subst e
  exact pgs_cons (pg_name hN h1 h2 h3) (pgs_names hN t fun e es' h => hs e es' (h.trans (List.suffix_cons _ _))) (hs _ _ (List.suffix_refl _))
theorem G.wipe_len (g : G) : ∀ vs : List Nat, (G.wipe g vs).length = g.length
 | [] => rfl
 | v :: vs => by unfold G.wipe; rw [List.length_set, G.wipe_len g vs]
theorem G.wipe_out {g : G} {i : Nat} : ∀ {vs : List Nat}, i ∉ vs → (G.wipe g vs).get i = g.get i
 | [], _ => rfl
 | v :: vs, h => by
  have h1 : v ≠ i := fun e => h (by rw [e]; exact List.mem_cons_self)
  have h2 : i ∉ vs := fun m => h (List.mem_cons_of_mem _ m)
  unfold G.wipe G.get
  rw [List.getElem?_set_ne h1]
  exact G.wipe_out h2
theorem G.wipe_in {g : G} {i : Nat} {s : Sl} : ∀ {vs : List Nat}, (G.wipe g vs).get i = some s → i ∉ vs
 | [], _ => by simp
 | v :: vs, h => by
  unfold G.wipe G.get at h
  intro hm
  by_cases e : v = i
  ·subst e
   by_cases hl : v < (G.wipe g vs).length
   ·rw [List.getElem?_set_self hl] at h; cases h
   ·rw [List.getElem?_eq_none (by rw [List.length_set]; omega)] at h; cases h
  ·rw [List.getElem?_set_ne e] at h
   exact G.wipe_in (vs := vs) h ((List.mem_cons.mp hm).elim (fun z => absurd z.symm e) id)
theorem Rel.wipe {vs : List Nat} (r : Rel R F g σ H) (hio : ∀ q ∈ R.io, q.1 ∉ vs) : Rel R F (G.wipe g vs) (L2.wipe σ vs) H ∧ ∀ b, Own (G.wipe g vs) (L2.wipe σ vs) b → Own g σ b := by
 have key : ∀ {i : Nat} {s : Sl}, (G.wipe g vs).get i = some s → i ∉ vs ∧ g.get i = some s := fun {i s} h => by
  have h1 := G.wipe_in h
  exact ⟨h1, by rw [G.wipe_out h1] at h; exact h⟩
 refine ⟨⟨by rw [wipe_length, G.wipe_len]; exact r.len, fun i s hi => ?_, fun i j s t p hi hj hs ht pi pj => ?_, r.ex, r.keep, r.there, r.ios, fun q hq => ?_, r.f0, r.fn, r.tb⟩, fun b ⟨i, s, h1, h2, h3⟩ => ?_⟩
 ·obtain ⟨h1, h2⟩ := key hi
  rw [L2.wipe_out h1]
  exact r.at_ i s h2
 ·obtain ⟨h1, h2⟩ := key hi
  obtain ⟨h3, h4⟩ := key hj
  rw [L2.wipe_out h1] at pi
  rw [L2.wipe_out h3] at pj
  exact r.dis i j s t p h2 h4 hs ht pi pj
 ·obtain ⟨s, h1, h2, h3⟩ := r.iog q hq
  exact ⟨s, by rw [G.wipe_out (hio q hq)]; exact h1, h2, by rw [L2.wipe_out (hio q hq)]; exact h3⟩
 ·obtain ⟨h4, h5⟩ := key h1
  rw [L2.wipe_out h4] at h3
  exact ⟨i, s, h5, h2, h3⟩
theorem G.restore_len (g g0 : G) : ∀ vs : List Nat, (G.restore g g0 vs).length = g.length
 | [] => rfl
 | v :: vs => by unfold G.restore; rw [List.length_set, G.restore_len g g0 vs]
theorem G.restore_out {g g0 : G} {i : Nat} : ∀ {vs : List Nat}, i ∉ vs → (G.restore g g0 vs).get i = g.get i
 | [], _ => rfl
 | v :: vs, h => by
  have h1 : v ≠ i := fun e => h (by rw [e]; exact List.mem_cons_self)
  have h2 : i ∉ vs := fun m => h (List.mem_cons_of_mem _ m)
  unfold G.restore G.get
  rw [List.getElem?_set_ne h1]
  exact G.restore_out h2
theorem G.restore_in {g g0 : G} {i : Nat} {s : Sl} : ∀ {vs : List Nat}, i ∈ vs → (G.restore g g0 vs).get i = some s → g0.get i = some s
 | [], h, _ => by cases h
 | v :: vs, hm, h => by
  unfold G.restore G.get at h
  by_cases e : v = i
  ·subst e
   by_cases hl : v < (G.restore g g0 vs).length
   ·rw [List.getElem?_set_self hl] at h
    exact h
   ·rw [List.getElem?_eq_none (by rw [List.length_set]; omega)] at h; cases h
  ·rw [List.getElem?_set_ne e] at h
   exact G.restore_in ((List.mem_cons.mp hm).elim (fun z => absurd z.symm e) id) h
theorem ownOk_m {g : G} {vs : List Nat} (h : ownOk g vs = true) {i : Nat} (hi : i ∈ vs) {s : Sl} (e : g.get i = some s) : s.m = .fr := by
 unfold ownOk at h
 have := List.all_eq_true.mp h i hi
 rw [Bool.and_eq_true, e] at this
 obtain ⟨d, m, n⟩ := s
 cases m with
 | fr => rfl
 | ow => exact absurd this.2 (by simp)
 | io => exact absurd this.2 (by simp)
theorem Rel.restore {vs : List Nat} (r1 : Rel R F1 g1 σ H1) (ok : ownOk g1 vs = true) (r : Rel R F g (L2.wipe σ vs) H) (e : Same F1 F) : Rel R F (G.restore g g1 vs) σ H ∧ ∀ b, Own (G.restore g g1 vs) σ b → Own g (L2.wipe σ vs) b := by
 have key : ∀ {i : Nat} {s : Sl}, (G.restore g g1 vs).get i = some s → (i ∈ vs ∧ g1.get i = some s ∧ s.m = .fr) ∨ (i ∉ vs ∧ g.get i = some s ∧ (L2.wipe σ vs)[i]? = σ[i]?) := fun {i s} h => by
  by_cases hm : i ∈ vs
  ·have := G.restore_in hm h
   exact .inl ⟨hm, this, ownOk_m ok hm this⟩
  ·rw [G.restore_out hm] at h
   exact .inr ⟨hm, h, L2.wipe_out hm⟩
 have own : ∀ {i : Nat} {s : Sl}, (G.restore g g1 vs).get i = some s → s.m ≠ .fr → g.get i = some s ∧ (L2.wipe σ vs)[i]? = σ[i]? := fun {i s} h hs => by
  rcases key h with ⟨_, _, h3⟩ | ⟨_, h2, h3⟩
  ·exact absurd h3 hs
  ·exact ⟨h2, h3⟩
 refine ⟨⟨by rw [G.restore_len, ← r.len, wipe_length], fun i s hi => ?_, fun i j s t p hi hj hs ht pi pj => ?_, r.ex, r.keep, r.there, r.ios, fun q hq => ?_, r.f0, r.fn, r.tb⟩, fun b ⟨i, s, h1, h2, h3⟩ => ?_⟩
 ·rcases key hi with ⟨_, h2, h3⟩ | ⟨_, h2, h3⟩
  ·obtain ⟨v, h4, h5⟩ := r1.at_ i s h2
   refine ⟨v, h4, slAt_mono h5 e (fun z => absurd h3 z) fun z => absurd h3 z⟩
  ·rw [← h3]
   exact r.at_ i s h2
 ·obtain ⟨h1, h2⟩ := own hi hs
  obtain ⟨h3, h4⟩ := own hj ht
  exact r.dis i j s t p h1 h3 hs ht (by rw [h2]; exact pi) (by rw [h4]; exact pj)
 ·obtain ⟨s, h1, h2, h3⟩ := r.iog q hq
  have hm : q.1 ∉ vs := fun hm => by
   obtain ⟨s', h4, h5, _⟩ := r1.iog q hq
   have := ownOk_m ok hm h4
   rw [h5] at this
   cases this
  exact ⟨s, by rw [G.restore_out hm]; exact h1, h2, by rw [← L2.wipe_out hm]; exact h3⟩
 ·obtain ⟨h4, h5⟩ := own h1 h2
  exact ⟨i, s, h4, h2, by rw [h5]; exact h3⟩
theorem Rel.poke {p : Addr} {o : HO} {xs : List V} (r : Rel R F g σ H) (hF : F p = none) (h0 : R.H0 p = none) (no : ¬ Own g σ p) (hl : H p = some (.lst xs)) : Rel R F g σ (upd H p o) := by
 have ne : ∀ {b : Addr} {u : HO}, F b = some u → b ≠ p := fun {b u} z e => by rw [e, hF] at z; cases z
 refine ⟨r.len, fun i s hi => ?_, r.dis, fun b u q => ?_, fun b u q t n => ?_, fun b q => ?_, r.ios, r.iog, r.f0, r.fn, r.tb.setA (fun ps z => by rw [hl] at z; cases z) (fun ps z => by rw [hl] at z; cases z) fun b hb o z => by rw [upd_ne hb]; exact z⟩
 ·obtain ⟨v, h1, h2⟩ := r.at_ i s hi
  refine ⟨v, h1, slAt_mono h2 (Same.refl F) (fun _ _ _ z => z) fun hm q e => ?_⟩
  subst e
  exact upd_ne fun e => no (by rw [← e]; exact ⟨i, s, hi, hm, h1⟩)
 ·rw [upd_ne (ne q)]
  exact r.ex b u q
 ·rw [upd_ne (fun e => by rw [e, h0] at q; cases q)]
  exact r.keep b u q t n
 ·rw [upd_ne (fun e => by rw [e, h0] at q; cases q)]
  exact r.there b q
end
end Y
namespace Y
open PySem PySem.Spec L2
structure StX (P P' : Addr → Prop) (F H F' H' : Hp) : Prop where
 exF : Same F F'
 fr : ∀ b o, H b = some o → nt o → ¬ P b → H' b = some o
 nF : ∀ b, F b = none → (H b).isSome = true → ¬ P b → F' b = none
 own : ∀ b, P' b → P b
 there : ∀ b, (H b).isSome = true → (H' b).isSome = true
section
variable {P P' P'' : Addr → Prop} {F H F1 H1 F2 H2 : Hp}
theorem StX.trans (a : StX P P' F H F1 H1) (b : StX P' P'' F1 H1 F2 H2) : StX P P'' F H F2 H2 where
 exF := a.exF.trans b.exF
 fr := fun x o h t n => b.fr x o (a.fr x o h t n) t fun z => n (a.own x z)
 nF := fun x h1 h2 n => b.nF x (a.nF x h1 h2 n) (a.there x h2) fun z => n (a.own x z)
 own := fun x z => a.own x (b.own x z)
 there := fun x z => b.there x (a.there x z)
theorem Step.x {g g' : G} {σ : L2.St} (s : Step g σ F H g' F1 H1) : StX (Own g σ) (Own g' σ) F H F1 H1 := ⟨s.exF, s.fr, s.nF, s.own, s.there⟩
theorem StX.sub (a : StX P P' F H F1 H1) (h : ∀ b, P'' b → P' b) : StX P P'' F H F1 H1 := ⟨a.exF, a.fr, a.nF, fun b z => a.own b (h b z), a.there⟩
theorem StX.poke {D : Addr} {o : HO} (a : StX P P' F H F1 H1) (h : H D = none) : StX P P' F H F1 (upd H1 D o) := by
 have ne : ∀ {b : Addr}, (H b).isSome = true → b ≠ D := fun {b} z e => by rw [e, h] at z; cases z
 refine ⟨a.exF, fun b u q t n => ?_, a.nF, a.own, fun b q => ?_⟩
 ·rw [upd_ne (ne (by rw [q]; rfl))]
  exact a.fr b u q t n
 ·rw [upd_ne (ne q)]
  exact a.there b q
end
theorem wipe_wipe {σ : L2.St} {vs : List Nat} : wipe (wipe σ vs) vs = wipe σ vs := by
 apply List.ext_getElem?
 intro j
 by_cases hj : j ∈ vs
 ·have : ∀ (τ : L2.St) (ws : List Nat), j ∈ ws → (wipe τ ws)[j]? = if j < τ.length then some none else none := by
   intro τ ws
   induction ws with
   | nil => intro h; cases h
   | cons w ws ih =>
    intro hm
    unfold wipe
    by_cases e : w = j
    ·subst e
     by_cases hl : w < τ.length
     ·rw [if_pos hl, List.getElem?_set_self (by rw [wipe_length]; exact hl)]
     ·rw [if_neg hl]
      exact List.getElem?_eq_none (by rw [List.length_set, wipe_length]; omega)
    ·rw [List.getElem?_set_ne e]
     exact ih ((List.mem_cons.mp hm).elim (fun z => absurd z.symm e) id)
  rw [this _ _ hj, this _ _ hj, wipe_length]
 ·rw [wipe_out hj]
def WF : XK := fun _ _ _ => False
theorem wp_noxW {α : Type} {m : M α} {C : α → Prop} {W W' : Xc → Prop} (h : wp m.nox C W) : wp m C W' := wp_mono (wp_nox h) (fun _ z => z) fun _ z => z.elim
theorem nox_ne {α : Type} {m : M α} {c : Xc} : m.nox ≠ some (.ex c) := by
 cases m with
 | none => intro h; cases h
 | some o => cases o <;> intro h <;> cases h
theorem bnd_ne {α β : Type} {m : M α} {f : α → M β} {c : Xc} (h1 : m ≠ some (.ex c)) (h2 : ∀ a, f a ≠ some (.ex c)) : M.bnd m f ≠ some (.ex c) := by
 cases m with
 | none => intro h; cases h
 | some o =>
  cases o with
  | ok a => exact h2 a
  | ex c' => intro h; cases h; exact h1 rfl
theorem compL_ne {f : D → G → M (Option Sl × G)} (h : ∀ d g c, f d g ≠ some (.ex c)) : ∀ ds g c, compL f ds g ≠ some (.ex c)
 | [], g, c => by intro z; cases z
 | d :: ds, g, c => by
  unfold compL
  exact bnd_ne (h d g c) fun a => bnd_ne (compL_ne h ds a.2 c) fun b => by intro z; cases z
theorem wp_noex {α : Type} {m : M α} {C : α → Prop} {W W' : Xc → Prop} (h : wp m C W) (hm : ∀ c, m ≠ some (.ex c)) : wp m C W' := by
 cases m with
 | none => exact h
 | some o =>
  cases o with
  | ok a => exact h
  | ex c => exact absurd rfl (hm c)
def compF (E : Ev) (tg : Tg) (n : Bool) (cond : Option C) (elt : C) (own : List Nat) (d : D) (g2 : G) : M (Option Sl × G) := match bindT g2 tg d n with
 | some g3 => M.bnd (evTO E cond g3).nox fun (k, g4) => if k then M.bnd (evE E elt g4).nox fun (s, g5) => some (.ok (some s.frz, G.wipe g5 own)) else some (.ok (none, G.wipe g4 own))
 | none => none
theorem compF_ne {E : Ev} {tg : Tg} {n : Bool} {cond : Option C} {elt : C} {own : List Nat} (d : D) (g : G) (c : Xc) : compF E tg n cond elt own d g ≠ some (.ex c) := by
 unfold compF
 split
 ·refine bnd_ne nox_ne fun a => ?_
  obtain ⟨k, g4⟩ := a
  cases k with
  | true => exact bnd_ne nox_ne fun b => by intro z; cases z
  | false => intro z; cases z
 ·intro z; cases z
section
variable {X : Cx} {R : Fr} {W : XK} {E : Ev} {k : ItK} {its : List C} {tgc : Tg} {cond : Option C} {ce : C} {vs : List Nat}
theorem imp_lc {σ : L2.St} {H : Hp} {Q : VK} (htg : ∀ i ∈ tgc.is, i ∈ vs) (q : TE_ R W (evE E (.comp vs tgc k its cond ce)) σ H Q) :
  tLc (TI_ R W E k its) (gT R.K tgc) (TT_ R WF (evTO E cond)) (TF_ R WF (evE E ce)) vs σ H Q := by
 obtain ⟨F, g, r, q⟩ := q
 refine ⟨F, g, r, wp_mono (wp_bnd q) (fun (ss, g1) q1 => ?_) fun _ z => z⟩
 dsimp only at q1
 cases hit : itemsK k ss with
 | none => rw [hit] at q1; exact q1.elim
 | some p =>
  obtain ⟨items, n⟩ := p
  rw [hit] at q1
  obtain ⟨ok, q2⟩ := ifNone q1
  dsimp only
  rw [hit]
  intro J F1 H1 r1 st1 iok D hD
  obtain ⟨Gd, w, hGd⟩ := iok.w
  have q3 := wp_noex (W' := fun _ => False) (wp_bnd (m := compL (compF E tgc n cond ce vs) items (G.wipe g1 vs)) q2) (compL_ne compF_ne items _)
  have hio : ∀ p ∈ R.io, p.1 ∉ vs := fun p hp hm => by
   obtain ⟨s, h1, h2, _⟩ := r1.iog p hp
   have := ownOk_m ok hm h1
   rw [h2] at this
   cases this
  obtain ⟨rw1, ow1⟩ := r1.wipe (vs := vs) hio
  obtain ⟨fD, h0D, noD⟩ := r1.fresh hD
  refine lc_it w (fun i Hx => ∃ Fx gi acc ss, Rel R Fx gi (wipe σ vs) Hx ∧ Hx D = some (.lst acc) ∧ Fx D = none ∧ ¬ Own gi (wipe σ vs) D ∧ StX (Own g1 σ) (Own gi (wipe σ vs)) F1 H1 Fx Hx ∧ Paired (fun v (s : Sl) => At R.K (FN R.H0 Fx s.n) v s.d) acc ss ∧
   wp (compL (compF E tgc n cond ce vs) (items.drop i) gi) (fun (rs, g6) => wp (if (ss ++ rs).length < lim then some (.ok ((⟨.lst (dsL (ss ++ rs)), .ow, (ss ++ rs).all (·.n)⟩ : Sl), G.restore g6 g1 vs)) else none)
    (fun (s, g') => ∀ v F' H', Rel R F' g' σ H' → Step g σ F H g' F' H' → ResAt R g' σ H F' H' v s → Q v H') (ExW R W)) (fun _ => False)) ?_ ?_ ?_ ?_
  ·exact ⟨F1, G.wipe g1 vs, [], [], rw1.alloc hD, upd_same, fD, fun z => noD (ow1 D z), (Step.alloc r1 hD).x.sub ow1, .nil, q3⟩
  ·rintro i H2 _ ⟨F2, gi, acc, ss, r2, _, _, _, st, _⟩
   exact hGd H2 (st.exF.trans r2.ex)
  ·rintro i x H2 H' hi ⟨F2, gi, acc, ss, r2, hDl, hFD, nD, st2, hp, q4⟩ y
   obtain ⟨d, F3, hd, r3, st3, hx⟩ := y.go r2 st2.exF
   have hdrop : items.drop i = d :: items.drop (i + 1) := by
    obtain ⟨hl, e⟩ := List.getElem?_eq_some_iff.mp hd
    rw [List.drop_eq_getElem_cons hl, e]
   rw [hdrop] at q4
   have q5 := wp_bnd q4
   unfold compF at q5
   cases hb : bindT gi tgc d n with
   | none => rw [hb] at q5; exact q5.elim
   | some g3 =>
    rw [hb] at q5
    refine bind_tg r3 hx hb fun σ2 r4 ho hw => ⟨by rw [hw vs htg, wipe_wipe], F3, g3, r4, wp_mono (wp_noxW (wp_bnd q5)) (fun (b, g4) q6 F5 H5 r5 st5 => ?_) fun _ z => z⟩
    have hw2 : wipe σ2 vs = wipe σ vs := by rw [hw vs htg, wipe_wipe]
    have nD3 : ¬ Own g3 σ2 D := fun z => nD (ho D z)
    have e3 : H' D = some (.lst acc) := st3.fr D _ hDl nt_lst nD
    have f3 : F3 D = none := st3.nF D hFD (by rw [hDl]; rfl) nD
    have e5 : H5 D = some (.lst acc) := st5.fr D _ e3 nt_lst nD3
    have f5 : F5 D = none := st5.nF D f3 (by rw [e3]; rfl) nD3
    have nD5 : ¬ Own g4 σ2 D := fun z => nD3 (st5.own D z)
    have x5 : StX (Own g1 σ) (Own g4 σ2) F1 H1 F5 H5 := ((st2.trans st3.x).sub ho).trans st5.x
    cases b with
    | false =>
     simp only [Bool.false_eq_true, if_false] at q6 ⊢
     obtain ⟨r6, ow6⟩ := r5.wipe (vs := vs) hio
     rw [hw2] at r6 ow6
     refine ⟨F5, G.wipe g4 vs, acc, ss, r6, e5, f5, fun z => nD5 (ow6 D z), x5.sub ow6, ?_, wp_mono (wp_bnd q6) (fun (rs, g6) z => z) fun _ z => z⟩
     exact hp.yimp fun v s z => At.mono (FN_mono (st3.exF.trans st5.exF)) _ _ z
    | true =>
     simp only [if_true] at q6 ⊢
     refine ⟨F5, g4, r5, wp_mono (wp_noxW (wp_bnd q6)) (fun (s, g5) q7 v F6 H6 r6 st6 hv => ?_) fun _ z => z⟩
     have e6 : H6 D = some (.lst acc) := st6.fr D _ e5 nt_lst nD5
     have f6 : F6 D = none := st6.nF D f5 (by rw [e5]; rfl) nD5
     have nD6 : ¬ Own g5 σ2 D := fun z => nD5 (st6.own D z)
     obtain ⟨r7, ow7⟩ := r6.wipe (vs := vs) hio
     rw [hw2] at r7 ow7
     have q8 := wp_bnd (m := compL (compF E tgc n cond ce vs) (items.drop (i + 1)) (G.wipe g5 vs)) q7
     have hlen : acc.length < sizeLine := by
      cases hcl : compL (compF E tgc n cond ce vs) (items.drop (i + 1)) (G.wipe g5 vs) with
      | none => rw [hcl] at q8; exact q8.elim
      | some o =>
       rw [hcl] at q8
       cases o with
       | ex c => exact q8.elim
       | ok p =>
        obtain ⟨rs, g6⟩ := p
        obtain ⟨hl, _⟩ := ifNone q8
        rw [List.length_append] at hl
        rw [hp.length]
        exact lim_lt (by omega)
     have nD7 : ¬ Own (G.wipe g5 vs) (wipe σ vs) D := fun z => nD6 (ow7 D z)
     have h0D' : R.H0 D = none := h0D
     refine ⟨acc, e6, hlen, F6, G.wipe g5 vs, acc ++ [v], ss ++ [s.frz], r7.poke f6 h0D' nD7 e6, upd_same, f6, nD7, ((x5.trans st6.x).sub ow7).poke hD, ?_, wp_mono q8 (fun (rs, g6) z => ?_) fun _ z => z⟩
     ·exact (hp.yimp fun v s z => At.mono (FN_mono ((st3.exF.trans st5.exF).trans st6.exF)) _ _ z).yapp (.cons hv .nil)
     ·rw [List.append_assoc]
      exact z
  ·rintro H2 ⟨F2, gi, acc, ss, r2, hDl, hFD, nD, st2, hp, q4⟩
   rw [List.drop_length] at q4
   have q5 : wp (if (ss ++ []).length < lim then some (.ok ((⟨.lst (dsL (ss ++ [])), .ow, (ss ++ []).all (·.n)⟩ : Sl), G.restore gi g1 vs)) else none)
    (fun (s, g') => ∀ v F' H', Rel R F' g' σ H' → Step g σ F H g' F' H' → ResAt R g' σ H F' H' v s → Q v H') (ExW R W) := q4
   rw [List.append_nil] at q5
   obtain ⟨_, q6⟩ := ifNone q5
   obtain ⟨r3, ow3⟩ := r1.restore ok r2 st2.exF
   have stE := st1.x.trans (st2.sub ow3)
   exact q6 (.ref D) F2 H2 r3 ⟨stE.exF, stE.fr, stE.nF, stE.own, stE.there⟩ ⟨D, rfl, st1.gone hD, hFD, fun z => nD (ow3 D z), .lst hDl (ats_ds hp)⟩
theorem pe_comp_ {elt tg iter : Expr} {ifs : List Expr} {scope : Scope} {own : List (Str × Nat)} {pos : Pos} (hK : X.K = R.K) (hc : X.calm = true) (hN : X.N.Nodup) (hi : PI X tg iter (TI_ R W E k its)) (ok : BlkOk X.N X.env.scope scope own)
  (hg : ∀ (s : Shared) (H : Hp) (C : Addr) (cl : List (Str × Addr)) (fp : List Addr), PG (X.blk s H scope (compEnvC scope cl C X.env) fp) tg (gT X.K tgc)) (ht : ∀ (s : Shared) (H : Hp) (C : Addr) (cl : List (Str × Addr)) (fp : List Addr), PTs (X.blk s H scope (compEnvC scope cl C X.env) fp) ifs (TT_ R WF (evTO E cond)))
  (he : ∀ (s : Shared) (H : Hp) (C : Addr) (cl : List (Str × Addr)) (fp : List Addr), PE (X.blk s H scope (compEnvC scope cl C X.env) fp) elt (TE_ R WF (evE E ce))) (hs : ∀ x, foldedSetIterable iter X.env x = pure x) (hv : vs = own.map (·.2)) (htg : ∀ i ∈ tgc.is, i ∈ vs) :
  PE X (.ListComp elt [⟨tg, iter, ifs, 0⟩] scope pos) (TE_ R W (evE E (.comp vs tgc k its cond ce))) := by
 subst hv
 exact PE.imp (pe_lc hc hN hi ok hg ht (fun s H C cl fp => pe_frz (he s H C cl fp)) hs) fun σ H Q q => by rw [hK]; exact imp_lc htg q
theorem pts_none_ : PTs X [] (TT_ R W (evTO E none)) := ⟨fun pins s σ H Q I ⟨F, g, r, q⟩ => pts_nil.run pins s σ H Q I (q F H r (Step.refl _ _ _ _))⟩
theorem pts_some_ {e : Expr} {c : C} (h : PT X e (TT_ R W (tst c (evE E c)))) : PTs X [e] (TT_ R W (evTO E (some c))) := pts_one h
end
end Y
namespace Y
open PySem PySem.Spec L2
structure RelS (R : Fr) (F : Hp) (g : G) (σ : L2.St) (H : Hp) : Prop where
 rel : Rel R F g σ H
 exF : Same R.F0 F
 nF : ∀ b, R.F0 b = none → (R.H0 b).isSome = true → F b = none
def FlC (R : Fr) (F : Hp) (D : Ends) : Fl × G → Prop := fun (fl, g') => match fl with
 | .nx => ∀ σ' F' H', Same F F' → RelS R F' g' σ' H' → D.nx σ' H'
 | .bk => ∀ σ' F' H', Same F F' → RelS R F' g' σ' H' → D.bk σ' H'
 | .ct => ∀ σ' F' H', Same F F' → RelS R F' g' σ' H' → D.ct σ' H'
 | .rt s => ∀ v σ' F' H', Same F F' → RelS R F' g' σ' H' → ResAt R g' σ' R.H0 F' H' v s → D.rt v H'
def TS_ (R : Fr) (W : XK) (ev : G → M (Fl × G)) : TS := fun D σ H => ∃ F g, RelS R F g σ H ∧ wp (ev g) (FlC R F D) (ExW R W)
section
variable {R : Fr} {F H F1 H1 F' H' : Hp} {g g1 g' : G} {σ : L2.St} {v : V} {s : Sl} {i : Nat} {p : Addr} {d d' : D} {n n' n0 : Bool} {m : Mode} {o : HO}
theorem RelS.step (r : RelS R F g σ H) (r' : Rel R F' g' σ H') (st : Step g σ F H g' F' H') : RelS R F' g' σ H' := by
 refine ⟨r', r.exF.trans st.exF, fun b h1 h2 => ?_⟩
 have hF := r.nF b h1 h2
 have hH := r.rel.there b h2
 by_cases ow : Own g σ b
 ·obtain ⟨j, t, h3, h4, h5⟩ := ow
  obtain ⟨w, h6, h7⟩ := r.rel.at_ j t h3
  rw [h5] at h6
  cases h6
  obtain ⟨td, tm, tn⟩ := t
  cases tm with
  | fr => exact absurd rfl h4
  | ow =>
   obtain ⟨q, e, _, h8, _⟩ := h7
   cases e
   rw [h8] at h2
   cases h2
  | io =>
   obtain ⟨q, e, _, h8, _⟩ := h7
   cases e
   obtain ⟨s', h9, h10, h11⟩ := r'.iog _ h8
   obtain ⟨w', h12, h13⟩ := r'.at_ _ _ h9
   rw [h11] at h12
   cases h12
   obtain ⟨q', e', h14, _⟩ := slAt_own h13 (by rw [h10]; simp)
   cases e'
   exact h14
 ·exact st.nF b hF hH ow
theorem ResAt.base (r : Rel R F g σ H) (h : ResAt R g1 σ H F1 H1 v s) : ResAt R g1 σ R.H0 F1 H1 v s := by
 obtain ⟨d, m, n⟩ := s
 cases m with
 | fr => exact h
 | ow =>
  obtain ⟨p, rfl, h1, h2⟩ := h
  exact ⟨p, rfl, (r.fresh h1).2.1, h2⟩
 | io => exact h
theorem ResAt.slAt (h : ResAt R g σ R.H0 F H v s) : SlAt R F H i v s := by
 obtain ⟨d, m, n⟩ := s
 cases m with
 | fr => exact h
 | ow =>
  obtain ⟨p, rfl, h1, h2, h3, h4⟩ := h
  exact ⟨p, rfl, h2, h1, h4⟩
 | io => exact h.elim
theorem ResAt.keep (h : ResAt R g σ F1 F H v s) (st : Step g σ F H g' F' H') : ResAt R g' σ F1 F' H' v s := by
 obtain ⟨d, m, n⟩ := s
 cases m with
 | fr => exact At.mono (FN_mono st.exF) _ _ h
 | ow =>
  obtain ⟨p, rfl, h1, h2, h3, h4⟩ := h
  obtain ⟨u, hu⟩ := h4.is
  exact ⟨p, rfl, h1, st.nF p h2 (by rw [hu]; rfl) h3, fun z => h3 (st.own p z), h4.mono (FN_mono st.exF) (by rw [hu]; exact st.fr p u hu (h4.nt hu) h3)⟩
 | io => exact h.elim
theorem setSlot_ok {g' : G} (e : setSlot g i s = some g') : (∀ t, g.get i = some t → t.m ≠ .io) ∧ i < g.length ∧ g' = g.put i s := by
 unfold setSlot at e
 split at e
 ·cases e
 ·rename_i hno
  split at e
  ·rename_i hl
   cases e
   exact ⟨fun t ht hm => by obtain ⟨a, b, c⟩ := t; cases (show b = Mode.io from hm); exact hno _ _ ht, hl, rfl⟩
  ·cases e
theorem RelS.set {g' : G} (r : RelS R F g σ H) (e : setSlot g i s = some g') (h : ResAt R g σ R.H0 F H v s) : RelS R F g' (σ.set i (some v)) H ∧ ∀ b, Own g' (σ.set i (some v)) b → Own g σ b ∨ (s.m ≠ .fr ∧ v = .ref b) := by
 obtain ⟨h1, h2, rfl⟩ := setSlot_ok e
 refine ⟨⟨r.rel.set h2 h1 h.slAt (fun z => ?_) (fun hm p e => ?_), r.exF, r.nF⟩, fun b ⟨j, t, h3, h4, h5⟩ => ?_⟩
 ·obtain ⟨d, m, n⟩ := s
  cases (show m = .io from z)
  exact h.elim
 ·obtain ⟨d, m, n⟩ := s
  cases m with
  | fr => exact absurd rfl hm
  | ow =>
   obtain ⟨q, e', _, _, h6, _⟩ := h
   subst e'
   cases e
   exact h6
  | io => exact h.elim
 ·by_cases e : j = i
  ·subst e
   rw [G.get_put_lt h2] at h3
   cases h3
   rw [List.getElem?_set_self (by rw [r.rel.len]; exact h2)] at h5
   cases h5
   exact .inr ⟨h4, rfl⟩
  ·rw [G.get_put_ne e] at h3
   rw [List.getElem?_set_ne (Ne.symm e)] at h5
   exact .inl ⟨j, t, h3, h4, h5⟩
theorem RelS.mut (r : RelS R F g σ H) (hi : g.get i = some ⟨d, m, n0⟩) (hm : m ≠ .fr) (hv : σ[i]? = some (some (.ref p))) (h : Top R.K (FN R.H0 F n') (upd H p o) p d') : RelS R F (g.put i ⟨d', m, n'⟩) σ (upd H p o) := by
 have rl := r.rel
 obtain ⟨w, h1, h2⟩ := rl.at_ i _ hi
 rw [hv] at h1
 cases h1
 have hF : F p = none := by
  obtain ⟨q, e, h3, _⟩ := slAt_own h2 hm
  cases e
  exact h3
 have key : R.H0 p = none ∨ (i, p) ∈ R.io := by
  cases m with
  | fr => exact absurd rfl hm
  | ow => obtain ⟨q, e, _, h3, _⟩ := h2; cases e; exact .inl h3
  | io => obtain ⟨q, e, _, h3, _⟩ := h2; cases e; exact .inr h3
 have own0 : ∀ j s, (g.put i ⟨d', m, n'⟩).get j = some s → s.m ≠ .fr → ∃ s', g.get j = some s' ∧ s'.m ≠ .fr := fun j s hj hs => by
  by_cases e : j = i
  ·subst e; exact ⟨_, hi, hm⟩
  ·rw [G.get_put_ne e] at hj; exact ⟨s, hj, hs⟩
 refine ⟨⟨rl.len.trans G.put_len.symm, fun j s hj => ?_, fun x y s u q hx hy hs hu px py => ?_, fun b u q => ?_, fun b u q t n => ?_, fun b q => ?_, rl.ios, fun q hq => ?_, rl.f0, rl.fn, (let ⟨_, e, _, z⟩ := slAt_own h2 hm; by cases e; exact rl.tb.upd z)⟩, r.exF, r.nF⟩
 ·by_cases e : j = i
  ·subst e
   rw [G.get_put_self hi] at hj
   cases hj
   refine ⟨_, hv, ?_⟩
   cases m with
   | fr => exact absurd rfl hm
   | ow => obtain ⟨q, e, h3, h4, _⟩ := h2; cases e; exact ⟨p, rfl, h3, h4, h⟩
   | io => obtain ⟨q, e, h3, h4, _⟩ := h2; cases e; exact ⟨p, rfl, h3, h4, h⟩
  ·rw [G.get_put_ne e] at hj
   obtain ⟨w, h3, h4⟩ := rl.at_ j s hj
   refine ⟨w, h3, slAt_mono h4 (Same.refl F) (fun _ _ _ z => z) fun hms q eq => ?_⟩
   subst eq
   exact upd_ne fun eq => e (rl.dis j i s _ p hj hi hms hm (by rw [h3, eq]) hv)
 ·obtain ⟨s', a1, a2⟩ := own0 x s hx hs
  obtain ⟨t', b1, b2⟩ := own0 y u hy hu
  exact rl.dis x y s' t' q a1 b1 a2 b2 px py
 ·rw [upd_ne (fun e => by rw [e, hF] at q; cases q)]
  exact rl.ex b u q
 ·rw [upd_ne (fun e => by
   subst e
   rcases key with z | z
   ·rw [z] at q; cases q
   ·exact n _ z rfl)]
  exact rl.keep b u q t n
 ·by_cases e : b = p
  ·subst e; rw [upd_same]; rfl
  ·rw [upd_ne e]; exact rl.there b q
 ·obtain ⟨s, h3, h4, h5⟩ := rl.iog q hq
  by_cases e : q.1 = i
  ·rw [e] at h3
   rw [hi] at h3
   cases h3
   rw [e]
   exact ⟨_, G.get_put_self hi, h4, by rw [← e]; exact h5⟩
  ·exact ⟨s, by rw [G.get_put_ne e]; exact h3, h4, h5⟩
end
theorem PS.nox {X : Cx} {st : Stmt} {t : TS} (h : PS X.nox st t) : PS X st t := ⟨fun pins s σ H D I hw =>
 wpAny_mono (h.run pins s σ H D (I.wish _) hw) (fun _ _ q => q.unwish) fun _ _ z => False.elim z⟩
section
variable {X : Cx} {R : Fr} {W : XK} {E : Ev} {e : Expr} {es : List Expr} {c ca cb cc : C} {st : Stmt} {sts : List Stmt} {S : S} {Ss : List Y.S} {pos : Pos} {i j l : Nat} {x y z : Str}
theorem FlC.on {F F1 : Hp} {D : Ends} {a : Fl × G} (q : FlC R F D a) (e : Same F F1) : FlC R F1 D a := by
 obtain ⟨fl, g⟩ := a
 cases fl with
 | nx => exact fun σ' F' H' h r => q σ' F' H' (e.trans h) r
 | bk => exact fun σ' F' H' h r => q σ' F' H' (e.trans h) r
 | ct => exact fun σ' F' H' h r => q σ' F' H' (e.trans h) r
 | rt s => exact fun v σ' F' H' h r z => q v σ' F' H' (e.trans h) r z
theorem pss_nil_ : PSs X [] (TS_ R W (evSs E [])) := PSs.imp pss_nil fun D σ H ⟨F, g, r, q⟩ => q σ F H (Same.refl F) r
theorem pss_cons_ (h1 : PS X st (TS_ R W (evS E S))) (h2 : PSs X sts (TS_ R W (evSs E Ss))) : PSs X (st :: sts) (TS_ R W (evSs E (S :: Ss))) := by
 refine PSs.imp (pss_cons h1 h2) fun D σ H ⟨F, g, r, q⟩ => ?_
 refine ⟨F, g, r, wp_mono (wp_bnd q) (fun (fl, g1) q1 => ?_) fun _ z => z⟩
 cases fl with
 | nx => exact fun σ' F' H' e r' => ⟨F', g1, r', wp_mono q1 (fun a z => z.on e) fun _ z => z⟩
 | bk => exact q1
 | ct => exact q1
 | rt s => exact q1
theorem ps_pass_ : PS X (.Pass pos) (TS_ R W (evS E .pass)) := PS.imp ps_pass fun D σ H ⟨F, g, r, q⟩ => q σ F H (Same.refl F) r
theorem ps_brk_ : PS X (.Break pos) (TS_ R W (evS E .brk)) := PS.imp ps_break fun D σ H ⟨F, g, r, q⟩ => q σ F H (Same.refl F) r
theorem ps_cont_ : PS X (.Continue pos) (TS_ R W (evS E .cont)) := PS.imp ps_continue fun D σ H ⟨F, g, r, q⟩ => q σ F H (Same.refl F) r
theorem ps_expr_ (he : PE X e (TE_ R W (evE E c))) (hs : swapsWith e none pos.line X.env = pure false) : PS X (.Expr e pos) (TS_ R W (evS E (.expr c))) := by
 refine PS.imp (ps_expr he hs) fun D σ H ⟨F, g, r, q⟩ => ?_
 exact ⟨F, g, r.rel, wp_mono (wp_bnd q) (fun (s, g1) q1 v F1 H1 r1 st1 h1 => q1 σ F1 H1 st1.exF (r.step r1 st1)) fun _ z => z⟩
theorem imp_asg {D : Ends} {σ : L2.St} {H : Hp} (q : TS_ R W (evS E (.asg i c)) D σ H) : tAsg (TE_ R W (evE E c)) (gName i) D σ H := by
 obtain ⟨F, g, r, q⟩ := q
 refine ⟨F, g, r.rel, wp_mono (wp_bnd q) (fun (s, g1) q1 v F1 H1 r1 st1 h1 => ?_) fun _ z => z⟩
 dsimp only at q1
 cases e : setSlot g1 i s with
 | none => rw [e] at q1; exact q1.elim
 | some g2 =>
  rw [e] at q1
  exact q1 _ F1 H1 st1.exF ((r.step r1 st1).set e (h1.base r.rel)).1
theorem ps_asg_ {pos' : Pos} (hN : X.N.Nodup) (hi : X.N[i]? = some x) (hx : Loc X.env.scope x) (he : PE X e (TE_ R W (evE E c))) (hs : swapsWith e (some (.Name x pos')) pos.line X.env = pure false) (hf : X.fn x = true ∨ X.env.scope.names.lookup x = some .local) :
  PS X (.Assign [.Name x pos'] e pos) (TS_ R W (evS E (.asg i c))) := PS.imp (ps_set hN hi hx he hs hf) fun D σ H q => imp_asg q
theorem ps_asgT_ {is : List Nat} {k : Nat} {tpos : Pos} (hK : X.K = R.K) (hc : X.calm = true) (he : PE X e (TE_ R W (evE E c))) (hg : PGs X es (gNames is)) (hn : (assignEach es X.env).length = is.length) (hst : (assignEach es X.env).findIdx? (·.1) = none)
  (hs : swapsWithSole [.Tuple es k tpos] e pos.line X.env = pure false) (hw : swappedStores [.Tuple es k tpos] e X.env = pure none) (h1 : (assignEach [.Tuple es k tpos] X.env).map (·.2) = [assign (.Tuple es k tpos) X.env]) :
  PS X (.Assign [.Tuple es k tpos] e pos) (TS_ R W (evS E (.asgT is c))) := by
 refine PS.imp (ps_asg (pe_frz he) (pg_tup hc hg hn hst) hs hw h1) fun D σ H ⟨F, g, r, q⟩ => ?_
 refine ⟨F, g, r.rel, wp_mono (wp_bnd q) (fun (s, g1) q1 v F1 H1 r1 st1 h1 => ?_) fun _ z => z⟩
 dsimp only at q1
 rw [hK]
 obtain ⟨d, m, n⟩ := s
 cases d with
 | tup ds =>
  dsimp only at q1
  cases e : putAll g1 is ds n with
  | none => rw [e] at q1; exact q1.elim
  | some g2 =>
   rw [e] at q1
   have r2 := r.step r1 st1
   exact bind_tg (tg := .tup is) r1 h1 e fun σ' r' _ _ => q1 σ' F1 H1 st1.exF ⟨r', r2.exF, r2.nF⟩
 | _ => exact q1.elim
theorem ps_par2_ {a b : Expr} {px py pt : Pos} {kt k2 pt2} (hc : X.calm = true) (hN : X.N.Nodup) (hi : X.N[i]? = some x) (hj : X.N[j]? = some y) (hij : i ≠ j)
  (hx : X.env.scope.names.lookup x = some .local) (hy : X.env.scope.names.lookup y = some .local) (ha : PE X a (TE_ R W (evE E ca))) (hb : PE X b (TE_ R W (evE E cb)))
  (hst : starEach [a, b] X.env = (false, eval a X.env) :: starEach [b] X.env) (hst2 : starEach [b] X.env = (false, eval b X.env) :: starEach [] X.env)
  (hw : swappedStores [.Tuple [.Name x px, .Name y py] kt pt] (.Tuple [a, b] k2 pt2) X.env = pure (some [x, y]))
  (hs : swapsWithSole [.Tuple [.Name x px, .Name y py] kt pt] (.Tuple [a, b] k2 pt2) pos.line X.env = pure false) :
  PS X (.Assign [.Tuple [.Name x px, .Name y py] kt pt] (.Tuple [a, b] k2 pt2) pos) (TS_ R W (evS E (.par2 i j ca cb))) := by
 refine PS.imp (ps_par hc hN hi hj hij hx hy (pa_cons ha (pa_cons hb pa_nil hst2) hst) hw hs) fun D σ H ⟨F, g, r, q⟩ => ?_
 refine ⟨F, g, r.rel, wp_mono (wp_bnd q) (fun (s, g1) q1 v F1 H1 r1 st1 h1 => ⟨F1, g1, r1, wp_mono (wp_bnd q1) (fun (t, g2) q2 w F2 H2 r2 st2 h2 => ?_) fun _ z => z⟩) fun _ z => z⟩
 dsimp only at q2
 rw [if_neg hij] at q2
 cases e : setSlot g2 i s with
 | none => rw [e] at q2; exact q2.elim
 | some g3 =>
  rw [e] at q2
  dsimp only at q2
  cases e2 : setSlot g3 j t with
  | none => rw [e2] at q2; exact q2.elim
  | some g4 =>
   rw [e2] at q2
   have R1 := r.step r1 st1
   have R2 := R1.step r2 st2
   have hs1 : ResAt R g2 σ R.H0 F2 H2 v s := (h1.keep st2).base r.rel
   have ht1 : ResAt R g2 σ R.H0 F2 H2 w t := h2.base r1
   obtain ⟨R3, o3⟩ := R2.set e hs1
   have ht3 : ResAt R g3 (σ.set i (some v)) R.H0 F2 H2 w t := by
    obtain ⟨td, tm, tn⟩ := t
    cases tm with
    | fr => exact ht1
    | ow =>
     obtain ⟨p, rfl, h3, h4, h5, h6⟩ := ht1
     refine ⟨p, rfl, h3, h4, fun ow => ?_, h6⟩
     rcases o3 p ow with z | ⟨zm, z⟩
     ·exact h5 z
     ·subst z
      obtain ⟨q', e', h7, _⟩ := h2
      cases e'
      obtain ⟨sd, sm, sn⟩ := s
      cases sm with
      | fr => exact absurd rfl zm
      | ow =>
       obtain ⟨q', e', _, _, _, h8⟩ := h1
       cases e'
       obtain ⟨u, hu⟩ := h8.is
       rw [h7] at hu
       cases hu
      | io => exact h1.elim
    | io => exact ht1.elim
   obtain ⟨R4, _⟩ := R3.set e2 ht3
   exact ⟨v, w, rfl, q2 _ F2 H2 (st1.exF.trans st2.exF) R4⟩
theorem ps_aug_ {op : BOp} {o : Operator} {pos' : Pos} (ho : (op = .add ∧ o = .Add) ∨ (op = .sub ∧ o = .Sub)) (hN : X.N.Nodup) (hi : X.N[i]? = some x) (hx : Loc X.env.scope x) (he : PE X e (TE_ R W (evE E c))) (hf : X.fn x = true ∨ X.env.scope.names.lookup x = some .local) :
  PS X (.AugAssign (.Name x pos') o e pos) (TS_ R W (evS E (.aug i op c))) := by
 have main : ∀ (f : Int → Int → Int) (hp : PIp X o (ipI f)) (hd : ∀ a b, D.bin op (.int a) (.int b) = some (.int (f a b))), PS X (.AugAssign (.Name x pos') o e pos) (TS_ R W (evS E (.aug i op c))) := fun f hp hd => by
  refine PS.imp (ps_aug hN hi hx (pe_frz he) hp hf) fun D σ H ⟨F, g, r, q⟩ => ?_
  have q0 : wp (match g.get i with
   | some ⟨.int x, .fr, _⟩ => M.bnd (evE E c g) fun (s, g1) => match g1.get i, s.d with
    | some ⟨.int _, .fr, _⟩, .int y => match Y.D.bin op (.int x) (.int y) with
     | some d => if op = .add ∨ op = .sub then some (.ok (.nx, g1.put i (atm d))) else none
     | none => none
    | _, _ => none
   | _ => none) (FlC R F D) (ExW R W) := q
  split at q0
  ·rename_i a n0 hg0
   obtain ⟨v, h1, h2⟩ := r.rel.at_ i _ hg0
   have h2' : At R.K (FN R.H0 F n0) v (.int a) := h2
   cases h2'
   refine ⟨_, h1, F, g, r.rel, wp_mono (wp_bnd q0) (fun (s, g1) q1 w F1 H1 r1 st1 h3 => ?_) fun _ z => z⟩
   dsimp only at q1
   split at q1
   ·rename_i b n1 y hg1 hs
    rw [hd] at q1
    dsimp only at q1
    obtain ⟨_, q2⟩ := ifNone q1
    rw [hs] at h3
    cases h3
    refine ⟨a, y, rfl, rfl, ?_⟩
    have r2 := r.step r1 st1
    have r3 : Rel R F1 (g1.put i (atm (.int (f a y)))) (σ.set i (some (.int (f a y)))) H1 := r1.set (G.get_lt hg1) (fun t ht hm => by rw [hg1] at ht; cases ht; cases hm) (At.int _) (by intro z; cases z) fun z => absurd rfl z
    exact q2 _ F1 H1 st1.exF ⟨r3, r2.exF, r2.nF⟩
   ·exact q1.elim
  ·exact q0.elim
 rcases ho with ⟨rfl, rfl⟩ | ⟨rfl, rfl⟩
 ·exact main _ ip_add fun a b => rfl
 ·exact main _ ip_sub fun a b => rfl
end
end Y
namespace Y
open PySem PySem.Spec L2
section
variable {X : Cx} {R : Fr} {W : XK} {E : Ev} {e : Expr} {es : List Expr} {c ca cb cc : C} {st : Stmt} {sts : List Stmt} {S : S} {Ss ba bb : List Y.S} {pos : Pos} {i j l : Nat} {x y z : Str} {k : Nat}
theorem RelS.put2 {F H1 : Hp} {g : G} {σ : L2.St} {w : V} {s t : Sl} {v : V} {g2 : G} (R1 : RelS R F g σ H1) (e : setSlot g i s = some g2) (hs : ResAt R g σ R.H0 F H1 v s) (ht : ResAt R g σ R.H0 F H1 w t) (hne : s.m ≠ .fr → t.m ≠ .fr → v ≠ w) :
  RelS R F g2 (σ.set i (some v)) H1 ∧ ResAt R g2 (σ.set i (some v)) R.H0 F H1 w t := by
 obtain ⟨R3, o3⟩ := R1.set e hs
 refine ⟨R3, ?_⟩
 obtain ⟨td, tm, tn⟩ := t
 cases tm with
 | fr => exact ht
 | ow =>
  obtain ⟨p, rfl, h3, h4, h5, h6⟩ := ht
  refine ⟨p, rfl, h3, h4, fun ow => ?_, h6⟩
  rcases o3 p ow with z | ⟨zm, z⟩
  ·exact h5 z
  ·exact hne zm (by simp) z
 | io => exact ht.elim
theorem resAt_ne {F1 F2 H H1 H2 : Hp} {g1 g2 : G} {σ : L2.St} {v w : V} {s t : Sl} (hs : ResAt R g1 σ H F1 H1 v s) (ht : ResAt R g2 σ H1 F2 H2 w t) : s.m ≠ .fr → t.m ≠ .fr → v ≠ w := fun h1 h2 e => by
 subst e
 obtain ⟨sd, sm, sn⟩ := s
 obtain ⟨td, tm, tn⟩ := t
 cases sm with
 | fr => exact absurd rfl h1
 | io => exact hs.elim
 | ow =>
  obtain ⟨p, rfl, _, _, _, h3⟩ := hs
  obtain ⟨u, hu⟩ := h3.is
  cases tm with
  | fr => exact absurd rfl h2
  | io => exact ht.elim
  | ow =>
   obtain ⟨p', e', h4, _⟩ := ht
   cases e'
   rw [hu] at h4
   cases h4
theorem ps_par3_ {a b d : Expr} {px py pz pt : Pos} {kt k2 pt2} (hc : X.calm = true) (hN : X.N.Nodup) (hi : X.N[i]? = some x) (hj : X.N[j]? = some y) (hl : X.N[l]? = some z) (hij : i ≠ j) (hil : i ≠ l) (hjl : j ≠ l)
  (hx : X.env.scope.names.lookup x = some .local) (hy : X.env.scope.names.lookup y = some .local) (hz : X.env.scope.names.lookup z = some .local) (ha : PE X a (TE_ R W (evE E ca))) (hb : PE X b (TE_ R W (evE E cb))) (hd : PE X d (TE_ R W (evE E cc)))
  (hst : starEach [a, b, d] X.env = (false, eval a X.env) :: starEach [b, d] X.env) (hst2 : starEach [b, d] X.env = (false, eval b X.env) :: starEach [d] X.env) (hst3 : starEach [d] X.env = (false, eval d X.env) :: starEach [] X.env)
  (hw : swappedStores [.Tuple [.Name x px, .Name y py, .Name z pz] kt pt] (.Tuple [a, b, d] k2 pt2) X.env = pure (some [x, y, z]))
  (hs : swapsWithSole [.Tuple [.Name x px, .Name y py, .Name z pz] kt pt] (.Tuple [a, b, d] k2 pt2) pos.line X.env = pure false) :
  PS X (.Assign [.Tuple [.Name x px, .Name y py, .Name z pz] kt pt] (.Tuple [a, b, d] k2 pt2) pos) (TS_ R W (evS E (.par3 i j l ca cb cc))) := by
 refine PS.imp (ps_par3 hc hN hi hj hl hij hil hjl hx hy hz (pa_cons ha (pa_cons hb (pa_cons hd pa_nil hst3) hst2) hst) hw hs) fun D σ H ⟨F, g, r, q⟩ => ?_
 refine ⟨F, g, r.rel, wp_mono (wp_bnd q) (fun (s, g1) q1 v F1 H1 r1 st1 h1 => ⟨F1, g1, r1, wp_mono (wp_bnd q1) (fun (t, g2) q2 w F2 H2 r2 st2 h2 => ⟨F2, g2, r2, wp_mono (wp_bnd q2) (fun (u, g3) q3 o F3 H3 r3 st3 h3 => ?_) fun _ z => z⟩) fun _ z => z⟩) fun _ z => z⟩
 dsimp only at q3
 rw [if_neg (fun z => z.elim hij fun z => z.elim hil hjl)] at q3
 cases e : setSlot g3 i s with
 | none => rw [e] at q3; exact q3.elim
 | some g4 =>
  rw [e] at q3
  dsimp only at q3
  cases e2 : setSlot g4 j t with
  | none => rw [e2] at q3; exact q3.elim
  | some g5 =>
   rw [e2] at q3
   dsimp only at q3
   cases e3 : setSlot g5 l u with
   | none => rw [e3] at q3; exact q3.elim
   | some g6 =>
    rw [e3] at q3
    have R1 := r.step r1 st1
    have R2 := R1.step r2 st2
    have R3 := R2.step r3 st3
    have hs3 := ((h1.keep st2).keep st3).base r.rel
    have ht3 := (h2.keep st3).base r1
    have hu3 := h3.base r2
    obtain ⟨R4, ht4⟩ := R3.put2 e hs3 ht3 (resAt_ne h1 h2)
    obtain ⟨_, hu4⟩ := R3.put2 e hs3 hu3 (resAt_ne (h1.keep st2) h3)
    obtain ⟨R5, hu5⟩ := R4.put2 e2 ht4 hu4 (resAt_ne h2 h3)
    obtain ⟨R6, _⟩ := R5.set e3 hu5
    exact ⟨v, w, o, rfl, q3 _ F3 H3 ((st1.exF.trans st2.exF).trans st3.exF) R6⟩
theorem wp_mutSlot {g : G} {f : Y.D → Option Y.D} {n : Bool} {P : Fl × G → Prop} {Wx : Xc → Prop} (q : wp (mutSlot g i f n) P Wx) : ∃ d m n0 d', g.get i = some ⟨d, m, n0⟩ ∧ m ≠ .fr ∧ f d = some d' ∧ P (.nx, g.put i ⟨d', m, n0 && n⟩) := by
 unfold mutSlot at q
 cases e : g.get i with
 | none => rw [e] at q; exact q.elim
 | some s =>
  rw [e] at q
  obtain ⟨d, m, n0⟩ := s
  cases m with
  | fr => exact q.elim
  | ow =>
   dsimp only at q
   cases e2 : f d with
   | none => rw [e2] at q; exact q.elim
   | some d' => rw [e2] at q; exact ⟨d, _, n0, d', rfl, by simp, e2, q⟩
  | io =>
   dsimp only at q
   cases e2 : f d with
   | none => rw [e2] at q; exact q.elim
   | some d' => rw [e2] at q; exact ⟨d, _, n0, d', rfl, by simp, e2, q⟩
theorem Rel.slot {F H : Hp} {g : G} {σ : L2.St} {d : Y.D} {m : Mode} {n : Bool} (r : Rel R F g σ H) (h : g.get i = some ⟨d, m, n⟩) (hm : m ≠ .fr) : ∃ p, σ[i]? = some (some (.ref p)) ∧ Top R.K (FN R.H0 F n) H p d := by
 obtain ⟨v, h1, h2⟩ := r.at_ i _ h
 obtain ⟨p, rfl, _, h3⟩ := slAt_own h2 hm
 exact ⟨p, h1, h3⟩
theorem ownL_some {g : G} (h : ownL g i = true) : ∃ xs m n, g.get i = some ⟨.lst xs, m, n⟩ ∧ m ≠ .fr := by
 unfold ownL at h
 split at h
 ·rename_i xs n e
  exact ⟨xs, _, n, e, by simp⟩
 ·rename_i xs n e
  exact ⟨xs, _, n, e, by simp⟩
 ·cases h
theorem slot_lst {F H : Hp} {g : G} {σ : L2.St} (r : Rel R F g σ H) (h : ownL g i = true) : ∃ p vs, σ[i]? = some (some (.ref p)) ∧ H p = some (.lst vs) := by
 obtain ⟨xs, m, n, e, hm⟩ := ownL_some h
 obtain ⟨p, h1, h2⟩ := r.slot e hm
 cases h2 with
 | lst h3 _ => exact ⟨p, _, h1, h3⟩
theorem kidsL {F : Hp} {n m : Bool} {vs : List V} {ds : List Y.D} {v : V} {d : Y.D} (h : Paired (At R.K (FN R.H0 F n)) vs ds) (hv : At R.K (FN R.H0 F m) v d) : Paired (At R.K (FN R.H0 F (n && m))) (vs ++ [v]) (ds ++ [d]) :=
 (atL_and h).ysnoc (At.mono (FN_imp fun z => (Bool.and_eq_true_iff.mp z).2) _ _ hv)
theorem ps_app_ {p2 cpos : Pos} {e' : Expr} (hi : PE X e' (tVar i)) (he : PE X e (TE_ R W (evE E c)))
  (hst : starEach [e] X.env = (false, eval e X.env) :: starEach [] X.env) (hbase : attributeBase e' "append" X.env (eval e' X.env) = eval e' X.env) (hline : (p2.endLine == cpos.line) = true)
  (hfew : ((backTo cpos (starEach [e] X.env)).all (fun x => !x.1) && (backToKw cpos (keywordEach [] X.env)).all (fun x => x.1.isSome) && decide ([e].length + ([] : List Keyword).length + (if ([] : List Keyword).isEmpty then 0 else 1) < 30)) = true)
  (hpl : (backTo cpos (starEach [] X.env)).any (·.1) = false) (hs : swapsWith (.Call (.Attribute e' "append" p2) [e] [] cpos) none pos.line X.env = pure false) :
  PS X (.Expr (.Call (.Attribute e' "append" p2) [e] [] cpos) pos) (TS_ R W (evS E (.app i c))) := by
 refine PS.imp (ps_expr (pe_bm PySem.F.plainAttrs_list PySem.F.slot_list_append PySem.F.type_list_append mt_append hi (pa_cons (pe_frz he) pa_nil hst) hbase hfew hline hst hpl) hs) fun D σ H ⟨F, g, r, q⟩ => ?_
 obtain ⟨ho, q0⟩ := ifNone q
 obtain ⟨p0, vs0, h1, h2⟩ := slot_lst r.rel ho
 refine ⟨_, h1, .inl ⟨rfl, _, SqL.of h2⟩, F, g, r.rel, wp_mono (wp_bnd q0) (fun (s, g1) q1 v F1 H1 r1 st1 h3 => ?_) fun _ z => z⟩
 obtain ⟨d, m, n0, d', e1, hm, e2, q2⟩ := wp_mutSlot q1
 obtain ⟨p, h4, h5⟩ := r1.slot e1 hm
 rw [h1] at h4
 cases h4
 cases d with
 | lst xs =>
  cases h5 with
  | lst h6 h7 =>
   rename_i vs
   have e3 : (if xs.length < lim then some (Y.D.lst (xs ++ [s.d])) else none) = some d' := e2
   split at e3
   ·rename_i hl
    cases e3
    refine ⟨_, vs, v, rfl, rfl, h6, by rw [h7.length]; exact lim_lt hl, q2 σ F1 _ st1.exF ((r.step r1 st1).mut e1 hm h1 (.lst upd_same (kidsL h7 h3)))⟩
   ·cases e3
 | _ => cases e2
theorem ps_ext_ {p2 cpos : Pos} {e' : Expr} (hi : PE X e' (tVar i)) (he : PE X e (TE_ R W (evE E c)))
  (hst : starEach [e] X.env = (false, eval e X.env) :: starEach [] X.env) (hbase : attributeBase e' "extend" X.env (eval e' X.env) = eval e' X.env) (hline : (p2.endLine == cpos.line) = true)
  (hfew : ((backTo cpos (starEach [e] X.env)).all (fun x => !x.1) && (backToKw cpos (keywordEach [] X.env)).all (fun x => x.1.isSome) && decide ([e].length + ([] : List Keyword).length + (if ([] : List Keyword).isEmpty then 0 else 1) < 30)) = true)
  (hpl : (backTo cpos (starEach [] X.env)).any (·.1) = false) (hs : swapsWith (.Call (.Attribute e' "extend" p2) [e] [] cpos) none pos.line X.env = pure false) :
  PS X (.Expr (.Call (.Attribute e' "extend" p2) [e] [] cpos) pos) (TS_ R W (evS E (.ext i c))) := by
 refine PS.imp (ps_expr (pe_bm PySem.F.plainAttrs_list PySem.F.slot_list_extend PySem.F.type_list_extend mt_extend hi (pa_cons (pe_frz he) pa_nil hst) hbase hfew hline hst hpl) hs) fun D σ H ⟨F, g, r, q⟩ => ?_
 obtain ⟨ho, q0⟩ := ifNone q
 obtain ⟨p0, vs0, h1, h2⟩ := slot_lst r.rel ho
 refine ⟨_, h1, .inl ⟨rfl, _, SqL.of h2⟩, F, g, r.rel, wp_mono (wp_bnd q0) (fun (s, g1) q1 v F1 H1 r1 st1 h3 => ?_) fun _ z => z⟩
 obtain ⟨d, m, n0, d', e1, hm, e2, q2⟩ := wp_mutSlot q1
 obtain ⟨p, h4, h5⟩ := r1.slot e1 hm
 rw [h1] at h4
 cases h4
 obtain ⟨sd, sm, sn⟩ := s
 cases d with
 | lst xs =>
  cases sd with
  | lst ys =>
   cases h3 with
   | lst h8 h9 =>
    rename_i b ws
    cases h5 with
    | lst h6 h7 =>
     rename_i vs
     have e3 : (if xs.length + ys.length ≤ lim then some (Y.D.lst (xs ++ ys)) else none) = some d' := e2
     split at e3
     ·rename_i hl
      cases e3
      refine ⟨_, _, vs, ws, rfl, rfl, h6, r1.ex _ _ (FN_le _ _ h8), by rw [h7.length, h9.length]; exact lim_size hl, q2 σ F1 _ st1.exF ((r.step r1 st1).mut e1 hm h1 (.lst upd_same ((atL_and h7).yapp (atL_and' h9))))⟩
     ·cases e3
  | _ => cases e2
 | _ => cases sd <;> cases e2
theorem mapSet_of {κ : Type} [DecidableEq κ] {P : V → Y.D → Prop} {k : κ} {v : V} {d : Y.D} (hv : P v d) : ∀ {kvs : List (κ × V)} {ds : List Y.D}, Paired P (kvs.map (·.2)) ds → Paired P ((kvs.map fun kv => if kv.1 = k then (kv.1, v) else kv).map (·.2)) (mapSet (kvs.map (·.1)) ds k d)
 | [], _, .nil => .nil
 | kv :: kvs, _, .cons h t => by
  rw [List.map_cons, List.map_cons, List.map_cons]
  unfold mapSet
  refine .cons ?_ (mapSet_of hv t)
  by_cases e : kv.1 = k
  ·rw [if_pos e, if_pos e]; exact hv
  ·rw [if_neg e, if_neg e]; exact h
theorem putK_of {κ : Type} [DecidableEq κ] {P : V → Y.D → Prop} {k : κ} {v : V} {d : Y.D} (hv : P v d) {kvs : List (κ × V)} {ks : List κ} {ds : List Y.D} (hk : kvs.map (·.1) = ks) (h : Paired P (kvs.map (·.2)) ds) :
  (putK kvs k v).map (·.1) = (setAll ks ds k d).1 ∧ Paired P ((putK kvs k v).map (·.2)) (setAll ks ds k d).2 := by
 subst hk
 unfold putK setAll
 have e : (kvs.map (·.1)).any (fun j => decide (j = k)) = kvs.any fun kv => decide (kv.1 = k) := by rw [List.any_map]; rfl
 rw [e]
 by_cases hc : (kvs.any fun kv => decide (kv.1 = k)) = true
 ·rw [if_pos hc, if_pos hc]
  refine ⟨?_, mapSet_of hv h⟩
  rw [List.map_map]
  apply List.map_congr_left
  intro kv _
  show (if kv.1 = k then (kv.1, v) else kv).1 = kv.1
  by_cases e2 : kv.1 = k
  ·rw [if_pos e2]
  ·rw [if_neg e2]
 ·rw [if_neg hc, if_neg hc]
  refine ⟨by rw [List.map_append]; rfl, ?_⟩
  rw [List.map_append]
  exact h.ysnoc hv
theorem putF_of {P : V → Y.D → Prop} {k : Str} {v : V} {d : Y.D} (hv : P v d) : ∀ {kvs : List (Str × V)} {ks : List Str} {ds : List Y.D}, kvs.map (·.1) = ks → Paired P (kvs.map (·.2)) ds → (putF k v kvs).map (·.1) = (setKey ks ds k d).1 ∧ Paired P ((putF k v kvs).map (·.2)) (setKey ks ds k d).2
 | [], _, _, rfl, .nil => ⟨rfl, .cons hv .nil⟩
 | (f, w) :: kvs, _, _, rfl, .cons (l₂ := ds) (b := d0) h t => by
  obtain ⟨ih1, ih2⟩ := putF_of hv (kvs := kvs) rfl t
  show (putF k v ((f, w) :: kvs)).map (·.1) = (setKey (f :: kvs.map (·.1)) (d0 :: ds) k d).1 ∧ Paired P ((putF k v ((f, w) :: kvs)).map (·.2)) (setKey (f :: kvs.map (·.1)) (d0 :: ds) k d).2
  unfold putF setKey
  by_cases e : f = k
  ·rw [if_pos e, if_pos e]
   exact ⟨rfl, .cons hv t⟩
  ·rw [if_neg e, if_neg e]
   exact ⟨by rw [List.map_cons, ih1], .cons h ih2⟩
def rSetX : TSet := fun o i v H Q => rSetL o i v H Q ∨ rSetD o i v H Q
theorem set_x (hu : X.A.units + 1 < cLine) : PSet X rSetX := fun pins s σ H o i v ov iv u Q I ro ri rv h => h.elim (fun h => set_list pins s σ H o i v ov iv u Q I ro ri rv h) fun h => set_dict hu pins s σ H o i v ov iv u Q I ro ri rv h
theorem ps_setI_ {e' ei : Expr} {tpos : Pos} {ck cv : C} (hu : X.A.units + 1 < cLine) (hi : PE X e' (tVar i)) (hk : PE X ei (TO_ R W (opd ck (evE E ck)))) (he : PE X e (TE_ R W (evE E cv)))
  (ha : ∀ v, assign (.Subscript e' ei tpos) X.env v = (do
   let ov ← holding [v] (eval e' X.env)
   let iv ← holding [v, ov] (eval ei X.env)
   standAt tpos
   holding [v, ov, iv] (setItem ov iv v)
   release [v, ov, iv] []))
  (hs : swapsWithSole [.Subscript e' ei tpos] e pos.line X.env = pure false) (hw : swappedStores [.Subscript e' ei tpos] e X.env = pure none) (h1 : (assignEach [.Subscript e' ei tpos] X.env).map (·.2) = [assign (.Subscript e' ei tpos) X.env]) :
  PS X (.Assign [.Subscript e' ei tpos] e pos) (TS_ R W (evS E (.setI i ck cv))) := by
 refine PS.imp (ps_asg (pe_frz he) (pg_sub hi hk (set_x hu) ha) hs hw h1) fun D σ H ⟨F, g, r, q⟩ => ?_
 refine ⟨F, g, r.rel, wp_mono (wp_bnd q) (fun (s, g1) q1 v F1 H1 r1 st1 h3 => ?_) fun _ z => z⟩
 obtain ⟨hsm, q2⟩ := ifNone q1
 dsimp only at hsm q2
 obtain ⟨s0, hs0⟩ := Option.isSome_iff_exists.mp hsm
 obtain ⟨w, hw0, _⟩ := r1.at_ i s0 hs0
 refine ⟨w, hw0, F1, g1, r1, wp_mono (wp_bnd q2) (fun (ok, g2) q3 kv F2 H2 r2 st2 hk2 => ?_) fun _ z => z⟩
 dsimp only at q3
 cases e1 : ok.get g2 with
 | none => rw [e1] at q3; exact q3.elim
 | some y =>
  rw [e1] at q3
  have vk := hk2.view r2 e1
  obtain ⟨d, m, n0, d', e2, hm, e3, q4⟩ := wp_mutSlot q3
  obtain ⟨p, h4, h5⟩ := r2.slot e2 hm
  rw [hw0] at h4
  cases h4
  have R2 := (r.step r1 st1).step r2 st2
  have h3' : At R.K (FN R.H0 F2 (n0 && s.n)) v s.d := At.mono ((FN_mono st2.exF).trans (FN_imp fun z => (Bool.and_eq_true_iff.mp z).2)) _ _ h3
  have q5 : ∀ u, Top R.K (FN R.H0 F2 (n0 && s.n)) (upd H2 p u) p d' → D.nx σ (upd H2 p u) := fun u hT => q4 σ F2 _ (st1.exF.trans st2.exF) (R2.mut e2 hm hw0 hT)
  cases d with
  | lst xs =>
   cases h5 with
   | lst h6 h7 =>
    rename_i vs
    have e4 : (match y.d with | .int k => (ixN xs.length k).map fun j => Y.D.lst (xs.set j s.d) | _ => none) = some d' := e3
    split at e4
    ·rename_i k hy
     rw [hy] at vk
     cases e5 : ixN xs.length k with
     | none => rw [e5] at e4; cases e4
     | some j =>
      rw [e5] at e4
      cases e4
      refine .inl ⟨p, vs, k, j, rfl, vk.as_int, h6, by rw [h7.length]; exact e5, q5 _ (.lst upd_same (Paired.yset h3' j (atL_and h7)))⟩
    ·cases e4
  | dct ks xs =>
   cases h5 with
   | dct h6 h7 h8 =>
    rename_i kvs
    have e4 : (match y.d.key with | some j => if ks.length < lim ∧ ks.length = xs.length then let r := setAll ks xs j s.d; some (Y.D.dct r.1 r.2) else none | none => none) = some d' := e3
    cases e5 : y.d.key with
    | none => rw [e5] at e4; cases e4
    | some k =>
     rw [e5] at e4
     dsimp only at e4
     split at e4
     ·rename_i hl
      cases e4
      have hlen : kvs.length = ks.length := by rw [← h7, List.length_map]
      obtain ⟨a1, a2⟩ := putK_of (k := k) h3' h7 (atL_and h8)
      exact .inr ⟨p, _, rfl, .inl ⟨kvs, k, h6, key_kV vk e5, by rw [hlen]; exact lim_lt hl.1, rfl⟩, q5 _ (.dct upd_same a1 a2)⟩
     ·cases e4
  | dctT ks xs =>
   cases h5 with
   | dctT h6 h7 h8 =>
    rename_i kvs
    have e4 : (match y.d.keyT with | some j => if ks.length < lim ∧ ks.length = xs.length then let r := setAll ks xs j s.d; some (Y.D.dctT r.1 r.2) else none | none => none) = some d' := e3
    cases e5 : y.d.keyT with
    | none => rw [e5] at e4; cases e4
    | some k =>
     rw [e5] at e4
     dsimp only at e4
     split at e4
     ·rename_i hl
      cases e4
      have hlen : kvs.length = ks.length := by rw [← h7, List.length_map]
      obtain ⟨a1, a2⟩ := putK_of (k := k) h3' h7 (atL_and h8)
      obtain ⟨b, rfl, hb⟩ := keyT_kV vk e5
      exact .inr ⟨p, _, rfl, .inr ⟨kvs, k, b, h6, rfl, hb, by rw [hlen]; exact lim_lt hl.1, rfl⟩, q5 _ (.dctT upd_same a1 a2)⟩
     ·cases e4
  | _ => cases e3
theorem ps_setA_ {e' : Expr} {f : Str} {pos' : Pos} {cv : C} (hE : AttOk R.K E) (hK : X.K = R.K) (hi : PE X e' (tVar i)) (he : PE X e (TE_ R W (evE E cv))) (hs : swapsWith e (some (.Attribute e' f pos')) pos.line X.env = pure false) :
  PS X (.Assign [.Attribute e' f pos'] e pos) (TS_ R W (evS E (.setA i f cv))) := by
 refine PS.imp (ps_fld hi (pe_frz he) hs) fun D σ H ⟨F, g, r, q⟩ => ?_
 refine ⟨F, g, r.rel, wp_mono (wp_bnd q) (fun (s, g1) q1 v F1 H1 r1 st1 h3 => ?_) fun _ z => z⟩
 obtain ⟨d, m, n0, d', e2, hm, e3, q4⟩ := wp_mutSlot q1
 obtain ⟨p, h4, h5⟩ := r1.slot e2 hm
 cases d with
 | obj c fs xs =>
  cases h5 with
  | obj h6 h7 h8 =>
   rename_i dx kvs
   have e4 : (if E.att c f = true ∧ fs.length < 100 ∧ fs.length = xs.length then let r := setKey fs xs f s.d; some (Y.D.obj c r.1 r.2) else none) = some d' := e3
   split at e4
   ·rename_i hl
    cases e4
    have hlen : kvs.length = fs.length := by rw [← h7, List.length_map]
    have h3' : At R.K (FN R.H0 F1 (n0 && s.n)) v s.d := At.mono (FN_imp fun z => (Bool.and_eq_true_iff.mp z).2) _ _ h3
    obtain ⟨a1, a2⟩ := putF_of (k := f) h3' h7 (atL_and h8)
    obtain ⟨hcl, hna⟩ := hE c f hl.1
    refine ⟨_, h4, p, _, dx, kvs, rfl, h6, by rw [hK]; exact hcl, by rw [hK]; exact hna, by omega, ?_⟩
    exact q4 σ F1 _ st1.exF ((r.step r1 st1).mut e2 hm h4 (.obj upd_same a1 a2))
   ·cases e4
 | _ => cases e3
end
end Y
namespace Y
open PySem PySem.Spec L2
section
variable {X : Cx} {R : Fr} {W : XK} {E : Ev} {e t : Expr} {es : List Expr} {c ca cb cc ct : C} {st : Stmt} {sts a b : List Stmt} {S : S} {Ss ba bb body : List Y.S} {pos : Pos} {i j l : Nat} {x y z : Str} {k : Nat}
theorem ps_ife_ (ht : PT X t (TT_ R W (tst ct (evE E ct)))) (ha : PSs X a (TS_ R W (evSs E ba))) (hb : PSs X b (TS_ R W (evSs E bb))) : PS X (.If t a b pos) (TS_ R W (evS E (.ife ct ba bb))) := by
 refine PS.imp (ps_if ht ha hb) fun D σ H ⟨F, g, r, q⟩ => ⟨F, g, r.rel, wp_mono (wp_bnd q) (fun (k, g1) q1 F1 H1 r1 st1 => ?_) fun _ z => z⟩
 have R1 := r.step r1 st1
 cases k with
 | true => exact ⟨F1, g1, R1, wp_mono q1 (fun a z => z.on st1.exF) fun _ z => z⟩
 | false => exact ⟨F1, g1, R1, wp_mono q1 (fun a z => z.on st1.exF) fun _ z => z⟩
theorem ps_retN_ : PS X (.Return none pos) (TS_ R W (evS E .retN)) := PS.imp ps_retN fun D σ H ⟨F, g, r, q⟩ => q .non σ F H (Same.refl F) r .non
theorem ps_ret_ (hc : ∀ i, c ≠ .var i) (he : PE X e (TE_ R W (evE E c))) : PS X (.Return (some e) pos) (TS_ R W (evS E (.ret c))) := by
 refine PS.imp (ps_ret he) fun D σ H ⟨F, g, r, q⟩ => ?_
 have q' : wp (M.bnd (evE E c g) fun (s, g1) => some (.ok (Fl.rt s, g1))) (FlC R F D) (ExW R W) := by
  cases c <;> first | exact q | exact absurd rfl (hc _)
 exact ⟨F, g, r.rel, wp_mono (wp_bnd q') (fun (s, g1) q1 v F1 H1 r1 st1 h1 => q1 v σ F1 H1 st1.exF (r.step r1 st1) (h1.base r.rel)) fun _ z => z⟩
theorem ps_retV_ (he : PE X e (tVar i)) : PS X (.Return (some e) pos) (TS_ R W (evS E (.ret (.var i)))) := by
 refine PS.imp (ps_ret he) fun D σ H ⟨F, g, r, q⟩ => ?_
 have q' : wp (match g.get i with
   | some ⟨d, .ow, n⟩ => some (.ok (Fl.rt ⟨d, .ow, n⟩, g.set i none))
   | _ => M.bnd (takeV g i) fun (s, g1) => some (.ok (Fl.rt s, g1))) (FlC R F D) (ExW R W) := q
 cases hg : g.get i with
 | none =>
  rw [hg] at q'
  have q2 := wp_bnd q'
  unfold takeV at q2
  rw [hg] at q2
  exact q2.elim
 | some s =>
  rw [hg] at q'
  obtain ⟨v, h1, h2⟩ := r.rel.at_ i s hg
  refine ⟨v, h1, ?_⟩
  obtain ⟨d, m, n⟩ := s
  cases m with
  | fr =>
   have q2 := wp_bnd q'
   unfold takeV at q2
   rw [hg] at q2
   exact q2 v σ F H (Same.refl F) r (At.sub h2)
  | io =>
   have q2 := wp_bnd q'
   unfold takeV at q2
   rw [hg] at q2
   exact q2.elim
  | ow =>
   obtain ⟨p, rfl, h3, h4, h5⟩ := h2
   have key : ∀ {j : Nat} {s : Sl}, G.get (g.set i none) j = some s → j ≠ i ∧ g.get j = some s := fun {j s} h => by
    unfold G.get at h ⊢
    by_cases e : j = i
    ·subst e
     rw [List.getElem?_set_self (G.get_lt hg)] at h
     cases h
    ·rw [List.getElem?_set_ne (Ne.symm e)] at h
     exact ⟨e, h⟩
   have rl := r.rel
   refine q' (.ref p) σ F H (Same.refl F) ⟨⟨by rw [List.length_set]; exact rl.len, fun j s hj => rl.at_ j s (key hj).2, fun a b s u q ha hb => rl.dis a b s u q (key ha).2 (key hb).2, rl.ex, rl.keep, rl.there, rl.ios, fun q hq => ?_, rl.f0, rl.fn, rl.tb⟩, r.exF, r.nF⟩ ⟨p, rfl, h4, h3, fun ⟨j, s, h6, h7, h8⟩ => ?_, h5⟩
   ·obtain ⟨s, h6, h7, h8⟩ := rl.iog q hq
    have e : q.1 ≠ i := fun e => by rw [e, hg] at h6; cases h6; cases h7
    refine ⟨s, ?_, h7, h8⟩
    unfold G.get at h6 ⊢
    rw [List.getElem?_set_ne (Ne.symm e)]
    exact h6
   ·obtain ⟨h9, h10⟩ := key h6
    exact h9 (rl.dis j i s _ p h10 hg h7 (by simp) h8 h1)
theorem ps_raise_ {cl : Str} (hc : X.calm = true) (tk : RX.Takes X (fun cls d _ H => W cls d H)) (he : L2N.PMk X e (fun _ H Q => Q (.ref (He.ga R.K cl)) none H)) : PS X (.Raise (some e) none pos) (TS_ R W (evS E (.raise cl))) :=
 PS.imp (RX.ps_raise hc tk he) fun D σ H ⟨F, g, r, q⟩ => q none F H .plain r.exF r.rel.ex r.rel.tb r.nF r.rel.keep r.rel.there
theorem ps_for_ {tg iter : Expr} {stm : List Stmt} {kd : ItK} {its : List C} {tgc : Tg} (hK : X.K = R.K) (hc : X.calm = true) (hi : PI X.nox tg iter (TI_ R WF E kd its)) (hg : PG X.nox tg (gT X.K tgc)) (hb : PSs X.nox stm (TS_ R WF (evSs E body)))
  (hs : ∀ x, foldedSetIterable iter X.env x = pure x) : PS X (.For tg iter stm [] pos) (TS_ R W (evS E (.for_ tgc kd its body))) := by
 refine PS.imp (PS.nox (ps_for PassesOwn.never hc hi hg hb hs)) fun D σ H ⟨F, g, r, q⟩ => ?_
 have q0 := wp_nox q
 refine ⟨F, g, r.rel, wp_mono (wp_bnd q0) (fun (ss, g1) q1 => ?_) fun _ z => z.elim⟩
 dsimp only at q1 ⊢
 cases hit : itemsK kd ss with
 | none => rw [hit] at q1; exact q1.elim
 | some p =>
  obtain ⟨items, n⟩ := p
  rw [hit] at q1
  dsimp only at q1 ⊢
  intro J F1 H1 r1 st1 iok
  obtain ⟨Gd, w, hGd⟩ := iok.w
  have R1 := r.step r1 st1
  refine for_it w (fun i σ H => ∃ F2 g, RelS R F2 g σ H ∧ Same F1 F2 ∧ wp (forL (fun d g2 => match bindT g2 tgc d n with
   | some g3 => evSs E body g3
   | none => none) (items.drop i) g) (FlC R F D) (fun _ => False)) ?_ ?_ ?_ ?_
  ·exact ⟨F1, g1, R1, Same.refl _, q1⟩
  ·rintro i σ2 H2 _ ⟨F2, g2, r2, e2, _⟩
   exact hGd H2 (e2.trans r2.rel.ex)
  ·rintro i x σ2 H2 H' hi ⟨F2, g2, r2, e2, q2⟩ y
   obtain ⟨d, F3, hd, r3, st3, hx⟩ := y.go r2.rel e2
   have hdrop : items.drop i = d :: items.drop (i + 1) := by
    obtain ⟨hl, e⟩ := List.getElem?_eq_some_iff.mp hd
    rw [List.drop_eq_getElem_cons hl, e]
   rw [hdrop] at q2
   have q3 := wp_bnd q2
   dsimp only at q3
   cases hb : bindT g2 tgc d n with
   | none => rw [hb] at q3; exact q3.elim
   | some g3 =>
    rw [hb] at q3
    have R3 := r2.step r3 st3
    show gT X.K tgc x σ2 H' _
    rw [hK]
    refine bind_tg r3 hx hb fun σ3 r4 _ _ => ⟨F3, g3, ⟨r4, R3.exF, R3.nF⟩, wp_mono q3 (fun (fl, g4) q4 => ?_) fun _ z => z.elim⟩
    have e3 : Same F1 F3 := e2.trans st3.exF
    cases fl with
    | nx => exact fun σ' F' H' e r' => ⟨F', g4, r', e3.trans e, q4⟩
    | ct => exact fun σ' F' H' e r' => ⟨F', g4, r', e3.trans e, q4⟩
    | bk => exact fun σ' F' H' e r' => q4 σ' F' H' ((st1.exF.trans e3).trans e) r'
    | rt s => exact fun v σ' F' H' e r' h => q4 v σ' F' H' ((st1.exF.trans e3).trans e) r' h
  ·rintro σ2 H2 ⟨F2, g2, r2, e2, q2⟩
   rw [List.drop_length] at q2
   exact q2 σ2 F2 H2 (st1.exF.trans e2) r2
theorem ps_while_ {stm : List Stmt} (ht : PT X.nox t (TT_ R WF (tst ct (evE E ct)))) (hb : PSs X.nox stm (TS_ R WF (evSs E body))) : PS X (.While t stm [] pos) (TS_ R W (evS E (.while_ ct body))) := by
 refine PS.imp (PS.nox (ps_while PassesOwn.never ht hb)) fun D σ H ⟨F, g, r, q⟩ => ?_
 have q0 := wp_nox q
 refine ⟨fun m σ H => ∃ F2 g, RelS R F2 g σ H ∧ Same F F2 ∧ wp (whileL (evT E ct) (evSs E body) m g) (FlC R F D) (fun _ => False), ⟨whileN, F, g, r, Same.refl _, q0⟩, ?_⟩
 rintro m σ2 H2 ⟨F2, g2, r2, e2, q2⟩
 cases m with
 | zero => exact q2.elim
 | succ m =>
  refine ⟨F2, g2, r2.rel, wp_mono (wp_bnd q2) (fun (k, g3) q3 F3 H3 r3 st3 => ?_) fun _ z => z.elim⟩
  have R3 := r2.step r3 st3
  have e3 : Same F F3 := e2.trans st3.exF
  cases k with
  | false => exact q3 σ2 F3 H3 e3 R3
  | true =>
   refine ⟨fun σ' H' => ∃ F2 g, RelS R F2 g σ' H' ∧ Same F F2 ∧ wp (whileL (evT E ct) (evSs E body) m g) (FlC R F D) (fun _ => False), fun σ' H' h => ⟨m, Nat.lt_succ_self m, h⟩, F3, g3, R3, wp_mono (wp_bnd q3) (fun (fl, g4) q4 => ?_) fun _ z => z.elim⟩
   cases fl with
   | nx => exact fun σ' F' H' e r' => ⟨F', g4, r', e3.trans e, q4⟩
   | ct => exact fun σ' F' H' e r' => ⟨F', g4, r', e3.trans e, q4⟩
   | bk => exact fun σ' F' H' e r' => q4 σ' F' H' (e3.trans e) r'
   | rt s => exact fun v σ' F' H' e r' h => q4 v σ' F' H' (e3.trans e) r' h
end
end Y
namespace Y
open PySem PySem.Spec L2
inductive Lk : HO → HO → Prop
 | on {o : Obj} {kvs : List (Key × V)} : Lk (.dK kvs) (.frz o (.dK kvs))
 | off {o : Obj} {kvs : List (Key × V)} : Lk (.frz o (.dK kvs)) (.dK kvs)
def SameK (G G' : Hp) : Prop := ∀ b o, G b = some o → G' b = some o ∨ ∃ o', Lk o o' ∧ G' b = some o'
section
variable {K : PySem.W.Frag} {F F' H H' : Hp}
mutual
theorem At.lk (e : SameK F F') : ∀ (d : D) (v : V), At K F v d → At K F' v d
 | .non, _, h => by cases h; exact .non
 | .bl b, _, h => by cases h; exact .bl b
 | .int i, _, h => by cases h; exact .int i
 | .str s, _, h => by cases h; exact .str s
 | .scr ns, _, h => by
  cases h with
  | scr h1 =>
   refine .scr ?_
   unfold SqL at *
   rcases h1 with (h1 | ⟨o, h1⟩) | h1
   ·rcases e _ _ h1 with z | ⟨o', l, z⟩
    ·exact .inl (.inl z)
    ·cases l
   ·rcases e _ _ h1 with z | ⟨o', l, z⟩
    ·exact .inl (.inr ⟨o, z⟩)
    ·cases l
   ·exact .inr h1
 | .ktup xs, _, h => by cases h with | ktup h1 => exact .ktup h1
 | .opq, v, _ => .opq v
 | .clo i xs, _, h => by
  cases h with
  | clo h1 h2 h3 h4 h5 =>
   rcases e _ _ h2 with z | ⟨o', l, z⟩
   rotate_left
   ·cases l
   rcases e _ _ h3 with z2 | ⟨o', l, z2⟩
   rotate_left
   ·cases l
   exact .clo h1 z z2 (h4.mono2 fun c o q => by
    rcases e _ _ q with z | ⟨o', l, z⟩
    ·exact z
    ·cases l) (atL_lk e xs _ h5)
 | .xcp c, _, h => by
  cases h with
  | xcp h1 h2 h3 =>
   rcases e _ _ h1 with z | ⟨o', l, z⟩
   ·exact .xcp z h2 h3
   ·cases l
 | .lst xs, _, h => by
  cases h with
  | lst h1 h2 =>
   rcases e _ _ h1 with z | ⟨o', l, z⟩
   ·exact .lst z (atL_lk e xs _ h2)
   ·cases l
 | .tup xs, _, h => by
  cases h with
  | tup h1 h2 =>
   rcases e _ _ h1 with z | ⟨o', l, z⟩
   ·exact .tup z (atL_lk e xs _ h2)
   ·cases l
 | .dct ks xs, _, h => by
  cases h with
  | dct h1 h2 h3 =>
   refine .dct ?_ h2 (atL_lk e xs _ h3)
   rcases h1 with h1 | ⟨o, h1⟩
   ·rcases e _ _ h1 with z | ⟨o', l, z⟩
    ·exact .inl z
    ·cases l; exact .inr ⟨_, z⟩
   ·rcases e _ _ h1 with z | ⟨o', l, z⟩
    ·exact .inr ⟨o, z⟩
    ·cases l; exact .inl z
 | .dctT ks xs, _, h => by
  cases h with
  | dctT h1 h2 h3 =>
   rcases e _ _ h1 with z | ⟨o', l, z⟩
   ·exact .dctT z h2 (atL_lk e xs _ h3)
   ·cases l
 | .obj c fs xs, _, h => by
  cases h with
  | obj h1 h2 h3 =>
   rcases e _ _ h1 with z | ⟨o', l, z⟩
   ·exact .obj z h2 (atL_lk e xs _ h3)
   ·cases l
theorem atL_lk (e : SameK F F') : ∀ (ds : List D) (vs : List V), Paired (At K F) vs ds → Paired (At K F') vs ds
 | [], _, h => by cases h; exact .nil
 | d :: ds, _, h => by cases h with | cons h1 h2 => exact .cons (At.lk e d _ h1) (atL_lk e ds _ h2)
end
theorem Top.lk {p : Addr} {d : D} (h : Top K F H p d) (e : SameK F F') (hp : H' p = H p) : Top K F' H' p d := by
 cases h with
 | lst h1 h2 => exact .lst (by rw [hp]; exact h1) (atL_lk e _ _ h2)
 | dct h1 h2 h3 => exact .dct (by rw [hp]; exact h1) h2 (atL_lk e _ _ h3)
 | dctT h1 h2 h3 => exact .dctT (by rw [hp]; exact h1) h2 (atL_lk e _ _ h3)
 | obj h1 h2 h3 => exact .obj (by rw [hp]; exact h1) h2 (atL_lk e _ _ h3)
end
def updS (G : Hp) (d : Addr) (w : HO) : Hp := if (G d).isSome = true ∧ isT (G d) = false then upd G d w else G
theorem updS_dom {G : Hp} {d b : Addr} {w : HO} : (updS G d w b).isSome = (G b).isSome := by
 unfold updS
 split
 ·rename_i h
  by_cases e : b = d
  ·subst e; rw [upd_same, h.1]; rfl
  ·rw [upd_ne e]
 ·rfl
theorem updS_ne {G : Hp} {d b : Addr} {w : HO} (e : b ≠ d) : updS G d w b = G b := by
 unfold updS
 split
 ·rw [upd_ne e]
 ·rfl
def Fr.lk (R : Fr) (d : Addr) (w : HO) : Fr := ⟨R.K, updS R.H0 d w, updS R.F0 d w, R.io⟩
theorem updS_back {G : Hp} {d : Addr} {u w : HO} (nw : nt w) (h : ∀ o, G d = some o → nt o → o = u) : updS (updS G d w) d u = G := by
 funext b
 by_cases e : b = d
 ·subst e
  unfold updS
  cases q : G b with
  | none => simp [q]
  | some o =>
   cases k : isT (some o) with
   | true => simp [q, k]
   | false => simp [q, k, upd, isT_nt nw, h o q (isT_no k)]
 ·rw [updS_ne e, updS_ne e]
section
variable {R : Fr} {F H F' H' : Hp} {g : G} {σ : L2.St} {d : Addr} {w w' : HO}
theorem sameK_FN {n : Bool} (hF : F d = some w) (l : Lk w w') : SameK (FN R.H0 F n) (FN (R.lk d w').H0 (upd F d w') n) := fun b o q => by
 obtain ⟨h1, h2⟩ := FN_out q
 by_cases e : b = d
 ·subst e
  rw [hF] at h1
  cases h1
  refine .inr ⟨w', l, FN_in upd_same fun hn => ?_⟩
  rcases h2 hn with z | z
  ·refine .inl ?_
   cases hh : updS R.H0 b w' b with
   | none => exact hh
   | some x =>
    have : (updS R.H0 b w' b).isSome = true := by rw [hh]; rfl
    rw [updS_dom, z] at this
    cases this
  ·cases l <;> cases z
 ·refine .inl (FN_in (by rw [upd_ne e]; exact h1) fun hn => ?_)
  rcases h2 hn with z | z
  ·refine .inl ?_
   show updS R.H0 d w' b = none
   rw [updS_ne e]
   exact z
  ·exact .inr z
theorem SlAt.lk {i : Nat} {v : V} {s : Sl} (h : SlAt R F H i v s) (hF : F d = some w) (l : Lk w w') : SlAt (R.lk d w') (upd F d w') (upd H d w') i v s := by
 obtain ⟨sd, m, n⟩ := s
 have ne : ∀ {p : Addr}, F p = none → p ≠ d := fun {p} z e => by rw [e, hF] at z; cases z
 cases m with
 | fr => exact At.lk (sameK_FN hF l) _ _ h
 | ow =>
  obtain ⟨p, rfl, h1, h2, h3⟩ := h
  exact ⟨p, rfl, by rw [upd_ne (ne h1)]; exact h1, by show updS R.H0 d w' p = none; rw [updS_ne (ne h1)]; exact h2, h3.lk (sameK_FN hF l) (upd_ne (ne h1))⟩
 | io =>
  obtain ⟨p, rfl, h1, h2, h3⟩ := h
  exact ⟨p, rfl, by rw [upd_ne (ne h1)]; exact h1, h2, h3.lk (sameK_FN hF l) (upd_ne (ne h1))⟩
theorem RelS.lk (r : RelS R F g σ H) (hF : F d = some w) (l : Lk w w') : RelS (R.lk d w') (upd F d w') g σ (upd H d w') := by
 have rl := r.rel
 have hH : H d = some w := rl.ex _ _ hF
 suffices hh : (Same (R.lk d w').F0 (upd F d w')) ∧ (∀ b, (R.lk d w').F0 b = none → ((R.lk d w').H0 b).isSome = true → upd F d w' b = none) by
  refine ⟨⟨rl.len, fun i s hi => ?_, rl.dis, fun b u q => ?_, fun b u q t n => ?_, fun b q => ?_, fun q hq => ?_, rl.iog, hh.1, hh.2, (rl.tb.freeze (by cases l <;> exact fun _ z => by cases z)).setA (fun ps z => by rw [hH] at z; cases l <;> cases z) (fun ps z => by rw [hH] at z; cases l <;> cases z) fun b hb o z => by rw [upd_ne hb]; exact z⟩, hh.1, hh.2⟩
  ·obtain ⟨v, h1, h2⟩ := rl.at_ i s hi
   exact ⟨v, h1, h2.lk hF l⟩
  ·by_cases e : b = d
   ·subst e; rw [upd_same] at q ⊢; exact q
   ·rw [upd_ne e] at q ⊢; exact rl.ex b u q
  ·by_cases e : b = d
   ·subst e
    have q' : updS R.H0 b w' b = some u := q
    unfold updS at q'
    split at q'
    ·rw [upd_same] at q' ⊢; exact q'
    ·rename_i h; rw [q'] at h; exact absurd ⟨rfl, isT_nt t⟩ h
   ·have q' : updS R.H0 d w' b = some u := q
    rw [updS_ne e] at q'
    rw [upd_ne e]
    exact rl.keep b u q' t n
  ·by_cases e : b = d
   ·subst e; rw [upd_same]; rfl
   ·have q' : (updS R.H0 d w' b).isSome = true := q
    rw [updS_ne e] at q'
    rw [upd_ne e]
    exact rl.there b q'
  ·show (updS R.H0 d w' q.2).isSome = true
   rw [updS_dom]
   exact rl.ios q hq
 refine ⟨fun b u q => ?_, fun b h1 h2 => ?_⟩
 ·have q' : updS R.F0 d w' b = some u := q
  by_cases e : b = d
  ·subst e
   unfold updS at q'
   split at q'
   ·rw [upd_same] at q' ⊢; exact q'
   ·rename_i h; rw [q'] at h; exact absurd ⟨rfl, isT_nt (rl.tb.fnt _ _ (r.exF _ _ q'))⟩ h
  ·rw [updS_ne e] at q'
   rw [upd_ne e]
   exact r.exF b u q'
 ·have h1' : updS R.F0 d w' b = none := h1
  have h2' : (updS R.H0 d w' b).isSome = true := h2
  rw [updS_dom] at h2'
  have h3 : R.F0 b = none := by
   have := updS_dom (G := R.F0) (d := d) (b := b) (w := w')
   rw [h1'] at this
   cases q : R.F0 b with
   | none => rfl
   | some _ => rw [q] at this; cases this
  have h4 := r.nF b h3 h2'
  rw [upd_ne (fun e => by subst e; rw [hF] at h4; cases h4)]
  exact h4
theorem ResAt.lk {v : V} {s : Sl} (h : ResAt R g σ R.H0 F H v s) (hF : F d = some w) (l : Lk w w') : ResAt (R.lk d w') g σ (R.lk d w').H0 (upd F d w') (upd H d w') v s := by
 obtain ⟨sd, m, n⟩ := s
 have ne : ∀ {p : Addr}, F p = none → p ≠ d := fun {p} z e => by rw [e, hF] at z; cases z
 cases m with
 | fr => exact At.lk (sameK_FN hF l) _ _ h
 | ow =>
  obtain ⟨p, rfl, h1, h2, h3, h4⟩ := h
  exact ⟨p, rfl, by show updS R.H0 d w' p = none; rw [updS_ne (ne h2)]; exact h1, by rw [upd_ne (ne h2)]; exact h2, h3, h4.lk (sameK_FN hF l) (upd_ne (ne h2))⟩
 | io => exact h.elim
theorem Fr.lk_lk (r : RelS R F g σ H) {o : Obj} {kvs : List (Key × V)} (hF : F d = some (.dK kvs)) : (R.lk d (.frz o (.dK kvs))).lk d (.dK kvs) = R := by
 have hH : H d = some (.dK kvs) := r.rel.ex _ _ hF
 have h1 : ∀ o, R.H0 d = some o → nt o → o = .dK kvs := fun o q to => by
  have := r.rel.keep d o q to fun p hp e => by
   obtain ⟨s, h2, h3, h4⟩ := r.rel.iog p hp
   obtain ⟨v, h5, h6⟩ := r.rel.at_ _ _ h2
   rw [h4] at h5
   cases h5
   obtain ⟨p', e', h7, _⟩ := slAt_own h6 (by rw [h3]; simp)
   cases e'
   rw [e, hF] at h7
   cases h7
  rw [hH] at this
  cases this
  rfl
 have h2 : ∀ o, R.F0 d = some o → nt o → o = .dK kvs := fun o q _ => by
  have := r.exF d o q
  rw [hF] at this
  cases this
  rfl
 unfold Fr.lk
 rw [updS_back (fun _ z => by cases z) h1, updS_back (fun _ z => by cases z) h2]
end
section
variable {X : Cx} {R : Fr} {W : XK} {E : Ev} {e : Expr} {stm : List Stmt} {body : List Y.S} {pos : Pos} {i j : Nat}
def TB_S (K : PySem.W.Frag) (E : Ev) (body : List Y.S) : TS := fun D σ H => ∃ R, R.K = K ∧ TS_ R WF (evSs E body) D σ H
theorem at_key {K : PySem.W.Frag} {G : Hp} (k : Key) : At K G (kV k) (keyD k) := by
 cases k with
 | inl i => exact .int i
 | inr s => exact .str s
abbrev fDb (E : Ev) (i : Nat) (body : List Y.S) : Y.D → G → M (Fl × G) := fun d g2 => match putAll g2 [i] [d] true with
 | some g3 => evSs E body g3
 | none => none
theorem imp_forD {D : Ends} {F H : Hp} {g : G} {σ : L2.St} {d : Addr} {o : Obj} {kvs : List (Key × V)} {td : TE} (r : RelS R F g σ H) (hF : F d = some (.frz o (.dK kvs))) (htd : ∀ Q, Q (.ref d) H → td σ H Q)
  (q : wp (forL (fDb E i body) ((kvs.map (·.1)).map keyD) g) (FlC R F D) (fun _ => False)) : tFor (iKeys td) (gName i) (TB_S R.K E body) D σ H := by
 refine htd _ ⟨d, o, rfl, .inl ⟨kvs, r.rel.ex _ _ hF, ?_⟩⟩
 have hlen : ((kvs.map (·.1)).map keyD).length = kvs.length := by rw [List.length_map, List.length_map]
 refine for_it (walk_keys (d := d) (o := o) (kvs := kvs)) (fun n σ H => ∃ F2 g, RelS R F2 g σ H ∧ Same F F2 ∧ wp (forL (fDb E i body) (((kvs.map (·.1)).map keyD).drop n) g) (FlC R F D) (fun _ => False)) ?_ ?_ ?_ ?_
 ·exact ⟨F, g, r, Same.refl _, q⟩
 ·rintro n σ2 H2 _ ⟨F2, g2, r2, e2, _⟩
  exact r2.rel.ex _ _ (e2 _ _ hF)
 ·rintro n x σ2 H2 H' hn ⟨F2, g2, r2, e2, q2⟩ ⟨hHe, kk, vv, hk, rfl⟩
  subst hHe
  have hd : ((kvs.map (·.1)).map keyD)[n]? = some (keyD kk) := by rw [List.getElem?_map, List.getElem?_map, hk]; rfl
  have hdrop : ((kvs.map (·.1)).map keyD).drop n = keyD kk :: ((kvs.map (·.1)).map keyD).drop (n + 1) := by
   obtain ⟨hl, e⟩ := List.getElem?_eq_some_iff.mp hd
   rw [List.drop_eq_getElem_cons hl, e]
  rw [hdrop] at q2
  have q3 := wp_bnd q2
  dsimp only [fDb] at q3
  cases hb : putAll g2 [i] [keyD kk] true with
  | none => rw [hb] at q3; exact q3.elim
  | some g3 =>
   rw [hb] at q3
   have hbind : ∀ Q : L2.St → Hp → Prop, (∀ σ', Rel R F2 g3 σ' H' → Q σ' H') → gName i (kV kk) σ2 H' Q := fun Q k => bind_tg (tg := .one i) r2.rel (at_key (K := R.K) (G := FN R.H0 F2 true) kk) hb fun σ' r' _ _ => k σ' r'
   refine hbind _ fun σ3 r4 => ⟨R, rfl, F2, g3, ⟨r4, r2.exF, r2.nF⟩, wp_mono q3 (fun (fl, g4) q4 => ?_) fun _ z => z.elim⟩
   cases fl with
   | nx => exact fun σ' F' H' e r' => ⟨F', g4, r', e2.trans e, q4⟩
   | ct => exact fun σ' F' H' e r' => ⟨F', g4, r', e2.trans e, q4⟩
   | bk => exact fun σ' F' H' e r' => q4 σ' F' H' (e2.trans e) r'
   | rt s => exact fun v σ' F' H' e r' h => q4 v σ' F' H' (e2.trans e) r' h
 ·rintro σ2 H2 ⟨F2, g2, r2, e2, q2⟩
  rw [← hlen, List.drop_length] at q2
  exact q2 σ2 F2 H2 e2 r2
theorem ps_forD_ {x f : Str} {xpos p2 npos : Pos} {e' : Expr} (hE : AttOk R.K E) (hK : X.K = R.K) (hc : X.calm = true) (hj : PE X.nox e' (tVar j)) (hb' : attributeBase e' f X.env (eval e' X.env) = eval e' X.env) (hg : PG X.nox (.Name x npos) (gName i)) (hb : ∀ R' : Fr, R'.K = R.K → PSs X.nox stm (TS_ R' WF (evSs E body)))
  (hs : ∀ v, foldedSetIterable (.Attribute e' f p2) X.env v = pure v) : PS X (.For (.Name x npos) (.Attribute e' f p2) stm [] pos) (TS_ R W (evS E (.forD i j f body))) := by
 have hbody : PSs X.nox stm (TB_S R.K E body) := ⟨fun pins s σ H D I ⟨R', hR, q⟩ => (hb R' hR).run pins s σ H D I q⟩
 have base : PS X.nox (.For (.Name x npos) (.Attribute e' f p2) stm [] pos) (tFor (iKeys (tFld X.K (tVar j) f)) (gName i) (TB_S R.K E body)) := ps_for PassesOwn.never hc (pi_keys (pe_fld hj hb')) hg hbody hs
 refine PS.nox ⟨fun pins s σ H D I q => ?_⟩
 obtain ⟨F, g, r, q⟩ := q
 have q0 : wp (match g.get j with
  | some ⟨.obj c fs xs, _, _⟩ => if E.att c f = true then (match look fs xs f with
   | some (.dct ks _) => forL (fDb E i body) (ks.map keyD) g
   | _ => none) else none
  | _ => none) (FlC R F D) (fun _ => False) := wp_nox q
 split at q0
 ·rename_i c fs xs m n hgj
  obtain ⟨hatt, q1⟩ := ifNone q0
  split at q1
  ·rename_i ks ds hlk
   obtain ⟨v, h1, h2⟩ := r.rel.at_ j _ hgj
   have hview : View R.K (FN R.H0 F n) H v (.obj c fs xs) := by
    cases m with
    | fr => exact At.view (FN_le.trans r.rel.ex) h2
    | ow => obtain ⟨p, rfl, _, _, h4⟩ := h2; exact .top h4
    | io => obtain ⟨p, rfl, _, _, h4⟩ := h2; exact .top h4
   obtain ⟨a, dx, kvs0, rfl, h3, h4, h5⟩ := hview.as_obj
   obtain ⟨hcl, hna⟩ := hE c f hatt
   obtain ⟨u, h6, h7⟩ := look_lookup f h4 h5 _ hlk
   cases h7 with
   | dct h8 h9 h10 =>
    rename_i dd kvs
    subst h9
    have fld : ∀ (H' : Hp), H' a = some (.ins (He.ga R.K c) dx kvs0) → ∀ Q : VK, Q (.ref dd) H' → tFld X.K (tVar j) f σ H' Q := fun H' ha Q hq => ⟨_, h1, a, _, dx, kvs0, _, rfl, ha, by rw [hK]; exact hcl, by rw [hK]; exact hna, h6, hq⟩
    rcases h8 with h8 | ⟨o, h8⟩
    ·have hFd : F dd = some (.dK kvs) := FN_le _ _ h8
     refine (ps_lock base).run pins s σ H D I ⟨dd, .dK kvs, r.rel.ex _ _ hFd, trivial, fun od => ?_⟩
     have rL := r.lk hFd (Lk.on (o := od))
     have hback := Fr.lk_lk (o := od) r hFd
     have hne : a ≠ dd := fun e => by
      have hHd : H dd = some (.dK kvs) := r.rel.ex _ _ hFd
      rw [e, hHd] at h3
      cases h3
     have hba : ∀ {F2 : Hp}, Same (upd F dd (.frz od (.dK kvs))) F2 → F2 dd = some (.frz od (.dK kvs)) := fun {F2} e => e _ _ upd_same
     have hsm : ∀ {F2 : Hp}, Same (upd F dd (.frz od (.dK kvs))) F2 → Same F (upd F2 dd (.dK kvs)) := fun {F2} e b o q => by
      by_cases eb : b = dd
      ·subst eb; rw [hFd] at q; cases q; exact upd_same
      ·rw [upd_ne eb]; exact e b o (by rw [upd_ne eb]; exact q)
     have main := imp_forD (E := E) (i := i) (body := body) (td := tFld X.K (tVar j) f) rL upd_same (fun Q hq => fld _ (by rw [upd_ne hne]; exact h3) Q hq) (D := ⟨fun σ' H' => H' dd = some (.frz od (.dK kvs)) ∧ D.nx σ' (upd H' dd (.dK kvs)), fun v H' => H' dd = some (.frz od (.dK kvs)) ∧ D.rt v (upd H' dd (.dK kvs)), fun σ' H' => H' dd = some (.frz od (.dK kvs)) ∧ D.bk σ' (upd H' dd (.dK kvs)), fun σ' H' => H' dd = some (.frz od (.dK kvs)) ∧ D.ct σ' (upd H' dd (.dK kvs))⟩)
      (wp_mono q1 (fun (fl, g4) q4 => by
       have rb : ∀ {F2 H2 : Hp} {σ2 : L2.St}, Same (upd F dd (.frz od (.dK kvs))) F2 → RelS (R.lk dd (.frz od (.dK kvs))) F2 g4 σ2 H2 → RelS R (upd F2 dd (.dK kvs)) g4 σ2 (upd H2 dd (.dK kvs)) := fun {F2 H2 σ2} e r2 => by
        have := r2.lk (hba e) (Lk.off (o := od))
        rw [hback] at this
        exact this
       cases fl with
       | nx => exact fun σ' F' H' e r' => ⟨r'.rel.ex _ _ (hba e), q4 σ' _ _ (hsm e) (rb e r')⟩
       | ct => exact fun σ' F' H' e r' => ⟨r'.rel.ex _ _ (hba e), q4 σ' _ _ (hsm e) (rb e r')⟩
       | bk => exact fun σ' F' H' e r' => ⟨r'.rel.ex _ _ (hba e), q4 σ' _ _ (hsm e) (rb e r')⟩
       | rt s => exact fun v σ' F' H' e r' h => ⟨r'.rel.ex _ _ (hba e), q4 v σ' _ _ (hsm e) (rb e r') (by
        have := h.lk (hba e) (Lk.off (o := od))
        rw [hback] at this
        exact this)⟩) fun _ z => z)
     exact main
    ·have hFd : F dd = some (.frz o (.dK kvs)) := FN_le _ _ h8
     exact base.run pins s σ H D I (imp_forD r hFd (fun Q hq => fld H h3 Q hq) q1)
  ·exact q1.elim
 ·exact q0.elim
end
end Y
namespace Y
open PySem PySem.Spec PyProof.Rows L2
def ent (io : Option Nat) : Nat → List D → G
 | _, [] => []
 | j, d :: ds => some ⟨d, if io = some j then .io else .fr, if io = some j then d.kidsAtom else d.atom⟩ :: ent io (j + 1) ds
def outD (io : Option Nat) (g : G) : Option (Option (D × Bool)) := match io with
 | none => some none
 | some j => match g.get j with
  | some ⟨d, .io, n⟩ => some (some (d, n))
  | _ => none
def runG (io : Option Nat) (nN np : Nat) (ev : G → M (Fl × G)) : Fn := fun ds =>
 if ds.length = np ∧ io ≠ some 100 then M.bnd (ev (ent io 0 ds ++ List.replicate (nN - np) none)) fun (fl, g1) => match outD io g1 with
  | some o => (match fl with
   | .nx => some (.ok (atm .non, o))
   | .rt s => some (.ok (s, o))
   | _ => none)
  | none => none
 else none
def runF (E : Ev) (io : Option Nat) (nN np : Nat) (body : List S) : Fn := runG io nN np (evSs E body)
theorem argAt_ent {K : PySem.W.Frag} {F H : Hp} {io : Option Nat} : ∀ {j : Nat} {vs : List V} {ds : List D}, ArgAt K F H io j vs ds →
  ∀ i s, (ent io j ds)[i]? = some (some s) → ∃ v, vs[i]? = some v ∧ True ∧ ((s.m = .fr ∧ s.n = s.d.atom ∧ io ≠ some (j + i) ∧ At K F v s.d) ∨ (s.m = .io ∧ s.n = s.d.kidsAtom ∧ io = some (j + i) ∧ ∃ p, v = .ref p ∧ F p = none ∧ Top K F H p s.d))
 | _, _, _, .nil, i, s, h => by simp [ent] at h
 | j, _, _, .val (v := v) (d := d) hne hv t, i, s, h => by
  cases i with
  | zero =>
   simp only [ent, List.getElem?_cons_zero, Option.some.injEq] at h
   subst h
   exact ⟨v, rfl, trivial, .inl ⟨by show (if io = some j then Mode.io else .fr) = _; rw [if_neg hne], by show (if io = some j then d.kidsAtom else d.atom) = _; rw [if_neg hne], hne, hv⟩⟩
  | succ i =>
   simp only [ent, List.getElem?_cons_succ] at h
   obtain ⟨w, h1, h2, h3⟩ := argAt_ent t i s h
   have e : j + 1 + i = j + (i + 1) := by omega
   rw [e] at h3
   exact ⟨w, by simpa using h1, h2, h3⟩
 | j, _, _, .io (p := p) (d := d) he hF hT t, i, s, h => by
  cases i with
  | zero =>
   simp only [ent, List.getElem?_cons_zero, Option.some.injEq] at h
   subst h
   exact ⟨_, rfl, trivial, .inr ⟨by show (if io = some j then Mode.io else .fr) = _; rw [if_pos he], by show (if io = some j then d.kidsAtom else d.atom) = _; rw [if_pos he], he, p, rfl, hF, hT⟩⟩
  | succ i =>
   simp only [ent, List.getElem?_cons_succ] at h
   obtain ⟨w, h1, h2, h3⟩ := argAt_ent t i s h
   have e : j + 1 + i = j + (i + 1) := by omega
   rw [e] at h3
   exact ⟨w, by simpa using h1, h2, h3⟩
theorem argAt_len {K : PySem.W.Frag} {F H : Hp} {io : Option Nat} {j : Nat} {vs : List V} {ds : List D} (h : ArgAt K F H io j vs ds) : vs.length = ds.length := by
 induction h with
 | nil => rfl
 | val _ _ _ ih => rw [List.length_cons, List.length_cons, ih]
 | io _ _ _ _ ih => rw [List.length_cons, List.length_cons, ih]
theorem ent_len (io : Option Nat) : ∀ (j : Nat) (ds : List D), (ent io j ds).length = ds.length
 | _, [] => rfl
 | j, d :: ds => by rw [ent, List.length_cons, List.length_cons, ent_len]
theorem argAt_io {K : PySem.W.Frag} {F H : Hp} {io : Option Nat} : ∀ {j : Nat} {vs : List V} {ds : List D}, ArgAt K F H io j vs ds → ∀ i v, io = some (j + i) → vs[i]? = some v → ∃ p s, v = .ref p ∧ F p = none ∧ (∃ d, Top K F H p d) ∧ (ent io j ds)[i]? = some (some s) ∧ s.m = .io
 | _, _, _, .nil, i, v, _, h => by simp at h
 | j, _, _, .val (d := d) hne hv t, i, v, e, h => by
  cases i with
  | zero => exact absurd (by simpa using e) hne
  | succ i =>
   have e' : io = some (j + 1 + i) := by rw [e]; congr 1; omega
   obtain ⟨p, s, h1, h2, h3, h4, h5⟩ := argAt_io t i v e' (by simpa using h)
   exact ⟨p, s, h1, h2, h3, by simpa [ent] using h4, h5⟩
 | j, _, _, .io (p := p) (d := d) he hF hT t, i, v, e, h => by
  cases i with
  | zero =>
   simp only [List.getElem?_cons_zero, Option.some.injEq] at h
   exact ⟨p, ⟨d, .io, d.kidsAtom⟩, h.symm, hF, ⟨d, hT⟩, by simp [ent, he], rfl⟩
  | succ i =>
   have e' : io = some (j + 1 + i) := by rw [e]; congr 1; omega
   obtain ⟨p, s, h1, h2, h3, h4, h5⟩ := argAt_io t i v e' (by simpa using h)
   exact ⟨p, s, h1, h2, h3, by simpa [ent] using h4, h5⟩
def ioL (io : Option Nat) (vs : List V) : List (Nat × Addr) := match io with
 | none => []
 | some j => match vs[j]? with
  | some (.ref p) => [(j, p)]
  | _ => []
theorem ioL_mem {io : Option Nat} {vs : List V} {q : Nat × Addr} (h : q ∈ ioL io vs) : io = some q.1 ∧ vs[q.1]? = some (.ref q.2) ∧ ioA io vs = some q.2 := by
 unfold ioL at h
 cases io with
 | none => cases h
 | some j =>
  dsimp only at h
  split at h
  ·rename_i p hp
   rcases List.mem_singleton.mp h with rfl
   exact ⟨rfl, hp, by unfold ioA; simp only [hp]⟩
  ·cases h
theorem ioL_of {io : Option Nat} {vs : List V} {j : Nat} {p : Addr} (h : io = some j) (hv : vs[j]? = some (.ref p)) : (j, p) ∈ ioL io vs := by
 unfold ioL
 rw [h]
 dsimp only
 rw [hv]
 exact List.mem_singleton.mpr rfl
section
variable {K : PySem.W.Frag} {F H : Hp} {io : Option Nat} {vs : List V} {ds : List D} {N : List Str}
theorem start_get {i : Nat} {v : V} (h : vs[i]? = some v) : (start N vs)[i]? = some (some v) := by
 unfold L2.start
 have hl := (List.getElem?_eq_some_iff.mp h).1
 rw [List.getElem?_append_left (by rw [List.length_map]; exact hl), List.getElem?_map, h]
 rfl
theorem rel_start (eF : Same F H) (tF : Tb K F H) (hA : ArgAt K F H io 0 vs ds) (hn : vs.length ≤ N.length) : RelS ⟨K, H, F, ioL io vs⟩ F (ent io 0 ds ++ List.replicate (N.length - ds.length) none) (start N vs) H := by
 have hl := argAt_len hA
 have gl : ∀ i s, G.get (ent io 0 ds ++ List.replicate (N.length - ds.length) none) i = some s → (ent io 0 ds)[i]? = some (some s) := fun i s h => by
  unfold G.get at h
  by_cases hi : i < (ent io 0 ds).length
  ·rw [List.getElem?_append_left hi] at h
   cases q : (ent io 0 ds)[i]? with
   | none => rw [q] at h; cases h
   | some o => rw [q] at h; cases o with
    | none => cases h
    | some t => cases h; rfl
  ·rw [List.getElem?_append_right (by omega)] at h
   rw [List.getElem?_replicate] at h
   split at h <;> cases h
 have key : ∀ i s, G.get (ent io 0 ds ++ List.replicate (N.length - ds.length) none) i = some s → ∃ v, (start N vs)[i]? = some (some v) ∧ vs[i]? = some v ∧ True ∧ ((s.m = .fr ∧ s.n = s.d.atom ∧ At K F v s.d) ∨ (s.m = .io ∧ s.n = s.d.kidsAtom ∧ io = some i ∧ ∃ p, v = .ref p ∧ F p = none ∧ Top K F H p s.d)) := fun i s h => by
  obtain ⟨v, h1, h2, h3⟩ := argAt_ent hA i s (gl i s h)
  rw [Nat.zero_add] at h3
  exact ⟨v, start_get h1, h1, h2, h3.imp (fun z => ⟨z.1, z.2.1, z.2.2.2⟩) id⟩
 refine ⟨⟨?_, fun i s hi => ?_, fun i j s t p hi hj hs ht pi pj => ?_, eF, fun b o h _ _ => h, fun b h => h, fun q hq => ?_, fun q hq => ?_, Same.refl F, fun b h _ => h, tF⟩, Same.refl F, fun b h _ => h⟩
 ·unfold L2.start
  rw [List.length_append, List.length_append, List.length_map, List.length_replicate, List.length_replicate, ent_len, hl]
 ·obtain ⟨v, h1, h2, h3, h4⟩ := key i s hi
  refine ⟨v, h1, ?_⟩
  obtain ⟨d, m, n⟩ := s
  rcases h4 with ⟨hm, hn', h4⟩ | ⟨hm, hn', hio, p, rfl, h5, h6⟩
  ·cases (show m = .fr from hm)
   cases (show n = d.atom from hn')
   show At K (FN H F d.atom) v d
   cases ha : d.atom with
   | true => exact h4.atom ha
   | false => rw [FN_false]; exact h4
  ·cases (show m = .io from hm)
   cases (show n = d.kidsAtom from hn')
   refine ⟨p, rfl, h5, ioL_of hio h2, ?_⟩
   show Top K (FN H F d.kidsAtom) H p d
   cases ha : d.kidsAtom with
   | true => exact h6.atoms ha
   | false => rw [FN_false]; exact h6
 ·obtain ⟨_, _, _, _, h4⟩ := key i s hi
  obtain ⟨_, _, _, _, h5⟩ := key j t hj
  rcases h4 with ⟨hm, _⟩ | ⟨_, _, h4, _⟩
  ·exact absurd hm hs
  ·rcases h5 with ⟨hm, _⟩ | ⟨_, _, h5, _⟩
   ·exact absurd hm ht
   ·rw [h4] at h5; exact Option.some.inj h5
 ·obtain ⟨h1, h2, _⟩ := ioL_mem hq
  obtain ⟨p, s, e, _, ⟨d, hT⟩, _⟩ := argAt_io hA q.1 _ (by rw [Nat.zero_add]; exact h1) h2
  cases e
  obtain ⟨u, hu⟩ := hT.is
  show (H q.2).isSome = true
  rw [hu]; rfl
 ·obtain ⟨h1, h2, _⟩ := ioL_mem hq
  obtain ⟨p, s, e, _, _, h3, h4⟩ := argAt_io hA q.1 _ (by rw [Nat.zero_add]; exact h1) h2
  refine ⟨s, ?_, h4, start_get h2⟩
  unfold G.get
  rw [List.getElem?_append_left (by have := (List.getElem?_eq_some_iff.mp h3).1; exact this), h3]
  rfl
end
theorem post_of {K : PySem.W.Frag} {F H F' H' : Hp} {io : Option Nat} {vs : List V} {g : G} {σ : L2.St} {v : V} {s : Sl} {o : Option (D × Bool)} (hioA : ∀ p, ioA io vs = some p → ∃ j, (j, p) ∈ ioL io vs) (r : RelS ⟨K, H, F, ioL io vs⟩ F' g σ H') (h : ResAt ⟨K, H, F, ioL io vs⟩ g σ H F' H' v s) (ho : outD io g = some o) : CallPost K F H F' H' (ioA io vs) v s o := by
 refine ⟨r.exF, r.rel.ex, r.rel.tb, fun b u hb ht hne => r.rel.keep b u hb ht fun q hq e => ?_, r.nF, r.rel.there, ?_, fun p hp => ?_⟩
 ·obtain ⟨_, _, h3⟩ := ioL_mem hq
  rw [← e] at hne
  exact hne h3
 ·obtain ⟨d, m, n⟩ := s
  cases m with
  | fr => exact h
  | ow =>
   obtain ⟨p, rfl, h1, h2, _, h4⟩ := h
   exact ⟨p, rfl, h1, h2, h4⟩
  | io => exact h.elim
 ·obtain ⟨j, hj⟩ := hioA p hp
  obtain ⟨h1, h2, h3⟩ := ioL_mem hj
  obtain ⟨t, h4, h5, h6⟩ := r.rel.iog _ hj
  have h4' : g.get j = some t := h4
  have h1' : io = some j := h1
  obtain ⟨w, h7, h8⟩ := r.rel.at_ _ _ h4
  rw [h6] at h7
  cases h7
  obtain ⟨d, m, n⟩ := t
  cases (show m = .io from h5)
  obtain ⟨q, e, h9, _, h10⟩ := h8
  cases e
  unfold outD at ho
  rw [h1'] at ho
  dsimp only at ho
  rw [h4'] at ho
  cases ho
  exact ⟨(d, n), rfl, h9, h10⟩
theorem fnD {P : Program} {w : World} {K : PySem.W.Frag} {mg : Str → Option Value} {base : Heap} {x qual : Str} {params : Arguments} {body : List Stmt} {scope : Scope} {dvs : List V} {kws : List (Str × V)} {f : Addr} {fd : FuncData} {N ps : List Str} {k np nN : Nat} {io : Option Nat} {ev : G → M (Fl × G)}
  (Fd : FunD K x qual params body scope dvs kws f fd) (Sc : FnScope N ps scope) (hps : ps.length = np) (hN : N.length = nN)
  (hb : ∀ (cdv : Value), codeV K f = cdv → ∀ (A : Around), A.guards = some [] → ∀ (outer : List Env) (s : Shared) (H : Hp) (W : XK) (R : Fr), R.K = K → Room k (A.deeper (envOfC qual scope s.heap.objs.size f cdv)) → PSs (cxOf (RX.CX P w) P w K mg base N qual scope f cdv A outer s H W) body (TS_ R W ev)) :
  FnG P w K mg base (RX.CX P w) (k + 1) f fd ps (spD K io np (runG io nN np ev)) := by
 have hple : ps.length ≤ N.length := by have := congrArg List.length Sc.pre; rw [List.length_take] at this; omega
 by_cases h100 : io = some 100
 ·subst h100
  rw [spD_dn]
  have no : ∀ vs H Q W, ¬ spDn K np (runG (some 100) nN np ev) vs H Q W := fun vs H Q W ⟨F, ds, a, c, T, m, k, ch, e, vs', _, _, _, _, _, _, q⟩ => by
   unfold runG at q
   rw [if_neg (by simp)] at q
   exact q
  exact FunD.okG Fd Sc (fun vs H Q W h => (no _ _ _ _ h).elim) fun cdv hcd A gd outer s H vs Q W hr hsp => (no _ _ _ _ hsp).elim
 rw [spD_old h100]
 refine FunD.okG Fd Sc (fun vs H Q W ⟨F, ds, _, _, h, _⟩ => by rw [hps]; exact h) fun cdv hcd A gd outer s H vs Q W hr hsp => ?_
 obtain ⟨F, ds, eF, tF, hn, hA, q⟩ := hsp
 refine ⟨_, hb cdv hcd A gd outer s H W ⟨K, H, F, ioL io vs⟩ rfl hr, ?_⟩
 have hl := argAt_len hA
 unfold runG at q
 obtain ⟨⟨hdl, _⟩, q1⟩ := ifNone q
 have hg : ent io 0 ds ++ List.replicate (nN - np) none = ent io 0 ds ++ List.replicate (N.length - ds.length) none := by rw [hN, hdl]
 rw [hg] at q1
 have hioA : ∀ p, ioA io vs = some p → ∃ j, (j, p) ∈ ioL io vs := fun p hp => by
  unfold ioA at hp
  cases io with
  | none => cases hp
  | some j =>
   dsimp only at hp
   split at hp
   ·rename_i q hq
    cases hp
    exact ⟨j, ioL_of rfl hq⟩
   ·cases hp
 refine ⟨F, _, rel_start (N := N) eF tF hA (by omega), wp_mono (wp_bnd q1) (fun (fl, g1) q2 => ?_) fun c hw d F' H' xd eF eH tb nF fr th => hw d F' H' xd eF eH tb nF (fun b u h1 ht h2 => fr b u h1 ht fun q hq e => ?_) th⟩
 ·dsimp only at q2
  cases ho : outD io g1 with
  | none => rw [ho] at q2; exact q2.elim
  | some o =>
   rw [ho] at q2
   dsimp only at q2
   cases fl with
   | nx => exact fun σ' F' H' _ r' => q2 .non F' H' (post_of hioA r' (At.non) ho)
   | bk => exact q2.elim
   | ct => exact q2.elim
   | rt s => exact fun v σ' F' H' _ r' h => q2 v F' H' (post_of hioA r' h ho)
 ·obtain ⟨_, _, h3⟩ := ioL_mem hq
  rw [← e] at h2
  exact h2 h3
end Y
namespace Y
open PySem PySem.Spec PyProof.Rows L2
def isStar : Expr → Bool | .Starred .. => true | _ => false
def notSlice : Expr → Bool | .Slice .. => false | _ => true
def notSet : Expr → Bool | .Set .. => false | _ => true
def notTup : Expr → Bool | .Tuple vs _ _ => vs.all (foldedForSure 8) | _ => true
def notComp : Expr → Bool | .ListComp .. => false | .SetComp .. => false | .DictComp .. => false | _ => true
def isIf : Expr → Bool | .IfExp .. => true | _ => false
def plainT : Expr → Bool
 | .UnaryOp .Not _ _ => false
 | .BoolOp .. => false
 | .IfExp .. => false
 | .Compare .. => false
 | _ => true
def noSup : Expr → Bool
 | .Call (.Name x _) [] [] _ => x != "super"
 | _ => true
section
variable {e o : Expr} {es : List Expr} {env : Env} {pos : Pos}
theorem star_ok (h : isStar e = false) : starEach (e :: es) env = (false, eval e env) :: starEach es env := by
 cases e <;> first | rfl | cases h
theorem any_ok : ∀ {es : List Expr}, es.all (fun e => !isStar e) = true → (backTo pos (starEach es env)).any (·.1) = false
 | [], _ => rfl
 | e :: es, h => by
  rw [List.all_cons, Bool.and_eq_true] at h
  rw [star_ok (by simpa using h.1)]
  show (false || (backTo pos (starEach es env)).any (·.1)) = false
  rw [any_ok h.2]
  rfl
theorem all_ok : ∀ {es : List Expr}, es.all (fun e => !isStar e) = true → (backTo pos (starEach es env)).all (fun x => !x.1) = true
 | [], _ => rfl
 | e :: es, h => by
  rw [List.all_cons, Bool.and_eq_true] at h
  rw [star_ok (by simpa using h.1)]
  show (true && (backTo pos (starEach es env)).all (fun x => !x.1)) = true
  rw [all_ok h.2]
  rfl
theorem few_ok (h : es.all (fun e => !isStar e) = true) (hl : es.length < 30) : ((backTo pos (starEach es env)).all (fun x => !x.1) && (backToKw pos (keywordEach [] env)).all (fun x => x.1.isSome) && decide (es.length + ([] : List Keyword).length + (if ([] : List Keyword).isEmpty then 0 else 1) < 30)) = true := by
 rw [all_ok h]
 simp only [Bool.true_and, Bool.and_eq_true, decide_eq_true_eq]
 refine ⟨rfl, ?_⟩
 simpa using hl
theorem base_ok {m : Str} {whole : Sem Value} (h : noSup o = true) : attributeBase o m env whole = whole := by
 unfold attributeBase
 split
 ·rename_i id p pos'
  have h' : (id != "super") = true := h
  rw [h']
  rfl
 ·rfl
theorem true_ok (h : plainT e = true) (whole : Sem Value) : isTrue e env whole = (do let v ← whole; standAt e.pos; holding [v] (truthy v)) := by
 cases e with
 | UnaryOp op x p => cases op <;> first | rfl | cases h
 | BoolOp => cases h
 | IfExp => cases h
 | Compare => cases h
 | _ => rfl
theorem ix_ok (h : notSlice e = true) : PlainIx e := fun a b => by
 cases e <;> first | rfl | cases h
theorem marks_ok {op : CmpOp} (h : notSet e = true) : behindInMarks op e = false := by
 cases e <;> first | rfl | cases h
theorem sw_ok {t : Option Expr} {l : Nat} (h : notComp e = true) : swapsWith e t l env = pure false := by
 cases e <;> first | rfl | cases h
theorem swT_ok {ts : List Expr} {k : Nat} {p : Pos} {l : Nat} : swapsWithSole [.Tuple ts k p] e l env = pure false := by
 show swapsWith e (some (.Tuple ts k p)) l env = pure false
 cases e <;> rfl
theorem swS_ok {a b : Expr} {p : Pos} {l : Nat} : swapsWithSole [.Subscript a b p] e l env = pure false := by
 show swapsWith e (some (.Subscript a b p)) l env = pure false
 cases e <;> rfl
theorem swA_ok {a : Expr} {f : Str} {p : Pos} {l : Nat} : swapsWith e (some (.Attribute a f p)) l env = pure false := by
 cases e <;> rfl
theorem storesT_ok {ts : List Expr} {k : Nat} {p : Pos} (h : notTup e = true) : swappedStores [.Tuple ts k p] e env = pure none := by
 cases e
 case Tuple vs k2 p2 =>
  have h' : vs.all (foldedForSure 8) = true := h
  unfold swappedStores
  dsimp only
  repeat' first | rfl | (rw [if_pos h']; rfl) | split
  all_goals first | rfl | exact absurd h' ‹_›
 all_goals rfl
theorem storesS_ok {a b : Expr} {p : Pos} : swappedStores [.Subscript a b p] e env = pure none := by
 cases e <;> rfl
theorem fold_ok (h : notSet e = true) (x : Value) : foldedSetIterable e env x = pure x := by
 cases e <;> first | rfl | cases h
theorem asg_ok {a b : Expr} {p : Pos} (h : notSlice b = true) (v : Value) : assign (.Subscript a b p) env v = (do
   let ov ← holding [v] (eval a env)
   let iv ← holding [v, ov] (eval b env)
   standAt p
   holding [v, ov, iv] (setItem ov iv v)
   release [v, ov, iv] []) := by
 cases b <;> first | rfl | cases h
theorem meth_ok {m : Str} {apos : Pos} (hb : noSup o = true) (h : es.all (fun e => !isStar e) = true) (hl : es.length < 30) (hln : (apos.endLine == pos.line) = true) :
  eval (.Call (.Attribute o m apos) es [] pos) env = (do
   let ov ← eval o env
   standAt apos.atName
   let (f, first) ← holding [ov] (getMethod ov m (plainOf o env))
   callWith pos f first (backTo pos (starEach es env)) (backToKw pos (keywordEach [] env))) := by
 refine mcall_of (t := fun ov => do
   let (f, first) ← holding [ov] (getMethod ov m (plainOf o env))
   callWith pos f first (backTo pos (starEach es env)) (backToKw pos (keywordEach [] env))) (base_ok hb) fun ov => mcall_line ?_ hln
 have := few_ok (env := env) (pos := pos) h hl
 unfold methodCallForm
 exact this
theorem m1_ok {X : Cx} {m : Str} {apos : Pos} (hb : noSup o = true) (h : isStar e = false) (hln : (apos.endLine == pos.line) = true) : M1 X o m apos e pos :=
 ⟨base_ok hb, few_ok (by simp [h]) (by simp), hln, by rw [star_ok h]; rfl⟩
theorem par_ok {x y : Str} {px py pt pt2 : Pos} {kt k2 : Nat} {a b : Expr} (hk : env.scope.kind = .function) (hx : env.scope.names.lookup x = some .local) (hy : env.scope.names.lookup y = some .local) (hxy : x ≠ y) (ha : isStar a = false) (hb : isStar b = false) (hl : (py.line == px.line) = true)
  (h1 : [a, b].all (foldedForSure 8) = false) (h2 : [a, b].all (constantsAlone 8) = false) : swappedStores [.Tuple [.Name x px, .Name y py] kt pt] (.Tuple [a, b] k2 pt2) env = pure (some [x, y]) := by
 have hbk : env.blockKind = .function := by unfold Env.blockKind; rw [hk]; rfl
 have kx : env.kindOf x = some .local := hx
 have ky : env.kindOf y = some .local := hy
 have hd : ([x, y].eraseDups).length = 2 := by
  have : (x == y) = false := by simpa using hxy
  have h' : (y == x) = false := by simpa using Ne.symm hxy
  simp [List.eraseDups, List.eraseDupsBy, List.eraseDupsBy.loop, h', this]
 unfold swappedStores
 simp only [hbk, List.head?, Option.map, Option.getD, List.filterMap, kx, ky, Expr.pos, hl, h1, h2]
 simp [hd]
 intro h
 exfalso
 rcases h with h | h
 ·revert h
  cases a <;> first | (intro h; cases h; done) | exact absurd ha (by simp [isStar])
 ·revert h
  cases b <;> first | (intro h; cases h; done) | exact absurd hb (by simp [isStar])
end
end Y
namespace Y
open PySem PySem.Spec PyProof.Rows L2
structure Q where
 E : Ev
 N : List Str
 blt : Str → Bool
 exB : Str → Bool
 /-- a def's own names, not a comprehension's -/
 top : Bool
def Q.blk (q : Q) : Q := ⟨q.E, q.N, q.blt, q.exB, false⟩
def ExcOk1 (K : PySem.W.Frag) (mg : Str → Option Value) (exB : Str → Bool) : Prop := ∀ c, exB c = true → flagN c = false → ∀ X : Cx, X.K = K → X.mg = mg → ∀ (m : Str) (j : Nat) (p p2 pos : Pos), Gl X c → L2N.PMk X (.Call (.Name c p) [.Constant (.str m) j p2] [] pos) (fun _ H Q => Q (.ref (He.ga K c)) none H)
def tHalt (K : PySem.W.Frag) (ta : TA) : L2.St → Hp → XK → Prop := fun σ H Q => ta σ H fun vs H1 => ∃ v1 v2, vs = [v1, v2] ∧ ∀ d, H1 d = none → Q (.ref (He.ga K "Halt")) (some d) (upd H1 d (.xd [("chain", v2), ("number", v1)]))
def HaltOk (K : PySem.W.Frag) (mg : Str → Option Value) : Prop := ∀ X : Cx, X.K = K → X.mg = mg → X.A.depth + 5 < recursionLimit → ∀ (e1 e2 : Expr) (ta : TA) (p pos : Pos), Gl X "Halt" → PA X [e1, e2] ta → starEach [e1, e2] X.env = (false, eval e1 X.env) :: starEach [e2] X.env → (backTo pos (starEach [e2] X.env)).any (·.1) = false →
 L2H.PMk5 X (.Call (.Name "Halt" p) [e1, e2] [] pos) (tHalt K ta)
def CliOk (K : PySem.W.Frag) (c : Str) : Prop := ∀ f, Mk K (He.ga K c) f → ∃ mc, PySem.W.readsIn K (He.ga K c) mc = true ∧ PySem.W.specialIn K (.ref (He.ga K c)) "__getattribute__" = some (some (.builtin "type.__getattribute__")) ∧ PySem.W.findCls K (.ref (He.ga K c)) mc "__init__" = some (.val (.ref f)) ∧ PySem.W.keepIn K (.ref f) = true
structure ExcOk (K : PySem.W.Frag) (mg : Str → Option Value) (exB : Str → Bool) : Prop where
 one : ExcOk1 K mg exB
 halt : exB "!Halt" = true → HaltOk K mg
 cli : ∀ c, exB (cliN c) = true → CliOk K c
structure Bg (q : Q) (k : Nat) (X : Cx) (R : Fr) (W : XK) (sc : Scope) (fnB : Str → Bool) : Prop where
 hK : X.K = R.K
 hN : X.N = q.N
 nd : X.N.Nodup
 calm : X.calm = true
 gd : X.A.guards = some []
 room : Room k X.A
 tk : RX.Takes X (fun cls d _ H => W cls d H)
 L : Lv X R.K q.E k
 att : AttOk R.K q.E
 isi : IsiOk R.K q.E
 con : ConOk (R := R) q.E X.mg
 kd : KdOk R.K X.w X.mg q.E
 blt : ∀ x, q.blt x = true → X.mg x = none
 cl : ∀ c, q.E.cl c = true → X.mg c = some (.ref (He.ga R.K c))
 exc : ExcOk R.K X.mg q.exB
 hsc : X.env.scope = sc
 kind : sc.kind = .function
 fn : ∀ x, fnB x = true → X.fn x = true
 top : q.top = true → X.stack = X.env :: X.outer ∧ X.env.frame = some X.env.locals
def isFn (sc : Scope) : Bool := match sc.kind with | .function => true | _ => false
def visB (sc : Scope) (x : Str) : Bool := match sc.names.lookup x with | some .local => true | some .cell => true | some .free => true | _ => false
def locB (sc : Scope) (x : Str) : Bool := match sc.names.lookup x with | some .local => true | some .cell => true | _ => false
def isLoc (sc : Scope) (x : Str) : Bool := match sc.names.lookup x with | some .local => true | _ => false
def isCell (sc : Scope) (x : Str) : Bool := match sc.names.lookup x with | some .cell => true | _ => false
def glB (sc : Scope) (x : Str) : Bool := match sc.names.lookup x with | some .globalImplicit => true | _ => false
def relSc (sc scope : Scope) : Scope := { scope with names := scope.names.map fun (n, k) => if (k == .free && sc.kind == .function && sc.names.lookup n == some .cell) then (n, .cell) else (n, k) }
def optB {α β : Type} (f : α → β → Bool) : Option α → Option β → Bool
 | none, none => true
 | some a, some b => f a b
 | _, _ => false
def nst (es : List Expr) : Bool := es.all fun e => !isStar e
def nmB (q : Q) (sc : Scope) (fnB : Str → Bool) (e : Expr) (i : Nat) : Bool := match e with
 | .Name x _ => decide (q.N[i]? = some x) && locB sc x && (fnB x || isLoc sc x)
 | _ => false
def tgB (q : Q) (sc : Scope) (fnB : Str → Bool) (tg : Expr) (t : Tg) : Bool := match t with
 | .one i => nmB q sc fnB tg i
 | .tup is => (match tg with
  | .Tuple es _ _ => all2 (nmB q sc fnB) es is
  | _ => false)
def isTup : Expr → Bool | .Tuple .. => true | _ => false
def isNam : Expr → Bool | .Name .. => true | _ => false
def tyB (sc : Scope) (q : Q) (b : Expr) (t : Ty) : Bool := match b with
 | .Name x _ => glB sc x && okN x && (match t with
  | .ty n => q.blt x && (match bootBuiltins x with | some (.type m) => m == n | _ => false)
  | .cls c => decide (x = c) && q.E.cl c)
 | _ => false
def itB (ck : Expr → C → Bool) (q : Q) (sc : Scope) (tg : Expr) (kd : ItK) (it : Expr) (its : List C) : Bool := match kd with
 | .any => (match its with | [c] => ck it c | _ => false)
 | .rng1 => (match it, its with | .Call (.Name x _) [a] [] _, [c] => decide (x = "range") && glB sc x && q.blt x && ck a c | _, _ => false)
 | .rng2 => (match it, its with | .Call (.Name x _) [a, b] [] _, [c, d] => decide (x = "range") && glB sc x && q.blt x && ck a c && ck b d | _, _ => false)
 | .rng3 => (match it, its with | .Call (.Name x _) [a, b, e] [] _, [c, d, f] => decide (x = "range") && glB sc x && q.blt x && ck a c && ck b d && ck e f | _, _ => false)
 | .enum => (match it, its with | .Call (.Name x _) [a] [] _, [c] => isTup tg && decide (x = "enumerate") && glB sc x && q.blt x && ck a c | _, _ => false)
 | .ezip => (match it, its with | .Call (.Name x _) [.Call (.Name y _) [a, b] [] _] [] _, [c, d] => isTup tg && decide (x = "enumerate") && decide (y = "zip") && glB sc x && q.blt x && glB sc y && q.blt y && ck a c && ck b d | _, _ => false)
 | .zipn => (match it, its with | .Call (.Name x _) [a, b] [] _, [c, d] => isNam tg && decide (x = "zip") && glB sc x && q.blt x && ck a c && ck b d | _, _ => false)
 | .zip => (match it, its with | .Call (.Name x _) [a, b] [] _, [c, d] => isTup tg && decide (x = "zip") && glB sc x && q.blt x && ck a c && ck b d | _, _ => false)
def isCompE : Expr → Bool | .ListComp _ _ _ _ => true | _ => false
def chk (q : Q) : Nat → Scope → Expr → C → Bool
 | 0, _, _, _ => false
 | n + 1, sc, e, c =>
  let r := chk q n sc
  match e with
  | .BoolOp op [b] _ => r b c && !isIf b && !isStar b
  | e => match c with
   | .var i => (match e with | .Name x _ => decide (q.N[i]? = some x) && visB sc x && okN x | _ => false)
   | .con y => (match e with | .Name x _ => decide (x = y) && glB sc x && okN x && (q.E.con x).isSome | _ => false)
   | .int j => (match e with | .Constant (.int i) _ _ => decide (i = j) | _ => false)
   | .str j => (match e with | .Constant (.str i) _ _ => decide (i = j) | _ => false)
   | .bl j => (match e with | .Constant (.bool i) _ _ => decide (i = j) | _ => false)
   | .non => (match e with | .Constant .none _ _ => true | _ => false)
   | .tup cs => (match e with | .Tuple es _ _ => all2 r es cs | _ => false)
   | .lst cs => (match e with | .List es _ => all2 r es cs | _ => false)
   | .dnew => (match e with | .Dict [] [] _ => true | _ => false)
   | .dnewT => (match e with | .Dict [] [] _ => true | _ => false)
   | .bin op ca cb => (match e with | .BinOp a o b _ => decide (o = op.py) && r a ca && r b cb | _ => false)
   | .neg ca => (match e with | .UnaryOp .USub a _ => r a ca | _ => false)
   | .not_ ca => (match e with | .UnaryOp .Not a _ => r a ca && !isIf a | _ => false)
   | .cmp op ca cb => (match e with | .Compare a [o] [b] _ => decide (o = op.py) && r a ca && r b cb && notSet b | _ => false)
   | .chain op op' ca cb cc => (match e with | .Compare a [o, o'] [b, d] _ => decide (o = op.py) && decide (o' = op'.py) && r a ca && r b cb && r d cc && notSet d | _ => false)
   | .and_ ca cb => (match e with | .BoolOp .And (a :: b :: rest) p => r a ca && !isIf a && r (.BoolOp .And (b :: rest) p) cb | _ => false)
   | .or_ ca cb => (match e with | .BoolOp .Or (a :: b :: rest) p => r a ca && !isIf a && r (.BoolOp .Or (b :: rest) p) cb | _ => false)
   | .ife ct ca cb => (match e with | .IfExp t a b _ => r t ct && !isIf t && r a ca && r b cb | _ => false)
   | .lrg ca => (match e with | .Call (.Name x _) [.Call (.Name y _) [a] [] _] [] _ => decide (x = "list") && decide (y = "range") && glB sc x && q.blt x && glB sc y && q.blt y && r a ca | _ => false)
   | .sset ca => (match e with | .Call (.Name x _) [.Call (.Name y _) [a] [] _] [] _ => decide (x = "sorted") && decide (y = "set") && glB sc x && q.blt x && glB sc y && q.blt y && r a ca | _ => false)
   | .rev ca => (match e with | .Subscript a (.Slice none none (some (.UnaryOp .USub (.Constant (.int i) _ _) _)) _) _ => decide (i = 1) && r a ca | _ => false)
   | .slc ca cl ch => (match e with | .Subscript a (.Slice lo hi none _) _ => r a ca && optB r lo cl && optB r hi ch | _ => false)
   | .idx ca cb => (match e with | .Subscript a b _ => r a ca && r b cb && notSlice b | _ => false)
   | .att ca g => (match e with | .Attribute a f _ => decide (f = g) && r a ca && noSup a | _ => false)
   | .call fid cs => (match e with | .Call (.Name x _) es [] _ => decide (q.E.gl x = some fid) && glB sc x && okN x && all2 r es cs && (!es.isEmpty || decide (0 + (moreOf q.E fid 0).length = q.E.np fid)) | _ => false)
   | .new y fid cs => (match e with | .Call (.Name x _) es [] _ => decide (x = y) && decide (q.E.ini x = some fid) && decide (q.E.io fid = some 0) && glB sc x && okN x && all2 r es cs && decide (cs.length + 1 + (moreOf q.E fid (cs.length + 1)).length = q.E.np fid) | _ => false)
   | .peek ca => isCompE e && r e ca
   | .bare y => (match e with | .Call (.Name x _) [] [] _ => decide (x = y) && q.E.bare x && glB sc x && okN x | _ => false)
   | .bi b cs => (match e with | .Call (.Name x _) es [] _ => decide (x = b.nm) && glB sc x && q.blt x && all2 r es cs && !es.isEmpty | _ => false)
   | .isi ca t => (match e with | .Call (.Name x _) [a, b] [] _ => decide (x = "isinstance") && glB sc x && q.blt x && r a ca && tyB sc q b t | _ => false)
   | .meth m _ co cs => (match e with | .Call (.Attribute o m' apos) es [] pos => decide (m' = m) && noSup o && (apos.endLine == pos.line) && r o co && all2 r es cs && decide (es.length < 30) | _ => false)
   | .cnt co ca => (match e with | .Call (.Attribute o m' apos) [a] [] pos => decide (m' = "count") && noSup o && (apos.endLine == pos.line) && r o co && r a ca | _ => false)
   | .index co ca => (match e with | .Call (.Attribute o m' apos) [a] [] pos => decide (m' = "index") && noSup o && (apos.endLine == pos.line) && r o co && r a ca | _ => false)
   | .dget co ca => (match e with | .Call (.Attribute o m' apos) [a] [] pos => decide (m' = "get") && noSup o && (apos.endLine == pos.line) && r o co && r a ca | _ => false)
   | .kget x ca => (match e with | .Subscript (.Name y _) b _ => decide (y = x) && glB sc y && okN y && (q.E.kd x).isSome && r b ca && notSlice b | _ => false)
   | .kin neg x ca => (match e with | .Compare a [o] [.Name y _] _ => decide (o = if neg then .NotIn else .In) && decide (y = x) && glB sc y && okN y && (q.E.kd x).isSome && r a ca | _ => false)
   | .comp own tgc kd its cond ce => (match e with
    | .ListComp elt [⟨tg, it, ifs, 0⟩] scope _ =>
     let sc' := relSc sc scope
     let ownp := own.filterMap fun i => (q.N[i]?).map fun x => (x, i)
     decide (own = ownp.map (·.2)) && blkC q.N sc scope ownp && isFn sc && isFn scope && itB r q sc tg kd it its && notSet it && tgB q.blk sc' (isCell scope) tg tgc && tgc.is.all (fun i => own.contains i) &&
     (match ifs, cond with | [], none => true | [f], some cf => chk q.blk n sc' f cf && !isIf f | _, _ => false) && chk q.blk n sc' elt ce
    | _ => false)
   | .compX own tgc kd its ce => (match e with
    | .ListComp elt [⟨tg, it, [], 0⟩] scope _ =>
     let sc' := relSc sc scope
     let ownp := own.filterMap fun i => (q.N[i]?).map fun x => (x, i)
     q.top && decide (own = ownp.map (·.2)) && blkC q.N sc scope ownp && isFn sc && isFn scope && itB r q sc tg kd it its && notSet it && tgB q.blk sc' (isCell scope) tg tgc && tgc.is.all (fun i => own.contains i) && chk q.blk n sc' elt ce
    | _ => false)
   | .cini y fid cs => (match e with | .Call (.Attribute (.Name x _) m apos) es [] pos => decide (x = y) && decide (m = "__init__") && glB sc x && okN x && q.E.cl x && q.exB (cliN x) && decide (q.E.ini x = some fid) && (apos.endLine == pos.line) && all2 r es cs && decide (es.length < 30) && !es.isEmpty | _ => false)
end Y
namespace XC
open PySem PySem.Spec PyProof.Rows L2 PySem.HandSPX
abbrev blkX (X : Cx) (s : Shared) (H : Hp) (scope : Scope) (cenv : Env) (fp : List Addr) (xe : Value → Shared → Prop) : Cx := { X.blk s H scope cenv fp with xe := xe }
section
variable {X : Cx} {W : XK} {pins : List (Addr × Obj)} {σ : L2.St} {H : Hp} {s : Shared} {scope : Scope} {ce : Env} {fp : List Addr} {use : Option (Value → Sem Unit)} {Qf : Value → Shared → Prop} {acc : Value}
theorem blk_takes (tk : RX.Takes X fun cls d _ H => W cls d H) (hs : X.stack = X.env :: X.outer) (hf : X.env.frame = some X.env.locals) (I : L2.Inv X pins σ H s) (f3 : ∀ b ∈ fp, FpOk X pins H b ∧ b < s.heap.objs.size) (cL : ce.locals = s.heap.objs.size) (cF : ce.frame = X.env.frame) :
  RX.Takes (blkX X s H scope ce fp (notedBy (model X.prog X.w) X.A ce fun e t => postX (model X.prog X.w) X.A X.xe use Qf acc ce (.error e) t)) fun cls d _ H => W cls d H := by
 intro u s' ⟨a, B, sI, pins', σ', H', cls, d, eu, I', nb, up, sky, na, os, ag, w⟩
 subst eu
 show wpAny (model X.prog X.w) X.A (noteFrame (.ref a) ce) (fun _ t => postX (model X.prog X.w) X.A X.xe use Qf acc ce (.error (.ref a)) t) (fun e t => postX (model X.prog X.w) X.A X.xe use Qf acc ce (.error e) t) s'
 have e1 : noteFrame (.ref a) ce = noteFrame (.ref a) X.env := by unfold noteFrame PySem.frameOf; rw [cF]
 rw [e1]
 have hfr : X.A.frames = some (X.env :: X.outer) := by rw [I.ok.frames, hs]
 have nC : H' ce.locals = none := I'.free
 have fC : FpOk X pins H' ce.locals := I.fpOk (by rw [cL]; exact Nat.le_refl _) nC
 obtain ⟨q0, q1, q2, q3, q4, q5⟩ := fC
 have nfr : ce.locals ∉ frs X.stack := fun hm => (List.mem_cons.mp (I.stkSub _ hm)).elim q1 q2
 have sky' : Sky B (X.env :: X.outer) a (RX.Zk H' cls d) ce.locals s'.heap := by rw [← hs]; exact sky
 obtain ⟨m, hn, _⟩ := I'.loc
 have hn : sI.heap.Ns ce.locals m := hn
 have go : ∀ h3, HeldZ B (X.env :: X.outer) a (RX.Zk H' cls d) X.env.locals h3 → s'.heap.UpToSlots h3 → postX (model X.prog X.w) X.A X.xe use Qf acc ce (.error (.ref a)) { s' with heap := h3 } := by
  intro h3 hh up3
  have hn3 : h3.Ns ce.locals m := (up.trans up3).ns hn
  refine ⟨m, hn3, fun h' sb => ?_⟩
  obtain ⟨oC, es, ep, hoC, hdC, _⟩ := hn3
  obtain ⟨B', bk1, bk2⟩ := restrict B fun b => decide (b ≠ ce.locals)
  obtain ⟨G, gk1, gk2⟩ := restrict sI.heap fun b => decide (b ≠ ce.locals)
  have b1 : ∀ b, b ≠ ce.locals → B'.get? b = B.get? b := fun b hb => bk1 b (decide_eq_true hb)
  have b2 : B'.get? ce.locals = none := bk2 _ (by simp)
  have g1 : ∀ b, b ≠ ce.locals → G.get? b = sI.heap.get? b := fun b hb => gk1 b (decide_eq_true hb)
  have g2 : G.get? ce.locals = none := gk2 _ (by simp)
  have nfr' : ce.locals ∉ (X.env :: X.outer).filterMap (·.frame) := by rw [← hs]; exact nfr
  have hB := held_but hh (fun b hb => sb.2 b hb) hoC (fun vs z => by rw [hdC] at z; cases z) nfr' b1 b2
  obtain ⟨k1, k2, k3, oe, vs, T, oT, ts', he, hz, hd, h1, hr⟩ := id hB
  unfold PySem.passOn
  refine wpAny_bind (wpAny_field he hd h1 ?_)
  rw [if_neg (show ¬ ((Value.ref T == Value.none) = true) from by simp)]
  have I7 : L2.Inv X pins σ H' sI := I.call' (ch := fp) I'.os I'.base I'.hok I'.bare fun b hb => ⟨(f3 b hb).1.2.2.2.1, (f3 b hb).1.2.1, (f3 b hb).1.2.2.2.2.1, (f3 b hb).1.2.2.2.2.2⟩
  have I8 := I7.turned (h' := G) (t' := sI.toks) (it := ce.locals) (fun b o hb e => (g1 b hb).trans e) q0 q1 q3 q4 q5
  have fin : wpAny (model X.prog X.w) X.A (setFlight (.ref a) ce.frame) (fun _ s4 => wpAny (model X.prog X.w) X.A (throw (.ref a) : Sem Value) (fun _ _ => False) X.xe s4) X.xe { s' with heap := h' } := by
   rw [cF, hf]
   refine setFlight_onZ hB fun h4 hh4 up4 => wpAny_throw (tk _ _ ?_)
   refine ⟨a, B', _, pins, σ, H', cls, d, rfl, I8, fun b o e hb => ?_, fun b o e hnf => ?_, .inr (.inr (by rw [hs]; exact hh4)), na, os, ag, w⟩
   ·have ne : b ≠ ce.locals := fun z => by
     have e' : G.get? b = some o := e
     rw [z, g2] at e'
     cases e'
    rw [b1 b ne]
    exact nb b o ((g1 b ne).symm.trans e) hb
   ·have ne : b ≠ ce.locals := fun z => by
     have e' : G.get? b = some o := e
     rw [z, g2] at e'
     cases e'
    obtain ⟨sl, e2⟩ := (up.trans up3) b o ((g1 b ne).symm.trans e) hnf
    exact up4 b { o with slots := sl } ((sb.2 b ne).trans e2) hnf |>.imp fun sl' z => z
  first
   | exact wpAny_bind (wpAny_pure (wpAny_bind fin))
   | exact wpAny_bind fin
 rcases sky' with ⟨hB, hn', hl, oe, vs, he, hz, hd, h1⟩ | fl | hh
 ·exact PXN.look_newZ RX.Zk.steady hfr hl hf he hB hn' hd h1 hz go
 ·exact PXN.looks_onZ RX.Zk.steady hfr hf fl go
 ·exact note_fl RX.Zk.steady hfr hf hh.1 hh.2.1 hh.2.2.1 hh.2.2.2 (rawInt_ne q1) go
end
section
variable {X : Cx} {W : XK}
theorem lcX {pins : List (Addr × Obj)} {s : Shared} {σ : L2.St} {H : Hp} {Q : VK} {elt tg iter : Expr} {scope : Scope} {own : List (Str × Nat)} {pos pos' : Pos} {wi : TI} {g : TG} {te : TE} {use : Option (Value → Sem Unit)} {Qf : Value → Shared → Prop}
  (tk : RX.Takes X fun cls d _ H => W cls d H) (hst : X.stack = X.env :: X.outer) (hf : X.env.frame = some X.env.locals) (hc : X.calm = true) (hN : X.N.Nodup) (I : L2.Inv X pins σ H s) (hi : PI X tg iter wi) (ok : BlkOk X.N X.env.scope scope own)
  (hg : ∀ (s : Shared) (H : Hp) (C : Addr) (cl : List (Str × Addr)) (fp : List Addr) (xe : Value → Shared → Prop), RX.Takes (blkX X s H scope (compEnvC scope cl C X.env) fp xe) (fun cls d _ H => W cls d H) → PG (blkX X s H scope (compEnvC scope cl C X.env) fp xe) tg g)
  (he : ∀ (s : Shared) (H : Hp) (C : Addr) (cl : List (Str × Addr)) (fp : List Addr) (xe : Value → Shared → Prop), RX.Takes (blkX X s H scope (compEnvC scope cl C X.env) fp xe) (fun cls d _ H => W cls d H) → PE (blkX X s H scope (compEnvC scope cl C X.env) fp xe) elt te)
  (hs : ∀ x, foldedSetIterable iter X.env x = pure x) (h : tLc wi g tYes te (own.map (·.2)) σ H Q)
  (hRR : ∀ (D : Addr) (ce : Env) (s' : Shared) (m : Str → Option Value) (H' : Hp), L2.Inv X pins σ H' s' → Q (.ref D) H' → s'.heap.Ns ce.locals m → FpOk X pins H' ce.locals → postX (model X.prog X.w) X.A X.xe use Qf (.ref D) ce (.ok .next) s') :
  wpAny (model X.prog X.w) X.A (comprehension (.ListComp elt [⟨tg, iter, [], 0⟩] scope pos) scope X.env pos' (newList []) false (eval iter X.env) use) Qf X.xe s := by
 have hfree : ∀ y ∈ scope.names, y.2 = .free → ∃ c, X.env.cells.lookup y.1 = some c := fun y hy e => (ok.free y hy e).elim (fun k => I.ok.has _ (.inl k)) fun k => I.ok.has _ (.inr k)
 refine comp_x (use := use) rfl hs (closure_ok hfree) ok.kind (fun y hy e => by rw [ok.uniq y hy, e]) ?_
 refine thn (hi.run pins s σ H _ I h) fun xv s1 hx => thn hx fun itv s2 h2 => ?_
 obtain ⟨it, fp, tn, J, H2, e, I2, T, st2, f2, q⟩ := h2
 subst e
 refine wpAny_newObj_type (newEnv_comp ?_) (by show 0 ≤ sizeLine; decide)
 generalize hD : s2.heap.objs.size = D
 obtain ⟨Wm, ⟨m0, w0⟩, turn⟩ := q D (I2.hok.fresh (Nat.le_of_eq hD))
 generalize hs3 : ({ s2 with heap := s2.heap.push { cls := .type "list", data := .seq ([] : List Value).toArray } } : Shared) = s3
 have h3 : s3.heap = s2.heap.push { cls := .type "list", data := .seq ([] : List Value).toArray } := by rw [← hs3]
 have I3 : L2.Inv X pins σ (upd H2 D (.lst [])) s3 := by
  rw [← hs3]
  refine I2.laid (t' := s2.toks) (fun b o e => Heap.get?_push_of_some _ e) (Nat.le_of_eq hD) ⟨Nat.zero_le _, [], 0, .nil, ?_⟩
  rw [← hD]; exact Heap.get?_push_size _ rfl
 have f3 : ∀ b ∈ fp, FpOk X pins (upd H2 D (.lst [])) b ∧ b < s3.heap.objs.size := fun b hb => by
  obtain ⟨o, e, _⟩ := T.obj _ _ st2 b hb
  have hlt := Heap.lt_size e
  refine ⟨⟨?_, (f2 b hb).2⟩, by rw [h3, Heap.size_push]; exact Nat.lt_succ_of_lt hlt⟩
  rw [upd_ne (by rw [← hD]; exact Nat.ne_of_lt hlt)]; exact (f2 b hb).1
 have st3 : tn 0 s3.heap := T.keep _ _ _ st2 fun b _ o e => by rw [h3]; exact Heap.get?_push_of_some _ e
 have I4 := block_start I3 ok hN f3
 show codeAny _ _ (.compStart (.ListComp elt [⟨tg, iter, [], 0⟩] scope pos) 0 (.ref it) (.ref D) (compEnvC scope (cellsFrom (s3.heap.objs.size + 1) scope.names (cloFrom X.env.cells scope.names [])) s3.heap.objs.size X.env))
  (postX (model X.prog X.w) X.A X.xe use Qf (.ref D) (compEnvC scope (cellsFrom (s3.heap.objs.size + 1) scope.names (cloFrom X.env.cells scope.names [])) s3.heap.objs.size X.env)) { s3 with heap := pushCells (s3.heap.push { cls := .type "dict", data := .dict #[] }) scope.names }
 have pg := fun xe => hg s3 (upd H2 D (.lst [])) s3.heap.objs.size (cellsFrom (s3.heap.objs.size + 1) scope.names (cloFrom X.env.cells scope.names [])) fp xe
 have pe := fun xe => he s3 (upd H2 D (.lst [])) s3.heap.objs.size (cellsFrom (s3.heap.objs.size + 1) scope.names (cloFrom X.env.cells scope.names [])) fp xe
 have nfp : ∀ b ∈ fp, (upd H2 D (.lst [])) b = none := fun b hb => (f3 b hb).1.1
 generalize hce : compEnvC scope (cellsFrom (s3.heap.objs.size + 1) scope.names (cloFrom X.env.cells scope.names [])) s3.heap.objs.size X.env = ce at I4 pg pe ⊢
 have cL : ce.locals = s3.heap.objs.size := by rw [← hce] <;> rfl
 have cF : ce.frame = X.env.frame := by rw [← hce] <;> rfl
 generalize hH3 : upd H2 D (.lst []) = H3 at I3 I4 pg pe w0 nfp f3
 generalize hs4 : ({ s3 with heap := pushCells (s3.heap.push { cls := .type "dict", data := .dict #[] }) scope.names } : Shared) = s4 at I4 ⊢
 have st4 : tn 0 s4.heap := T.keep _ _ _ st3 fun b _ o e => by rw [← hs4]; exact pushCells_keeps _ _ _ _ (Heap.get?_push_of_some _ e)
 have tkB := blk_takes (use := use) (Qf := Qf) (acc := .ref D) (ce := ce) (scope := scope) tk hst hf I3 f3 cL cF
 generalize hxe : (notedBy (model X.prog X.w) X.A ce fun e t => postX (model X.prog X.w) X.A X.xe use Qf (.ref D) ce (.error e) t) = xe at tkB
 have pg := pg xe tkB
 have pe := pe xe tkB
 have I4 : L2.Inv (blkX X s3 H3 scope ce fp xe) [] (L2.wipe σ (own.map (·.2))) H3 s4 := I4.wish xe
 have stat : ∀ {σ' : L2.St} {H' : Hp} {s' : Shared}, L2.Inv (blkX X s3 H3 scope ce fp xe) [] σ' H' s' → (∀ b ∈ fp, H' b = none) → ∀ b ∈ fp, FpOk (blkX X s3 H3 scope ce fp xe) [] H' b := fun {σ' H' s'} I' hn b hb =>
  ⟨hn b hb, (I'.ok.exf b hb).1, I'.ok.exfs b hb, .inl hb, fun x c e => (I'.ok.exf b hb).2 x c e, fun p hp => absurd (show p ∈ ([] : List (Addr × Obj)) ++ [] from hp) (by simp)⟩
 have loop : codeAny (model X.prog X.w) X.A (.compLoop (.ListComp elt [⟨tg, iter, [], 0⟩] scope pos) 0 (.ref it) (.ref D) ce) (postX (model X.prog X.w) X.A X.xe use Qf (.ref D) ce) s4 := by
  refine compLoop_any (fun n s' => ∃ i H', L2.Inv (blkX X s3 H3 scope ce fp xe) [] (L2.wipe σ (own.map (·.2))) H' s' ∧ tn i s'.heap ∧ (∀ b ∈ fp, H' b = none) ∧ Wm i n H') ?_ m0 ⟨0, H3, I4, st4, nfp, w0⟩
  rintro n s5 ⟨i, H5, I5, st5, n5, w5⟩
  rw [hxe]
  rcases turn i n H5 w5 with ⟨stop, qq⟩ | ⟨go, Nx, hNx, step⟩
  ·refine thnF (T.done (blkX X s3 H3 scope ce fp xe) rfl rfl rfl hc i [] s5 _ H5 (fun _ _ => False) I5 (stat I5 n5) st5 stop) fun r s6 ⟨hr, I6⟩ => ?_
   subst hr
   have I7 : L2.Inv X pins σ H5 s6 := I3.call' (ch := fp) I6.os I6.base I6.hok I6.bare fun b hb => ⟨(f3 b hb).1.2.2.2.1, (f3 b hb).1.2.1, (f3 b hb).1.2.2.2.2.1, (f3 b hb).1.2.2.2.2.2⟩
   have nC : H5 ce.locals = none := I6.free
   obtain ⟨m, hn, _⟩ := I6.loc
   exact hRR D ce s6 m H5 I7 qq hn (I3.fpOk (by rw [cL]; exact Nat.le_refl _) nC)
  ·refine thnF (T.item (blkX X s3 H3 scope ce fp xe) rfl rfl rfl hc i [] s5 _ H5 (fun _ _ => False) I5 (stat I5 n5) st5 go) fun r s6 ⟨u, hr, h6⟩ => ?_
   subst hr
   refine thnF h6 fun _ s7 ⟨x, H7, I7, r7, y7, st7, n7⟩ => ?_
   have I7' := I7.pinned (stat I7 n7) (T.obj _ _ st7)
   refine thn (pg.run _ s7 _ H7 x u _ I7' r7 (step x H7 y7)) fun _ s8 ⟨σ8, H8, I8, hw8, q8⟩ => ?_
   refine wpAny_tests_nil ?_
   simp only [if_true]
   have q8 : te σ8 H8 fun y H4 => ∃ acc, H4 D = some (.lst acc) ∧ acc.length < sizeLine ∧ Nx (upd H4 D (.lst (acc ++ [y]))) := q8
   have fin : ∀ {s' : Shared} {H' : Hp}, L2.Inv (blkX X s3 H3 scope ce fp xe) ([] ++ pinsAt fp s7.heap) σ8 H' s' → Nx H' → ∃ m, m < n ∧ ∃ i H', L2.Inv (blkX X s3 H3 scope ce fp xe) [] (L2.wipe σ (own.map (·.2))) H' s' ∧ tn i s'.heap ∧ (∀ b ∈ fp, H' b = none) ∧ Wm i m H' := fun {s' H'} I' nx => by
    obtain ⟨m', hm, w'⟩ := hNx H' nx
    have pin' : ∀ b ∈ fp, ∀ o, s7.heap.get? b = some o → s'.heap.get? b = some o ∧ H' b = none := fun b hb o e =>
     let z := I'.pin (b, o) (List.mem_append_right _ (List.mem_append_right _ (mem_pinsAt hb e)))
     ⟨z.1, z.2.1⟩
    refine ⟨m', hm, i + 1, H', (I'.unpinned (pins := [])).weak (by rw [← hw8, wipe_length]) (fun j v e => ?_), T.keep _ _ _ st7 fun b hb o e => (pin' b hb o e).1, fun b hb => ?_, w'⟩
    ·rw [← hw8] at e; exact (wipe_some e).1
    ·obtain ⟨o, e, _⟩ := T.obj _ _ st7 b hb
     exact (pin' b hb o e).2
   refine thn (pe.run _ s8 σ8 H8 _ I8 q8) fun z s10 ⟨yv, H10, I10, r10, acc, hD10, hz10, nx⟩ => ?_
   exact app_ok (X := blkX X s3 H3 scope ce fp xe) I10 hD10 hz10 r10 fun s11 I11 => fin I11 nx
 exact codeAny_compStart_list loop (T.self X.A 0 _ _ _ st4 loop)
variable {elt tg iter : Expr} {scope : Scope} {own : List (Str × Nat)} {pos : Pos} {wi : TI} {g : TG} {te : TE}
theorem pe_lcX (tk : RX.Takes X fun cls d _ H => W cls d H) (hst : X.stack = X.env :: X.outer) (hf : X.env.frame = some X.env.locals) (hc : X.calm = true) (hN : X.N.Nodup) (hi : PI X tg iter wi) (ok : BlkOk X.N X.env.scope scope own)
  (hg : ∀ (s : Shared) (H : Hp) (C : Addr) (cl : List (Str × Addr)) (fp : List Addr) (xe : Value → Shared → Prop), RX.Takes (blkX X s H scope (compEnvC scope cl C X.env) fp xe) (fun cls d _ H => W cls d H) → PG (blkX X s H scope (compEnvC scope cl C X.env) fp xe) tg g)
  (he : ∀ (s : Shared) (H : Hp) (C : Addr) (cl : List (Str × Addr)) (fp : List Addr) (xe : Value → Shared → Prop), RX.Takes (blkX X s H scope (compEnvC scope cl C X.env) fp xe) (fun cls d _ H => W cls d H) → PE (blkX X s H scope (compEnvC scope cl C X.env) fp xe) elt te)
  (hs : ∀ x, foldedSetIterable iter X.env x = pure x) : PE X (.ListComp elt [⟨tg, iter, [], 0⟩] scope pos) (tLc wi g tYes te (own.map (·.2))) := by
 refine ⟨fun pins s σ H Q I h => ?_⟩
 rw [eval_ListComp]
 refine lcX tk hst hf hc hN I hi ok hg he hs h fun D ce s' m H' I' q hn f => ⟨m, hn, fun h2 sb => ?_⟩
 obtain ⟨f0, f1, f2, f3, f4, f5⟩ := f
 exact ⟨.ref D, H', I'.turned (t' := s'.toks) (fun b o hb e => (sb.2 b hb).trans e) f0 f1 f3 f4 f5, rfl, q⟩
theorem ps_setX {i : Nat} {y : Str} {py spos : Pos} (hy : X.N[i]? = some y) (hyl : X.env.scope.names.lookup y = some .local) (hsw : swapsWith (.ListComp elt [⟨tg, iter, [], 0⟩] scope pos) (some (.Name y py)) spos.line X.env = pure true)
  (tk : RX.Takes X fun cls d _ H => W cls d H) (hst : X.stack = X.env :: X.outer) (hf : X.env.frame = some X.env.locals) (hc : X.calm = true) (hN : X.N.Nodup) (hi : PI X tg iter wi) (ok : BlkOk X.N X.env.scope scope own)
  (hg : ∀ (s : Shared) (H : Hp) (C : Addr) (cl : List (Str × Addr)) (fp : List Addr) (xe : Value → Shared → Prop), RX.Takes (blkX X s H scope (compEnvC scope cl C X.env) fp xe) (fun cls d _ H => W cls d H) → PG (blkX X s H scope (compEnvC scope cl C X.env) fp xe) tg g)
  (he : ∀ (s : Shared) (H : Hp) (C : Addr) (cl : List (Str × Addr)) (fp : List Addr) (xe : Value → Shared → Prop), RX.Takes (blkX X s H scope (compEnvC scope cl C X.env) fp xe) (fun cls d _ H => W cls d H) → PE (blkX X s H scope (compEnvC scope cl C X.env) fp xe) elt te)
  (hs : ∀ x, foldedSetIterable iter X.env x = pure x) : PS X (.Assign [.Name y py] (.ListComp elt [⟨tg, iter, [], 0⟩] scope pos) spos) (tAsg (tLc wi g tYes te (own.map (·.2))) (gName i)) := by
 refine ⟨fun pins s σ H D I h => ?_⟩
 rw [exec_Assign_Name_used _ _ _ _ hsw]
 refine wpAny_bind (wpAny_standAt (wpAny_bind ?_))
 show wpAny _ X.A (do let _ ← comprehension (.ListComp elt [⟨tg, iter, [], 0⟩] scope pos) scope X.env (firstIterPos [⟨tg, iter, [], 0⟩] pos) (newList []) false (eval iter X.env) (some (assign (.Name y py) X.env))) _ _ s
 have h : tLc wi g tYes te (own.map (·.2)) σ H (fun x H1 => gName i x σ H1 D.nx) := h
 refine wpAny_bind (thn (lcX (Qf := fun _ s' => SP X pins D .next s') tk hst hf hc hN I hi ok hg he hs h fun L ce s' m H' I' q hn f => ?_) fun _ s' hq => wpAny_pure (wpAny_pure hq))
 show wpAny _ _ (assign (.Name y py) X.env (.ref L)) _ _ _
 refine wpAny_assign_Name (store_ok2 (v := V.ref L) I' hN hy (.inl hyl) rfl (fun s2 I2 ⟨a, sb, ha⟩ => ?_) (.inr hyl))
 obtain ⟨f0, f1, f2, f3, f4, f5⟩ := f
 have nea : ce.locals ≠ a := ha.elim (fun z => by rw [z]; exact f1) fun z e => f4 y a z e.symm
 exact ⟨m, hn.sameBut sb nea, fun h3 sb3 => ⟨_, H', I2.turned (t' := s2.toks) (fun b o hb e => (sb3.2 b hb).trans e) f0 f1 f3 f4 f5, q⟩⟩
end
end XC
namespace Y
open PySem PySem.Spec PyProof.Rows L2
structure Good (X : Cx) (R : Fr) (W : XK) (E : Ev) (e : Expr) (c : C) : Prop where
 te : PE X e (TE_ R W (evE E c))
 to : PE X e (TO_ R W (opd c (evE E c)))
 pt : isIf e = false → PT X e (TT_ R W (tst c (evE E c)))
 st : isStar e = false
 pw : ∀ op vs p, e = .BoolOp op vs p → PW X e (TT_ R W (tst c (evE E c)))
section
variable {X : Cx} {R : Fr} {W : XK} {E : Ev} {e : Expr} {c : C} {es : List Expr} {cs : List C}
theorem Good.mk' (hK : X.K = R.K) (te : PE X e (TE_ R W (evE E c))) (hc : ∀ i, c ≠ .var i) (hst : isStar e = false) (hp : plainT e = true) : Good X R W E e c :=
 ⟨te, pe_opd hc te, fun _ => pt_plain (pe_opd hc te) hK (true_ok hp), hst, fun op vs p h => by subst h; cases hp⟩
theorem goods {ck : Expr → C → Bool} (h : ∀ e c, ck e c = true → Good X R W E e c) : ∀ {es : List Expr} {cs : List C}, all2 ck es cs = true → Paired (Good X R W E) es cs
 | [], [], _ => .nil
 | e :: es, c :: cs, q => by
  unfold all2 at q
  rw [Bool.and_eq_true] at q
  exact .cons (h _ _ q.1) (goods h q.2)
 | [], _ :: _, q => by cases q
 | _ :: _, [], q => by cases q
theorem nst_of : ∀ {es : List Expr} {cs : List C}, Paired (Good X R W E) es cs → es.all (fun e => !isStar e) = true
 | _, _, .nil => rfl
 | _, _, .cons h t => by rw [List.all_cons, nst_of t, h.st]; rfl
theorem pv_of : ∀ {es : List Expr} {cs : List C}, Paired (Good X R W E) es cs → PA X es (TV_ R W (evV E cs))
 | _, _, .nil => pa_v_nil
 | _, _, .cons h t => pa_v_cons h.te (pv_of t) (star_ok h.st)
theorem po_of : ∀ {es : List Expr} {cs : List C}, Paired (Good X R W E) es cs → PA X es (TOs_ R W (evOs E cs))
 | _, _, .nil => pa_o_nil
 | _, _, .cons h t => pa_o_cons h.to (po_of t) (star_ok h.st)
theorem pa_of {io : Option Nat} : ∀ {es : List Expr} {cs : List C} (j : Nat), Paired (Good X R W E) es cs → PA X es (TA_ R W io j (evA E io j cs))
 | _, _, _, .nil => pa_a_nil
 | _, _, j, .cons h t => pa_a_cons (pe_arg h.te h.to) (pa_of (j + 1) t) (star_ok h.st)
theorem po_opt {ck : Expr → C → Bool} (h : ∀ e c, ck e c = true → Good X R W E e c) {o : Option Expr} {oc : Option C} (q : optB ck o oc = true) : PO X o (TP_ R W (evP E oc)) := by
 cases o with
 | none =>
  cases oc with
  | none => exact po_none_
  | some _ => cases q
 | some e =>
  cases oc with
  | none => cases q
  | some c => exact po_some_ (h e c q).te
end
section
variable {q : Q} {k : Nat} {X : Cx} {R : Fr} {W : XK} {sc : Scope} {fnB : Str → Bool}
theorem Bg.hu (b : Bg q k X R W sc fnB) : X.A.units + 140 < cLine := by have := b.room.un; omega
theorem Bg.gl (b : Bg q k X R W sc fnB) {x : Str} (h : glB sc x = true) : Gl X x := by
 unfold glB at h
 split at h
 ·rename_i h'
  show X.env.scope.names.lookup x = _
  rw [b.hsc]
  exact h'
 ·cases h
theorem Bg.vis (b : Bg q k X R W sc fnB) {x : Str} (h : visB sc x = true) : Vis X.env.scope x := by
 rw [b.hsc]
 unfold visB at h
 split at h
 ·exact .inl (by assumption)
 ·exact .inr (.inl (by assumption))
 ·exact .inr (.inr (by assumption))
 ·cases h
theorem locB_ok {x : Str} (h : locB sc x = true) : Loc sc x := by
 unfold locB at h
 split at h
 ·exact .inl (by assumption)
 ·exact .inr (by assumption)
 ·cases h
theorem isLoc_ok {x : Str} (h : isLoc sc x = true) : sc.names.lookup x = some .local := by
 unfold isLoc at h
 split at h
 ·assumption
 ·cases h
theorem isFn_ok (h : isFn sc = true) : sc.kind = .function := by
 unfold isFn at h
 split at h
 ·assumption
 ·cases h
theorem okN_ok {x : Str} (h : okN x = true) : (x == ("__debug__" : Str)) = false ∧ (x == ("__classdict__" : Str)) = false ∧ x ≠ "__name__" := by
 unfold okN at h
 simp only [Bool.and_eq_true, Bool.not_eq_true'] at h
 refine ⟨h.1.1, h.1.2, fun e => ?_⟩
 subst e
 exact absurd h.2 (by simp)
theorem nmB_ok (b : Bg q k X R W sc fnB) {e : Expr} {i : Nat} (h : nmB q sc fnB e i = true) : ∃ x pos, e = Expr.Name x pos ∧ X.N[i]? = some x ∧ Loc X.env.scope x ∧ (X.fn x = true ∨ X.env.scope.names.lookup x = some .local) := by
 unfold nmB at h
 split at h
 ·rename_i x pos
  simp only [Bool.and_eq_true, Bool.or_eq_true, decide_eq_true_eq] at h
  refine ⟨x, pos, rfl, by rw [b.hN]; exact h.1.1, by rw [b.hsc]; exact locB_ok h.1.2, ?_⟩
  rw [b.hsc]
  exact h.2.imp (b.fn x) isLoc_ok
 ·cases h
theorem nms_ok (b : Bg q k X R W sc fnB) : ∀ {es : List Expr} {is : List Nat}, all2 (nmB q sc fnB) es is = true → Paired (fun e i => ∃ x pos, e = Expr.Name x pos ∧ X.N[i]? = some x ∧ Loc X.env.scope x ∧ (X.fn x = true ∨ X.env.scope.names.lookup x = some .local)) es is
 | [], [], _ => .nil
 | e :: es, i :: is, h => by
  unfold all2 at h
  rw [Bool.and_eq_true] at h
  exact .cons (nmB_ok b h.1) (nms_ok b h.2)
 | [], _ :: _, h => by cases h
 | _ :: _, [], h => by cases h
theorem nms_each {P : Expr → Nat → Prop} (hP : ∀ e i, P e i → ∃ x pos, e = Expr.Name x pos) {env : Env} : ∀ {es : List Expr} {is : List Nat}, Paired P es is → (assignEach es env).length = is.length ∧ (assignEach es env).findIdx? (·.1) = none ∧ ∀ e es', (e :: es') <:+ es → (assignEach (e :: es') env).map (·.2) = assign e env :: (assignEach es' env).map (·.2)
 | _, _, .nil => ⟨rfl, rfl, fun e es' h => absurd (List.suffix_nil.mp h) (by simp)⟩
 | _, _, .cons (a := e) h t => by
  obtain ⟨x, pos, rfl⟩ := hP _ _ h
  obtain ⟨h1, h2, h3⟩ := nms_each hP (env := env) t
  refine ⟨?_, ?_, fun e es' hs => ?_⟩
  ·show (assignEach _ env).length + 1 = _
   rw [h1, List.length_cons]
  ·show List.findIdx? _ ((false, _) :: assignEach _ env) = none
   rw [List.findIdx?_cons]
   simp [h2]
  ·rcases List.suffix_cons_iff.mp hs with z | z
   ·cases z
    rfl
   ·exact h3 e es' z
theorem tgB_ok (b : Bg q k X R W sc fnB) {tg : Expr} {t : Tg} (h : tgB q sc fnB tg t = true) : PG X tg (gT X.K t) := by
 cases t with
 | one i =>
  obtain ⟨x, pos, rfl, h1, h2, h3⟩ := nmB_ok b h
  exact pg_name b.nd h1 h2 h3
 | tup is =>
  unfold tgB at h
  dsimp only at h
  split at h
  ·have hp := nms_ok b h
   obtain ⟨h1, h2, h3⟩ := nms_each (env := X.env) (fun e i ⟨x, pos, e1, _⟩ => ⟨x, pos, e1⟩) hp
   exact pg_tup b.calm (pgs_names b.nd hp h3) h1 h2
  ·cases h
theorem tyB_ok (b : Bg q k X R W sc fnB) {e : Expr} {t : Ty} (h : tyB sc q e t = true) : PE X e (tC (t.v R.K)) ∧ isStar e = false := by
 unfold tyB at h
 split at h
 ·rename_i x pos
  simp only [Bool.and_eq_true] at h
  obtain ⟨⟨hg, ho⟩, h⟩ := h
  obtain ⟨o1, o2, o3⟩ := okN_ok ho
  refine ⟨?_, rfl⟩
  cases t with
  | ty n =>
   dsimp only at h
   simp only [Bool.and_eq_true] at h
   obtain ⟨h1, h2⟩ := h
   split at h2
   ·rename_i m hb
    have e2 : m = n := by simpa using h2
    subst e2
    exact pe_bltn (b.gl hg) (b.blt x h1) hb rfl o3 o1
   ·cases h2
  | cls c =>
   dsimp only at h
   simp only [Bool.and_eq_true, decide_eq_true_eq] at h
   obtain ⟨rfl, h2⟩ := h
   exact pe_glob (b.gl hg) (b.cl x h2) rfl o1
 ·cases h
theorem itB_ok (b : Bg q k X R W sc fnB) {ck : Expr → C → Bool} (hk : ∀ e c, ck e c = true → Good X R W q.E e c) {tg it : Expr} {kd : ItK} {its : List C} (h : itB ck q sc tg kd it its = true) : PI X tg it (TI_ R W q.E kd its) := by
 have tup : isTup tg = true → ∃ es kk p, tg = .Tuple es kk p := fun h => by
  cases tg <;> first | exact ⟨_, _, _, rfl⟩ | cases h
 cases kd with
 | any =>
  unfold itB at h
  dsimp only at h
  split at h
  ·exact pi_any_ b.hK (hk _ _ h).te
  ·cases h
 | rng1 =>
  unfold itB at h
  dsimp only at h
  split at h
  ·simp only [Bool.and_eq_true, decide_eq_true_eq] at h
   obtain ⟨⟨⟨rfl, h1⟩, h2⟩, h3⟩ := h
   have g := hk _ _ h3
   exact pi_rng1_ (b.gl h1) (b.blt _ h2) (pv_of (.cons g .nil)) (star_ok g.st)
  ·cases h
 | rng2 =>
  unfold itB at h
  dsimp only at h
  split at h
  ·simp only [Bool.and_eq_true, decide_eq_true_eq] at h
   obtain ⟨⟨⟨⟨rfl, h1⟩, h2⟩, h3⟩, h4⟩ := h
   have g := hk _ _ h3
   have g2 := hk _ _ h4
   exact pi_rng2_ (b.gl h1) (b.blt _ h2) (pv_of (.cons g (.cons g2 .nil))) (by rw [star_ok g.st, star_ok g2.st]; rfl) (star_ok g2.st)
  ·cases h
 | rng3 =>
  unfold itB at h
  dsimp only at h
  split at h
  ·simp only [Bool.and_eq_true, decide_eq_true_eq] at h
   obtain ⟨⟨⟨⟨⟨rfl, h1⟩, h2⟩, h3⟩, h4⟩, h5⟩ := h
   have g := hk _ _ h3
   have g2 := hk _ _ h4
   have g3 := hk _ _ h5
   exact pi_rng3_ (b.gl h1) (b.blt _ h2) (pv_of (.cons g (.cons g2 (.cons g3 .nil)))) (star_ok g.st) (any_ok (by simp [g2.st, g3.st]))
  ·cases h
 | enum =>
  unfold itB at h
  dsimp only at h
  split at h
  ·simp only [Bool.and_eq_true, decide_eq_true_eq] at h
   obtain ⟨⟨⟨⟨ht, rfl⟩, h1⟩, h2⟩, h3⟩ := h
   obtain ⟨_, _, _, rfl⟩ := tup ht
   have g := hk _ _ h3
   exact pi_enum_ b.hK (b.gl h1) (b.blt _ h2) (pv_of (.cons g .nil)) (star_ok g.st)
  ·cases h
 | ezip =>
  unfold itB at h
  dsimp only at h
  split at h
  ·simp only [Bool.and_eq_true, decide_eq_true_eq] at h
   obtain ⟨⟨⟨⟨⟨⟨⟨⟨ht, rfl⟩, rfl⟩, h1⟩, h2⟩, h5⟩, h6⟩, h3⟩, h4⟩ := h
   obtain ⟨_, _, _, rfl⟩ := tup ht
   have g := hk _ _ h3
   have g2 := hk _ _ h4
   exact pi_ezip_ b.hK (b.gl h5) (b.blt _ h6) (b.gl h1) (b.blt _ h2) (pv_of (.cons g (.cons g2 .nil))) (star_ok g.st) (any_ok (by simp [g2.st]))
  ·cases h
 | zipn =>
  unfold itB at h
  dsimp only at h
  split at h
  ·simp only [Bool.and_eq_true, decide_eq_true_eq] at h
   obtain ⟨⟨⟨⟨⟨ht, rfl⟩, h1⟩, h2⟩, h3⟩, h4⟩ := h
   have hn : ∃ nm p, tg = .Name nm p := by
    unfold isNam at ht
    split at ht
    ·exact ⟨_, _, rfl⟩
    ·cases ht
   obtain ⟨_, _, rfl⟩ := hn
   have g := hk _ _ h3
   have g2 := hk _ _ h4
   exact pi_zipn_ b.hK (b.gl h1) (b.blt _ h2) (pv_of (.cons g (.cons g2 .nil))) (star_ok g.st) (any_ok (by simp [g2.st]))
  ·cases h
 | zip =>
  unfold itB at h
  dsimp only at h
  split at h
  ·simp only [Bool.and_eq_true, decide_eq_true_eq] at h
   obtain ⟨⟨⟨⟨⟨ht, rfl⟩, h1⟩, h2⟩, h3⟩, h4⟩ := h
   obtain ⟨_, _, _, rfl⟩ := tup ht
   have g := hk _ _ h3
   have g2 := hk _ _ h4
   exact pi_zip_ b.hK (b.gl h1) (b.blt _ h2) (pv_of (.cons g (.cons g2 .nil))) (star_ok g.st) (any_ok (by simp [g2.st]))
  ·cases h
theorem Bg.blk (b : Bg q k X R W sc fnB) {scope : Scope} (hs : isFn scope = true) (s : Shared) (H : Hp) (C : Addr) (cl : List (Str × Addr)) (fp : List Addr) : Bg q.blk k (X.blk s H scope (compEnvC scope cl C X.env) fp) R WF (relSc sc scope) (isCell scope) where
 top := fun z => by cases z
 hK := b.hK
 hN := b.hN
 nd := b.nd
 calm := b.calm
 gd := b.gd
 room := b.room
 tk := fun u s' ⟨a, B, sI, pins, σ, H, cls, d, e, I, nb, up, sky, na, os, ag, w⟩ => w.elim
 L := ⟨b.L.gl, b.L.mt, b.L.ini, b.L.bare⟩
 att := b.att
 isi := b.isi
 con := b.con
 kd := b.kd
 blt := b.blt
 cl := b.cl
 exc := b.exc
 hsc := by
  show relabel scope X.env = relSc sc scope
  rw [← b.hsc]
  rfl
 kind := isFn_ok hs
 fn := fun x h => by
  show (scope.names.lookup x == some .cell) = true
  unfold isCell at h
  split at h
  ·rename_i h'; rw [h']; rfl
  ·cases h
theorem Bg.blkX (b : Bg q k X R W sc fnB) {scope : Scope} (hs : isFn scope = true) (s : Shared) (H : Hp) (C : Addr) (cl : List (Str × Addr)) (fp : List Addr) (xe : Value → Shared → Prop) (tk : RX.Takes (XC.blkX X s H scope (compEnvC scope cl C X.env) fp xe) (fun cls d _ H => W cls d H)) : Bg q.blk k (XC.blkX X s H scope (compEnvC scope cl C X.env) fp xe) R W (relSc sc scope) (isCell scope) where
 top := fun z => by cases z
 hK := b.hK
 hN := b.hN
 nd := b.nd
 calm := b.calm
 gd := b.gd
 room := b.room
 tk := tk
 L := ⟨b.L.gl, b.L.mt, b.L.ini, b.L.bare⟩
 att := b.att
 isi := b.isi
 con := b.con
 kd := b.kd
 blt := b.blt
 cl := b.cl
 exc := b.exc
 hsc := by
  show relabel scope X.env = relSc sc scope
  rw [← b.hsc]
  rfl
 kind := isFn_ok hs
 fn := fun x h => by
  show (scope.names.lookup x == some .cell) = true
  unfold isCell at h
  split at h
  ·rename_i h'; rw [h']; rfl
  ·cases h
theorem Bg.reR {R' : Fr} (b : Bg q k X R W sc fnB) (hR : R'.K = R.K) : Bg q k X.nox R' WF sc fnB := by
 obtain ⟨K, H0, F0, io⟩ := R
 obtain ⟨K', H0', F0', io'⟩ := R'
 cases (show K' = K from hR)
 exact {
  hK := b.hK
  hN := b.hN
  nd := b.nd
  calm := b.calm
  gd := b.gd
  room := b.room
  tk := fun u s' ⟨a, B, sI, pins, σ, H, cls, d, e, I, nb, up, sky, na, os, ag, w⟩ => w.elim
  L := ⟨b.L.gl, b.L.mt, b.L.ini, b.L.bare⟩
  att := b.att
  isi := b.isi
  con := b.con
  kd := b.kd
  blt := b.blt
  cl := b.cl
  exc := b.exc
  hsc := b.hsc
  kind := b.kind
  fn := b.fn
  top := b.top }
theorem Bg.nox (b : Bg q k X R W sc fnB) : Bg q k X.nox R WF sc fnB where
 hK := b.hK
 hN := b.hN
 nd := b.nd
 calm := b.calm
 gd := b.gd
 room := b.room
 tk := fun u s' ⟨a, B, sI, pins, σ, H, cls, d, e, I, nb, up, sky, na, os, ag, w⟩ => w.elim
 L := ⟨b.L.gl, b.L.mt, b.L.ini, b.L.bare⟩
 att := b.att
 isi := b.isi
 con := b.con
 kd := b.kd
 blt := b.blt
 cl := b.cl
 exc := b.exc
 hsc := b.hsc
 kind := b.kind
 fn := b.fn
 top := b.top
end
end Y
namespace Y
open PySem PySem.Spec PyProof.Rows L2
theorem PE.nox {X : Cx} {e : Expr} {t : TE} (h : PE X.nox e t) : PE X e t := ⟨fun pins s σ H Q I q =>
 wpAny_mono (h.run pins s σ H Q (I.wish _) q) (fun _ _ ⟨v, H', J, rv, z⟩ => ⟨v, H', J.unwish, rv, z⟩) fun _ _ z => False.elim z⟩
theorem peekG_len (g : G) : (peekG g).length = g.length := by unfold peekG; simp
theorem peekG_get {g : G} {i : Nat} {s : Sl} (h : G.get (peekG g) i = some s) : ∃ s0, g.get i = some s0 ∧ s = ⟨s0.d, .fr, s0.d.atom⟩ := by
 unfold G.get peekG at h
 rw [List.getElem?_map] at h
 unfold G.get
 cases e : g[i]? with
 | none => rw [e] at h; cases h
 | some o =>
  rw [e] at h
  cases o with
  | none => cases h
  | some s0 => cases h; exact ⟨s0, rfl, rfl⟩
theorem SlAt.up {R : Fr} {F H : Hp} {i : Nat} {v : V} {s : Sl} (h : SlAt R F H i v s) (ex : Same F (NT H)) : At R.K (NT H) v s.d := by
 obtain ⟨d, m, n⟩ := s
 cases m with
 | fr => exact At.mono (FN_le.trans ex) d v h
 | ow =>
  obtain ⟨p, rfl, _, _, top⟩ := h
  obtain ⟨u, hu⟩ := top.is
  exact top.at (FN_le.trans ex) (by rw [hu]; exact NT_in hu (top.nt hu))
 | io =>
  obtain ⟨p, rfl, _, _, top⟩ := h
  obtain ⟨u, hu⟩ := top.is
  exact top.at (FN_le.trans ex) (by rw [hu]; exact NT_in hu (top.nt hu))
theorem peek_te {R : Fr} {W : XK} {E : Ev} {c : C} {σ : L2.St} {H : Hp} {Q : VK} (q0 : TE_ R W (evE E (.peek c)) σ H Q) : TE_ ⟨R.K, H, NT H, []⟩ WF (evE E c) σ H Q := by
 obtain ⟨F, g, r, q⟩ := q0
 refine ⟨NT H, peekG g, ⟨by rw [peekG_len]; exact r.len, fun i s hi => ?_, fun i j s t p hi _ hs => ?_, NT_le, fun b o z _ _ => z, fun b z => z, fun z hz => (by cases hz), fun z hz => (by cases hz), Same.refl _, fun b z _ => z, ⟨r.tb.tab, fun _ _ z => NT_fnt z⟩⟩, ?_⟩
 ·obtain ⟨s0, h0, rfl⟩ := peekG_get hi
  obtain ⟨v, hv, sa⟩ := r.at_ i s0 h0
  refine ⟨v, hv, ?_⟩
  have up := sa.up fun b o z => NT_in (r.ex b o z) (r.tb.fnt b o z)
  show At R.K (FN H (NT H) s0.d.atom) v s0.d
  cases ha : s0.d.atom with
  | false => rw [FN_false]; exact up
  | true => exact up.atom ha
 ·obtain ⟨s0, h0, rfl⟩ := peekG_get hi
  exact absurd rfl hs
 ·rw [evE] at q
  cases hev : evE E c (peekG g) with
  | none => rw [hev] at q; exact q.elim
  | some o =>
   cases o with
   | ex x => rw [hev] at q; exact q.elim
   | ok a =>
    obtain ⟨s, g1⟩ := a
    rw [hev] at q
    dsimp only at q
    show ∀ v F' H', _ → _ → _ → Q v H'
    intro v F' H' r' st' ra
    have hk : ∀ b o, H b = some o → nt o → H' b = some o := fun b o z t => r'.keep b o z t fun q hq => by cases hq
    have r2 : Rel R F g σ H' := ⟨r.len, fun i s hi => by
     obtain ⟨v, hv, sa⟩ := r.at_ i s hi
     refine ⟨v, hv, ?_⟩
     obtain ⟨d, m, n⟩ := s
     cases m with
     | fr => exact sa
     | ow =>
      obtain ⟨p, rfl, hF, h0, top⟩ := sa
      obtain ⟨o, ho⟩ := top.is
      exact ⟨p, rfl, hF, h0, top.mono (Same.refl _) (by rw [ho]; exact hk p o ho (top.nt ho))⟩
     | io =>
      obtain ⟨p, rfl, hF, h0, top⟩ := sa
      obtain ⟨o, ho⟩ := top.is
      exact ⟨p, rfl, hF, h0, top.mono (Same.refl _) (by rw [ho]; exact hk p o ho (top.nt ho))⟩, r.dis, fun b o z => hk _ _ (r.ex _ _ z) (r.tb.fnt _ _ z), fun b o z t n => hk _ _ (r.keep b o z t n) t, fun b z => r'.there b (r.there b z), r.ios, r.iog, r.f0, r.fn, ⟨r'.tb.tab, r.tb.fnt⟩⟩
    have st2 : Step g σ F H g F H' := ⟨Same.refl F, fun b o z t _ => hk b o z t, fun b z _ _ => z, fun b z => z, fun b z => r'.there b z⟩
    obtain ⟨d, m, n⟩ := s
    dsimp only at q
    by_cases ha : d.atom = true
    ·rw [if_pos ha] at q
     refine q v F H' r2 st2 ?_
     show At R.K (FN R.H0 F true) v d
     cases m with
     | fr =>
      have ra' : At R.K (FN H F' n) v d := ra
      exact ra'.atom ha
     | ow =>
      obtain ⟨p, rfl, _, _, _, top⟩ := ra
      have top' : Top R.K (FN H F' n) H' p d := top
      cases top' <;> cases ha
     | io => exact ra.elim
    ·rw [if_neg ha] at q
     by_cases hb : m = .ow ∧ d.kidsAtom = true
     ·rw [if_pos hb] at q
      obtain ⟨rfl, hd⟩ := hb
      obtain ⟨p, rfl, hp, _, _, top⟩ := ra
      obtain ⟨f0, _, no⟩ := r.fresh hp
      have top' : Top R.K (FN H F' n) H' p d := top
      exact q _ F H' r2 st2 ⟨p, rfl, hp, f0, no, top'.atoms hd⟩
     ·rw [if_neg hb] at q
      exact q.elim
theorem pe_peek {X : Cx} {R : Fr} {W : XK} {E : Ev} {e : Expr} {c : C} (h : ∀ R' : Fr, R'.K = R.K → PE X.nox e (TE_ R' WF (evE E c))) : PE X e (TE_ R W (evE E (.peek c))) := by
 have e1 : PE X.nox e (fun σ H Q => ∃ R' : Fr, R'.K = R.K ∧ TE_ R' WF (evE E c) σ H Q) := ⟨fun pins s σ H Q I ⟨R', hR, q⟩ => (h R' hR).run pins s σ H Q I q⟩
 exact PE.imp (PE.nox e1) fun σ H Q z => ⟨⟨R.K, H, NT H, []⟩, rfl, peek_te z⟩
end Y
namespace Y
open PySem PySem.Spec L2
def compFX (E : Ev) (tg : Tg) (n : Bool) (elt : C) (own : List Nat) (d : D) (g2 : G) : M (Option Sl × G) := match bindT g2 tg d n with
 | some g3 => M.bnd (evE E elt g3) fun (s, g5) => some (.ok (some s.frz, G.wipe g5 own))
 | none => none
section
variable {X : Cx} {R : Fr} {W : XK} {E : Ev} {k : ItK} {its : List C} {tgc : Tg} {ce : C} {vs : List Nat}
theorem imp_lcX {σ : L2.St} {H : Hp} {Q : VK} (htg : ∀ i ∈ tgc.is, i ∈ vs) (q : TE_ R W (evE E (.compX vs tgc k its ce)) σ H Q) : tLc (TI_ R W E k its) (gT R.K tgc) tYes (TF_ R W (evE E ce)) vs σ H Q := by
 obtain ⟨F, g, r, q⟩ := q
 refine ⟨F, g, r, wp_mono (wp_bnd q) (fun (ss, g1) q1 => ?_) fun _ z => z⟩
 dsimp only at q1
 cases hit : itemsK k ss with
 | none => rw [hit] at q1; exact q1.elim
 | some p =>
  obtain ⟨items, n⟩ := p
  rw [hit] at q1
  obtain ⟨⟨ok, hlim⟩, q2⟩ := ifNone q1
  dsimp only
  rw [hit]
  intro J F1 H1 r1 st1 iok D hD
  obtain ⟨Gd, w, hGd⟩ := iok.w
  have q3 := wp_bnd (m := compL (compFX E tgc n ce vs) items (G.wipe g1 vs)) q2
  have hio : ∀ p ∈ R.io, p.1 ∉ vs := fun p hp hm => by
   obtain ⟨s, h1, h2, _⟩ := r1.iog p hp
   have := ownOk_m ok hm h1
   rw [h2] at this
   cases this
  obtain ⟨rw1, ow1⟩ := r1.wipe (vs := vs) hio
  obtain ⟨fD, h0D, noD⟩ := r1.fresh hD
  refine lc_it w (fun i Hx => ∃ Fx gi acc ss, acc.length ≤ i ∧ Rel R Fx gi (wipe σ vs) Hx ∧ Hx D = some (.lst acc) ∧ Fx D = none ∧ ¬ Own gi (wipe σ vs) D ∧ StX (Own g1 σ) (Own gi (wipe σ vs)) F1 H1 Fx Hx ∧ Paired (fun v (s : Sl) => At R.K (FN R.H0 Fx s.n) v s.d) acc ss ∧
   wp (compL (compFX E tgc n ce vs) (items.drop i) gi) (fun (rs, g6) => wp (if (ss ++ rs).length < lim then some (.ok ((⟨.lst (dsL (ss ++ rs)), .ow, (ss ++ rs).all (·.n)⟩ : Sl), G.restore g6 g1 vs)) else none)
    (fun (s, g') => ∀ v F' H', Rel R F' g' σ H' → Step g σ F H g' F' H' → ResAt R g' σ H F' H' v s → Q v H') (ExW R W)) (ExW R W)) ?_ ?_ ?_ ?_
  ·exact ⟨F1, G.wipe g1 vs, [], [], Nat.le_refl _, rw1.alloc hD, upd_same, fD, fun z => noD (ow1 D z), (Step.alloc r1 hD).x.sub ow1, .nil, q3⟩
  ·rintro i H2 _ ⟨F2, gi, acc, ss, hac, r2, _, _, _, st, _⟩
   exact hGd H2 (st.exF.trans r2.ex)
  ·rintro i x H2 H' hi ⟨F2, gi, acc, ss, hac, r2, hDl, hFD, nD, st2, hp, q4⟩ y
   obtain ⟨d, F3, hd, r3, st3, hx⟩ := y.go r2 st2.exF
   have hdrop : items.drop i = d :: items.drop (i + 1) := by
    obtain ⟨hl, e⟩ := List.getElem?_eq_some_iff.mp hd
    rw [List.drop_eq_getElem_cons hl, e]
   rw [hdrop] at q4
   have q5 := wp_bnd q4
   unfold compFX at q5
   cases hb : bindT gi tgc d n with
   | none => rw [hb] at q5; exact q5.elim
   | some g3 =>
    rw [hb] at q5
    refine bind_tg r3 hx hb fun σ2 r4 ho hw => ⟨by rw [hw vs htg, wipe_wipe], ?_⟩
    have hw2 : wipe σ2 vs = wipe σ vs := by rw [hw vs htg, wipe_wipe]
    have nD3 : ¬ Own g3 σ2 D := fun z => nD (ho D z)
    have e3 : H' D = some (.lst acc) := st3.fr D _ hDl nt_lst nD
    have f3 : F3 D = none := st3.nF D hFD (by rw [hDl]; rfl) nD
    have x5 : StX (Own g1 σ) (Own g3 σ2) F1 H1 F3 H' := (st2.trans st3.x).sub ho
    unfold tYes
    simp only [if_true]
    refine ⟨F3, g3, r4, wp_mono (wp_bnd q5) (fun (s, g5) q7 v F6 H6 r6 st6 hv => ?_) fun _ z => z⟩
    have e6 : H6 D = some (.lst acc) := st6.fr D _ e3 nt_lst nD3
    have f6 : F6 D = none := st6.nF D f3 (by rw [e3]; rfl) nD3
    have nD6 : ¬ Own g5 σ2 D := fun z => nD3 (st6.own D z)
    obtain ⟨r7, ow7⟩ := r6.wipe (vs := vs) hio
    rw [hw2] at r7 ow7
    have q8 := wp_bnd (m := compL (compFX E tgc n ce vs) (items.drop (i + 1)) (G.wipe g5 vs)) q7
    have nD7 : ¬ Own (G.wipe g5 vs) (wipe σ vs) D := fun z => nD6 (ow7 D z)
    have hlen : acc.length < sizeLine := by
     have hi2 : i < items.length := (List.getElem?_eq_some_iff.mp hd).1
     exact lim_lt (by omega)
    refine ⟨acc, e6, hlen, F6, G.wipe g5 vs, acc ++ [v], ss ++ [s.frz], by (rw [List.length_append, List.length_singleton]; omega), r7.poke f6 h0D nD7 e6, upd_same, f6, nD7, ((x5.trans st6.x).sub ow7).poke hD, ?_, wp_mono q8 (fun (rs, g6) z => ?_) fun _ z => z⟩
    ·exact (hp.yimp fun v s z => At.mono (FN_mono (st3.exF.trans st6.exF)) _ _ z).yapp (.cons hv .nil)
    ·rw [List.append_assoc]
     exact z
  ·rintro H2 ⟨F2, gi, acc, ss, hac, r2, hDl, hFD, nD, st2, hp, q4⟩
   rw [List.drop_length] at q4
   have q5 : wp (if (ss ++ []).length < lim then some (.ok ((⟨.lst (dsL (ss ++ [])), .ow, (ss ++ []).all (·.n)⟩ : Sl), G.restore gi g1 vs)) else none)
    (fun (s, g') => ∀ v F' H', Rel R F' g' σ H' → Step g σ F H g' F' H' → ResAt R g' σ H F' H' v s → Q v H') (ExW R W) := q4
   rw [List.append_nil] at q5
   obtain ⟨_, q6⟩ := ifNone q5
   obtain ⟨r3, ow3⟩ := r1.restore ok r2 st2.exF
   have stE := st1.x.trans (st2.sub ow3)
   exact q6 (.ref D) F2 H2 r3 ⟨stE.exF, stE.fr, stE.nF, stE.own, stE.there⟩ ⟨D, rfl, st1.gone hD, hFD, fun z => nD (ow3 D z), .lst hDl (ats_ds hp)⟩
theorem pe_compX_ {elt tg iter : Expr} {scope : Scope} {own : List (Str × Nat)} {pos : Pos} (tk : RX.Takes X fun cls d _ H => W cls d H) (hst : X.stack = X.env :: X.outer) (hf : X.env.frame = some X.env.locals) (hK : X.K = R.K) (hc : X.calm = true) (hN : X.N.Nodup) (hi : PI X tg iter (TI_ R W E k its)) (ok : BlkOk X.N X.env.scope scope own)
  (hg : ∀ (s : Shared) (H : Hp) (C : Addr) (cl : List (Str × Addr)) (fp : List Addr) (xe : Value → Shared → Prop), RX.Takes (XC.blkX X s H scope (compEnvC scope cl C X.env) fp xe) (fun cls d _ H => W cls d H) → PG (XC.blkX X s H scope (compEnvC scope cl C X.env) fp xe) tg (gT X.K tgc))
  (he : ∀ (s : Shared) (H : Hp) (C : Addr) (cl : List (Str × Addr)) (fp : List Addr) (xe : Value → Shared → Prop), RX.Takes (XC.blkX X s H scope (compEnvC scope cl C X.env) fp xe) (fun cls d _ H => W cls d H) → PE (XC.blkX X s H scope (compEnvC scope cl C X.env) fp xe) elt (TE_ R W (evE E ce)))
  (hs : ∀ x, foldedSetIterable iter X.env x = pure x) (hv : vs = own.map (·.2)) (htg : ∀ i ∈ tgc.is, i ∈ vs) : PE X (.ListComp elt [⟨tg, iter, [], 0⟩] scope pos) (TE_ R W (evE E (.compX vs tgc k its ce))) := by
 subst hv
 exact PE.imp (XC.pe_lcX tk hst hf hc hN hi ok hg (fun s H C cl fp xe tk => pe_frz (he s H C cl fp xe tk)) hs) fun σ H Q q => by rw [hK]; exact imp_lcX htg q
theorem ps_asgX {elt tg iter : Expr} {scope : Scope} {own : List (Str × Nat)} {pos py spos : Pos} {i : Nat} {y : Str} (hy : X.N[i]? = some y) (hyl : X.env.scope.names.lookup y = some .local) (hsw : swapsWith (.ListComp elt [⟨tg, iter, [], 0⟩] scope pos) (some (.Name y py)) spos.line X.env = pure true)
  (tk : RX.Takes X fun cls d _ H => W cls d H) (hst : X.stack = X.env :: X.outer) (hf : X.env.frame = some X.env.locals) (hK : X.K = R.K) (hc : X.calm = true) (hN : X.N.Nodup) (hi : PI X tg iter (TI_ R W E k its)) (ok : BlkOk X.N X.env.scope scope own)
  (hg : ∀ (s : Shared) (H : Hp) (C : Addr) (cl : List (Str × Addr)) (fp : List Addr) (xe : Value → Shared → Prop), RX.Takes (XC.blkX X s H scope (compEnvC scope cl C X.env) fp xe) (fun cls d _ H => W cls d H) → PG (XC.blkX X s H scope (compEnvC scope cl C X.env) fp xe) tg (gT X.K tgc))
  (he : ∀ (s : Shared) (H : Hp) (C : Addr) (cl : List (Str × Addr)) (fp : List Addr) (xe : Value → Shared → Prop), RX.Takes (XC.blkX X s H scope (compEnvC scope cl C X.env) fp xe) (fun cls d _ H => W cls d H) → PE (XC.blkX X s H scope (compEnvC scope cl C X.env) fp xe) elt (TE_ R W (evE E ce)))
  (hs : ∀ x, foldedSetIterable iter X.env x = pure x) (hv : vs = own.map (·.2)) (htg : ∀ i ∈ tgc.is, i ∈ vs) : PS X (.Assign [.Name y py] (.ListComp elt [⟨tg, iter, [], 0⟩] scope pos) spos) (tAsg (TE_ R W (evE E (.compX vs tgc k its ce))) (gName i)) := by
 subst hv
 refine PS.imp (XC.ps_setX hy hyl hsw tk hst hf hc hN hi ok hg (fun s H C cl fp xe tk => pe_frz (he s H C cl fp xe tk)) hs) fun D σ H q => ?_
 rw [hK]
 exact imp_lcX htg q
end
end Y
namespace Y
open PySem PySem.Spec L2
section
variable {X : Cx} {R : Fr} {W : XK} {E : Ev} {e : Expr} {es : List Expr} {c : C} {cs : List C} {pos p apos : Pos} {k : Nat}
theorem pe_cliD {x m : Str} {pl : Sem Bool} {t : TA} {CX : CXT} {Ex : XK} {Cl f : Addr} {mc : Value} (hg : Gl X x) (hm : X.mg x = some (.ref Cl)) (hrd : PySem.W.readsIn X.K Cl mc = true) (hga : PySem.W.specialIn X.K (.ref Cl) "__getattribute__" = some (some (.builtin "type.__getattribute__")))
  (hcl : PySem.W.findCls X.K (.ref Cl) mc m = some (.val (.ref f))) (hk : PySem.W.keepIn X.K (.ref f) = true) (gd : X.A.guards = some []) (hr : Room k X.A) (hx : Passes CX X Ex) (ha : PA X (e :: es) t) (hdb : (x == ("__debug__" : Str)) = false)
  (hst : starEach (e :: es) X.env = (false, eval e X.env) :: starEach es X.env) (hpl : (backTo pos (starEach es X.env)).any (·.1) = false)
  (ht : eval (.Call (.Attribute (.Name x p) m apos) (e :: es) [] pos) X.env = (do
   let ov ← eval (.Name x p) X.env
   standAt apos.atName
   let (f, first) ← holding [ov] (getMethod ov m pl)
   callWith pos f first (backTo pos (starEach (e :: es) X.env)) (backToKw pos (keywordEach [] X.env)))) :
  PE X (.Call (.Attribute (.Name x p) m apos) (e :: es) [] pos) (fun σ H Q => t σ H fun vs H1 => ∃ fd ps sp ds dvs, FnG X.prog X.w X.K X.mg X.base CX k f fd ps sp ∧ Binds X.K fd ps ds ∧ Vals dvs ds ∧ sp (vs ++ dvs) H1 Q Ex) := by
 refine ⟨fun pins s σ H Q I h => ?_⟩
 refine PySem.W.methodCall_KW (pl := pl) (ld_glob I hg hm ?_ hdb) ht
 refine PySem.W.method_cls I.kIn hga (PySem.W.cls_value I.kIn hrd hcl rfl ?_)
 refine PySem.W.callWith_K (first := []) (h₀ := X.base) I.ok.mod.kin hk (thn (ha.run pos pins _ σ H _ (I.tok _) h) fun us s1 ⟨vs, H1, I1, r, fd, ps, sp, ds, dvs, F, hb, hd, q⟩ => ⟨I1.kIn, ?_⟩) hst hpl
 exact run_fnG F gd hr hb hd hx I1 r q
theorem pe_cini_ {x : Str} {fid : Nat} {pl : Sem Bool} (hcli : ∀ f, Mk R.K (He.ga R.K x) f → ∃ mc, PySem.W.readsIn R.K (He.ga R.K x) mc = true ∧ PySem.W.specialIn R.K (.ref (He.ga R.K x)) "__getattribute__" = some (some (.builtin "type.__getattribute__")) ∧ PySem.W.findCls R.K (.ref (He.ga R.K x)) mc "__init__" = some (.val (.ref f)) ∧ PySem.W.keepIn R.K (.ref f) = true)
  (hK : X.K = R.K) (tk : RX.Takes X (fun cls d _ H => W cls d H)) (L : Lv X R.K E k) (hx : E.ini x = some fid) (gd : X.A.guards = some []) (hr : Room k X.A) (hg : Gl X x) (ha : PA X (e :: es) (TA_ R W (some 0) 0 (evA E (some 0) 0 (c :: cs))))
  (hdb : (x == ("__debug__" : Str)) = false) (he : starEach (e :: es) X.env = (false, eval e X.env) :: starEach es X.env) (hpl : (backTo pos (starEach es X.env)).any (·.1) = false)
  (ht : eval (.Call (.Attribute (.Name x p) "__init__" apos) (e :: es) [] pos) X.env = (do
   let ov ← eval (.Name x p) X.env
   standAt apos.atName
   let (f, first) ← holding [ov] (getMethod ov "__init__" pl)
   callWith pos f first (backTo pos (starEach (e :: es) X.env)) (backToKw pos (keywordEach [] X.env)))) :
  PE X (.Call (.Attribute (.Name x p) "__init__" apos) (e :: es) [] pos) (TE_ R W (evE E (.cini x fid (c :: cs)))) := by
 obtain ⟨f, j, hj, hm, hM, fd, ps, hps, F, hb⟩ := L.ini x fid hx
 rw [hK] at hM
 obtain ⟨mc, h1, h2, h3, h4⟩ := hcli f hM
 rw [← hK] at h1 h2 h3 h4
 rw [← hK] at hm
 refine PE.imp (pe_cliD (k := j) hg hm (by rw [hK] at h1 ⊢; exact h1) (by rw [hK] at h2 ⊢; exact h2) (by rw [hK] at h3 ⊢; exact h3) h4 gd (hr.mono (by omega)) (RX.passes_call tk fun _ _ _ _ z => z) ha hdb he hpl ht) fun σ H Q ⟨F0, g, r, q⟩ => ?_
 refine ⟨F0, g, r, wp_mono (wp_evA (wp_bnd q)) (fun (as, g1) ⟨hlen, q1⟩ vs F1 H1 r1 st1 hA => ?_) fun _ z => z⟩
 obtain ⟨⟨hio, hin, hn⟩, q2⟩ := ifNone q1
 have hn' := doCall_n q2
 have hl : as.length = (c :: cs).length := hlen
 have hl2 : (c :: cs).length = E.np fid := hl.symm.trans hn
 have hmore : moreOf E fid (c :: cs).length = [] := by
  unfold moreOf
  rw [hl2, Nat.add_sub_cancel, List.drop_length]
 obtain ⟨ds, dvs, b1, b2, b3⟩ := hb (c :: cs).length (by rw [hmore, hl2]; simp)
 rw [hmore] at b3
 rw [hio] at F
 exact ⟨fd, ps, _, ds, dvs, F, b1, b2, call_sp r1 st1 r hA b3 q2⟩
theorem ps_augA_ {i : Nat} {e' : Expr} {f : Str} {tpos vpos : Pos} {op : Operator} {j : Nat} {m n : Int} (hop : (op = .Add ∧ n = m) ∨ (op = .Sub ∧ n = -m)) (hE : AttOk R.K E) (hK : X.K = R.K) (hi : PE X e' (tVar i)) :
  PS X (.AugAssign (.Attribute e' f tpos) op (.Constant (.int m) j vpos) pos) (TS_ R W (evS E (.augA i f n))) := by
 have main : ∀ {rd : V → V → Hp → VK → Prop}, InOp X op rd → (∀ a H Q, Q (.int (a + n)) H → rd (.int a) (.int m) H Q) → PS X (.AugAssign (.Attribute e' f tpos) op (.Constant (.int m) j vpos) pos) (TS_ R W (evS E (.augA i f n))) := by
  intro rd hrd hr
  refine PS.imp (ps_fldaug hi pe_int hrd) fun D σ H ⟨F, g, r, q⟩ => ?_
  have q0 : wp (mutSlot g i (fun x => x.augA E f n) true) (FlC R F D) (ExW R W) := q
  obtain ⟨d, m0, n0, d', e2, hm, e3, q4⟩ := wp_mutSlot q0
  obtain ⟨p, h4, h5⟩ := r.rel.slot e2 hm
  cases d with
  | obj c fs xs =>
   cases h5 with
   | obj h6 h7 h8 =>
    rename_i dx kvs
    have e4 : (if E.att c f = true ∧ fs.length < 100 ∧ fs.length = xs.length then (match look fs xs f with
     | some (.int m) => let r := setKey fs xs f (.int (m + n)); some (Y.D.obj c r.1 r.2)
     | _ => none) else none) = some d' := e3
    split at e4
    ·rename_i hl
     split at e4
     ·rename_i a hlk
      cases e4
      have hlen : kvs.length = fs.length := by rw [← h7, List.length_map]
      obtain ⟨w, hw1, hw2⟩ := look_lookup f h7 h8 _ hlk
      cases hw2
      obtain ⟨a1, a2⟩ := putF_of (P := At R.K (FN R.H0 F (n0 && true))) (k := f) (v := .int (a + n)) (d := .int (a + n)) (.int _) h7 (atL_and h8)
      obtain ⟨hcl, hna⟩ := hE c f hl.1
      refine ⟨_, h4, p, _, dx, kvs, _, rfl, h6, by rw [hK]; exact hcl, by rw [hK]; exact hna, hw1, hr a _ _ ⟨dx, kvs, h6, by omega, ?_⟩⟩
      exact q4 σ F _ (Same.refl F) (r.mut e2 hm h4 (.obj upd_same a1 a2))
     ·cases e4
    ·cases e4
  | _ => cases e3
 rcases hop with ⟨rfl, rfl⟩ | ⟨rfl, rfl⟩
 ·exact main in_add fun a H Q q => ⟨a, n, rfl, rfl, q⟩
 ·exact main in_sub fun a H Q q => ⟨a, m, rfl, rfl, by rw [show a - m = a + -m from by omega]; exact q⟩
theorem ps_raiseH_ {e1 e2 : Expr} {ca cb : C} {e : Expr} (hc : X.calm = true) (tk : RX.Takes X (fun cls d _ H => W cls d H)) (ha : PA X [e1, e2] (TV_ R W (evV E [ca, cb])))
  (hmk : ∀ ta, PA X [e1, e2] ta → L2N.PMk X e (fun σ H Q => ta σ H fun vs H1 => ∃ v1 v2, vs = [v1, v2] ∧ ∀ d, H1 d = none → Q (.ref (He.ga R.K "Halt")) (some d) (upd H1 d (.xd [("chain", v2), ("number", v1)])))) :
  PS X (.Raise (some e) none pos) (TS_ R W (evS E (.raiseH ca cb))) := by
 refine PS.imp (RX.ps_raise hc tk (hmk _ ha)) fun D σ H ⟨F, g, r, q⟩ => ?_
 refine ⟨F, g, r.rel, wp_mono (wp_bnd q) (fun (ss, g1) q1 vs F1 H1 r1 st1 h1 => ?_) fun _ z => z⟩
 dsimp only at q1
 match ss, vs, h1, q1 with
 | [x, y], [v1, v2], .cons h1 (.cons h2 .nil), q1 =>
  refine ⟨v1, v2, rfl, fun d hd => ?_⟩
  obtain ⟨fd, h0, no⟩ := r1.fresh hd
  refine q1 (some d) F1 _ ⟨fun z => (by cases z), fun _ => ⟨d, _, rfl, upd_same, rfl, .cons (At.mono FN_le _ _ h2) (.cons (At.mono FN_le _ _ h1) .nil)⟩⟩ r1.f0 (fun b o hb => ?_) (r1.tb.alloc hd) r1.fn (fun b o hb ht hn => ?_) fun b hb => ?_
  ·rw [upd_ne (fun z => by rw [z, fd] at hb; cases hb)]; exact r1.ex b o hb
  ·rw [upd_ne (fun z => by rw [z, h0] at hb; cases hb)]; exact r1.keep b o hb ht hn
  ·rw [upd_ne (fun z => by rw [z, h0] at hb; cases hb)]; exact r1.there b hb
 | [], _, _, q1 => exact q1.elim
 | [_], _, _, q1 => exact q1.elim
 | _ :: _ :: _ :: _, _, _, q1 => exact q1.elim
end
end Y
namespace Y
open PySem PySem.Spec PyProof.Rows L2
theorem isComp_of {e : Expr} (h : isCompE e = true) : ∃ a b p z, e = .ListComp a b p z := by
 cases e <;> first | exact ⟨_, _, _, _, rfl⟩ | (simp [isCompE] at h)
theorem chk_ok (q : Q) (k : Nat) : ∀ (n : Nat) {X : Cx} {R : Fr} {W : XK} {sc : Scope} {fnB : Str → Bool} (e : Expr) (c : C), Bg q k X R W sc fnB → chk q n sc e c = true → Good X R W q.E e c := by
 intro n
 induction n generalizing q with
 | zero => intro X R W sc fnB e c b h; cases h
 | succ n ih =>
  intro X R W sc fnB e c b h
  have ihx : ∀ e c, chk q n sc e c = true → Good X R W q.E e c := fun e c h => ih q e c b h
  unfold chk at h
  dsimp only at h
  split at h
  ·-- a test's last part
   rename_i op x p
   simp only [Bool.and_eq_true, Bool.not_eq_true'] at h
   have g := ihx _ _ h.1.1
   refine ⟨pe_one g.te, pe_one g.to, fun _ => ?_, rfl, fun op' vs p' e' => ?_⟩
   ·cases op
    ·exact (pw_and1 (g.pt h.1.2)).pt
    ·exact (pw_or1 (g.pt h.1.2)).pt
   ·cases e'
    cases op
    ·exact pw_and1 (g.pt h.1.2)
    ·exact pw_or1 (g.pt h.1.2)
  ·rename_i e hne
   cases c with
   | var i =>
    dsimp only at h
    split at h
    ·rename_i x p
     simp only [Bool.and_eq_true, decide_eq_true_eq] at h
     obtain ⟨⟨h1, h2⟩, h3⟩ := h
     obtain ⟨o1, o2, _⟩ := okN_ok h3
     have hv : PE X (.Name x p) (tVar i) := pe_var (by rw [b.hN]; exact h1) (b.vis h2) o1 o2
     exact ⟨pe_var_ hv, pe_slot hv, fun _ => pt_plain (pe_slot hv) b.hK (true_ok rfl), rfl, fun _ _ _ z => by cases z⟩
    ·cases h
   | con y =>
    dsimp only at h
    split at h
    ·simp only [Bool.and_eq_true, decide_eq_true_eq] at h
     obtain ⟨⟨⟨rfl, h2⟩, h3⟩, h4⟩ := h
     obtain ⟨o1, o2, _⟩ := okN_ok h3
     exact .mk' b.hK (pe_con_ b.con (b.gl h2) o1 h4) (fun i z => by cases z) rfl rfl
    ·cases h
   | int j =>
    dsimp only at h
    split at h
    ·cases of_decide_eq_true h
     exact .mk' b.hK pe_int_ (fun i z => by cases z) rfl rfl
    ·cases h
   | str j =>
    dsimp only at h
    split at h
    ·cases of_decide_eq_true h
     exact .mk' b.hK pe_str_ (fun i z => by cases z) rfl rfl
    ·cases h
   | bl j =>
    dsimp only at h
    split at h
    ·cases of_decide_eq_true h
     exact .mk' b.hK pe_bl_ (fun i z => by cases z) rfl rfl
    ·cases h
   | non =>
    dsimp only at h
    split at h
    ·exact .mk' b.hK pe_non_ (fun i z => by cases z) rfl rfl
    ·cases h
   | tup cs =>
    dsimp only at h
    split at h
    ·exact .mk' b.hK (pe_tup_ (pv_of (goods ihx h))) (fun i z => by cases z) rfl rfl
    ·cases h
   | lst cs =>
    dsimp only at h
    split at h
    ·exact .mk' b.hK (pe_lst_ (pv_of (goods ihx h))) (fun i z => by cases z) rfl rfl
    ·cases h
   | dnew =>
    dsimp only at h
    split at h
    ·exact .mk' b.hK pe_dnew_ (fun i z => by cases z) rfl rfl
    ·cases h
   | dnewT =>
    dsimp only at h
    split at h
    ·exact .mk' b.hK pe_dnewT_ (fun i z => by cases z) rfl rfl
    ·cases h
   | bin op ca cb =>
    dsimp only at h
    split at h
    ·simp only [Bool.and_eq_true, decide_eq_true_eq] at h
     exact .mk' b.hK (pe_bin_ h.1.1 b.hK (ihx _ _ h.1.2).to (ihx _ _ h.2).to) (fun i z => by cases z) rfl rfl
    ·cases h
   | neg ca =>
    dsimp only at h
    split at h
    ·exact .mk' b.hK (pe_neg_ (ihx _ _ h).to) (fun i z => by cases z) rfl rfl
    ·cases h
   | not_ ca =>
    dsimp only at h
    split at h
    ·simp only [Bool.and_eq_true, Bool.not_eq_true'] at h
     have g := ihx _ _ h.1
     have te := pe_not_ (pos := by assumption) g.te
     exact ⟨te, pe_opd (fun i z => by cases z) te, fun _ => pt_not_ (g.pt h.2), rfl, fun _ _ _ z => by cases z⟩
    ·cases h
   | cmp op ca cb =>
    dsimp only at h
    split at h
    ·simp only [Bool.and_eq_true, decide_eq_true_eq] at h
     obtain ⟨⟨⟨h1, h2⟩, h3⟩, h4⟩ := h
     have te := pe_cmp_ (pos := by assumption) h1 b.hu b.hK (ihx _ _ h2).to (ihx _ _ h3).to (marks_ok h4)
     exact ⟨te, pe_opd (fun i z => by cases z) te, fun _ => pt_cmp_ h1 b.hu b.hK (ihx _ _ h2).to (ihx _ _ h3).to (marks_ok h4), rfl, fun _ _ _ z => by cases z⟩
    ·cases h
   | chain op op' ca cb cc =>
    dsimp only at h
    split at h
    ·simp only [Bool.and_eq_true, decide_eq_true_eq] at h
     obtain ⟨⟨⟨⟨⟨h1, h2⟩, h3⟩, h4⟩, h5⟩, h6⟩ := h
     have te := pe_chain_ (pos := by assumption) h1 h2 b.hu b.hK (ihx _ _ h3).to (ihx _ _ h4).to (ihx _ _ h5).to (marks_ok h6)
     exact ⟨te, pe_opd (fun i z => by cases z) te, fun _ => pt_chain_ h1 h2 b.hu b.hK (ihx _ _ h3).to (ihx _ _ h4).to (ihx _ _ h5).to (marks_ok h6), rfl, fun _ _ _ z => by cases z⟩
    ·cases h
   | and_ ca cb =>
    dsimp only at h
    split at h
    ·simp only [Bool.and_eq_true, Bool.not_eq_true'] at h
     have g := ihx _ _ h.1.1
     have g2 := ihx _ _ h.2
     have te := pe_and_ g.te g2.te
     have pw := pw_and_ (g.pt h.1.2) (g2.pw _ _ _ rfl)
     exact ⟨te, pe_opd (fun i z => by cases z) te, fun _ => pw.pt, rfl, fun _ _ _ z => by cases z; exact pw⟩
    ·cases h
   | or_ ca cb =>
    dsimp only at h
    split at h
    ·simp only [Bool.and_eq_true, Bool.not_eq_true'] at h
     have g := ihx _ _ h.1.1
     have g2 := ihx _ _ h.2
     have te := pe_or_ g.te g2.te
     have pw := pw_or_ (g.pt h.1.2) (g2.pw _ _ _ rfl)
     exact ⟨te, pe_opd (fun i z => by cases z) te, fun _ => pw.pt, rfl, fun _ _ _ z => by cases z; exact pw⟩
    ·cases h
   | ife ct ca cb =>
    dsimp only at h
    split at h
    ·simp only [Bool.and_eq_true, Bool.not_eq_true'] at h
     obtain ⟨⟨⟨h1, h2⟩, h3⟩, h4⟩ := h
     have te := pe_ife_ (pos := by assumption) ((ihx _ _ h1).pt h2) (ihx _ _ h3).te (ihx _ _ h4).te
     exact ⟨te, pe_opd (fun i z => by cases z) te, fun z => (by cases z), rfl, fun _ _ _ z => by cases z⟩
    ·cases h
   | lrg ca =>
    dsimp only at h
    split at h
    ·simp only [Bool.and_eq_true, decide_eq_true_eq] at h
     obtain ⟨⟨⟨⟨⟨⟨rfl, rfl⟩, h1⟩, h2⟩, h3⟩, h4⟩, h5⟩ := h
     have g := ihx _ _ h5
     exact .mk' b.hK (pe_lrg_ b.calm (b.gl h1) (b.blt _ h2) (b.gl h3) (b.blt _ h4) g.to (star_ok g.st)) (fun i z => by cases z) rfl rfl
    ·cases h
   | sset ca =>
    dsimp only at h
    split at h
    ·simp only [Bool.and_eq_true, decide_eq_true_eq] at h
     obtain ⟨⟨⟨⟨⟨⟨rfl, rfl⟩, h1⟩, h2⟩, h3⟩, h4⟩, h5⟩ := h
     have g := ihx _ _ h5
     exact .mk' b.hK (pe_sset_ b.hK b.calm (b.gl h1) (b.blt _ h2) (b.gl h3) (b.blt _ h4) g.to (star_ok g.st)) (fun i z => by cases z) rfl rfl
    ·cases h
   | rev ca =>
    dsimp only at h
    split at h
    ·simp only [Bool.and_eq_true, decide_eq_true_eq] at h
     obtain ⟨rfl, h2⟩ := h
     exact .mk' b.hK (pe_rev_ (ihx _ _ h2).to) (fun i z => by cases z) rfl rfl
    ·cases h
   | slc ca cl ch =>
    dsimp only at h
    split at h
    ·simp only [Bool.and_eq_true] at h
     exact .mk' b.hK (pe_slc_ b.hK (ihx _ _ h.1.1).to (po_opt ihx h.1.2) (po_opt ihx h.2)) (fun i z => by cases z) rfl rfl
    ·cases h
   | idx ca cb =>
    dsimp only at h
    split at h
    ·simp only [Bool.and_eq_true] at h
     exact .mk' b.hK (pe_idx_ b.hu b.hK (ihx _ _ h.1.1).to (ihx _ _ h.1.2).to (ix_ok h.2)) (fun i z => by cases z) rfl rfl
    ·cases h
   | att ca g =>
    dsimp only at h
    split at h
    ·simp only [Bool.and_eq_true, decide_eq_true_eq] at h
     obtain ⟨⟨rfl, h2⟩, h3⟩ := h
     exact .mk' b.hK (pe_att_ b.att b.hK (ihx _ _ h2).to (base_ok h3)) (fun i z => by cases z) rfl rfl
    ·cases h
   | call fid cs =>
    dsimp only at h
    split at h
    ·rename_i x p es pos
     simp only [Bool.and_eq_true, decide_eq_true_eq, Bool.or_eq_true] at h
     obtain ⟨⟨⟨⟨h1, h2⟩, h3⟩, h4⟩, h5⟩ := h
     obtain ⟨o1, _, _⟩ := okN_ok h3
     have gs := goods ihx h4
     refine .mk' b.hK ?_ (fun i z => by cases z) rfl rfl
     cases gs with
     | nil =>
      rcases h5 with h5 | h5
      ·cases h5
      ·exact pe_call0_ b.hK b.tk b.L h1 b.gd b.room (b.gl h2) o1 h5
     | cons g t => exact pe_call_ b.hK b.tk b.L h1 b.gd b.room (b.gl h2) (pa_of 0 (.cons g t)) o1 (star_ok g.st) (any_ok (nst_of t))
    ·cases h
   | new y fid cs =>
    dsimp only at h
    split at h
    ·simp only [Bool.and_eq_true, decide_eq_true_eq] at h
     obtain ⟨⟨⟨⟨⟨⟨rfl, h1⟩, h2⟩, h3⟩, h4⟩, h5⟩, h6⟩ := h
     obtain ⟨o1, _, _⟩ := okN_ok h4
     have gs := goods ihx h5
     refine .mk' b.hK ?_ (fun i z => by cases z) rfl rfl
     cases gs with
     | nil => exact pe_new0_ b.hK b.tk b.L h1 b.gd b.room (b.gl h3) h2 h6 o1
     | cons g t => exact pe_new_ b.hK b.tk b.L h1 b.gd b.room (b.gl h3) h2 h6 (pa_of 1 (.cons g t)) o1 (star_ok g.st) (any_ok (nst_of t))
    ·cases h
   | peek ca =>
    dsimp only at h
    rw [Bool.and_eq_true] at h
    obtain ⟨a1, b1, p1, z1, he⟩ := isComp_of h.1
    subst he
    exact .mk' b.hK (pe_peek fun R' hR => (ih (R := R') q _ _ (b.reR hR) h.2).te) (fun i z => by cases z) rfl rfl
   | bare y =>
    dsimp only at h
    split at h
    ·simp only [Bool.and_eq_true, decide_eq_true_eq] at h
     obtain ⟨⟨⟨rfl, h1⟩, h2⟩, h3⟩ := h
     obtain ⟨o1, _, _⟩ := okN_ok h3
     exact .mk' b.hK (pe_bare b.hK b.L h1 (b.gl h2) o1) (fun i z => by cases z) rfl rfl
    ·cases h
   | bi bb cs =>
    dsimp only at h
    split at h
    ·simp only [Bool.and_eq_true, decide_eq_true_eq] at h
     obtain ⟨⟨⟨⟨h1, h2⟩, h3⟩, h4⟩, h5⟩ := h
     have gs := goods ihx h4
     refine .mk' b.hK ?_ (fun i z => by cases z) rfl rfl
     cases gs with
     | nil => cases h5
     | cons g t => exact pe_bi_ b.gd (by have := b.room.un; omega) h1 b.calm b.hK (b.gl h2) (b.blt _ h3) (po_of (.cons g t)) (star_ok g.st) (any_ok (nst_of t))
    ·cases h
   | isi ca t =>
    dsimp only at h
    split at h
    ·simp only [Bool.and_eq_true, decide_eq_true_eq] at h
     obtain ⟨⟨⟨⟨rfl, h2⟩, h3⟩, h4⟩, h5⟩ := h
     obtain ⟨t1, t2⟩ := tyB_ok b h5
     have g := ihx _ _ h4
     exact .mk' b.hK (pe_isi_ b.isi b.hK (b.gl h2) (b.blt _ h3) g.to t1 (star_ok g.st) (star_ok t2) (any_ok (by simp [t2]))) (fun i z => by cases z) rfl rfl
    ·cases h
   | meth m io co cs =>
    dsimp only at h
    split at h
    ·simp only [Bool.and_eq_true, decide_eq_true_eq] at h
     obtain ⟨⟨⟨⟨⟨rfl, h2⟩, h3⟩, h4⟩, h5⟩, h6⟩ := h
     have go := ihx _ _ h4
     have gs := goods ihx h5
     refine .mk' b.hK ?_ (fun i z => by cases z) rfl rfl
     cases gs with
     | nil => exact pe_meth0_ b.hK b.tk b.L b.gd b.room (pe_arg go.te go.to) (meth_ok h2 rfl h6 h3)
     | cons g t => exact pe_meth_ b.hK b.tk b.L b.gd b.room (pe_arg go.te go.to) (pa_of 1 (.cons g t)) (star_ok g.st) (any_ok (nst_of t)) (meth_ok h2 (nst_of (.cons g t)) h6 h3)
    ·cases h
   | index co ca =>
    dsimp only at h
    split at h
    ·simp only [Bool.and_eq_true, decide_eq_true_eq] at h
     obtain ⟨⟨⟨⟨rfl, h2⟩, h3⟩, h4⟩, h5⟩ := h
     have g := ihx _ _ h5
     exact .mk' b.hK (pe_index_ b.hu b.hK (ihx _ _ h4).to g.to (base_ok h2) (few_ok (by simp [g.st]) (by simp)) h3 (star_ok g.st) rfl) (fun i z => by cases z) rfl rfl
    ·cases h
   | cnt co ca =>
    dsimp only at h
    split at h
    ·simp only [Bool.and_eq_true, decide_eq_true_eq] at h
     obtain ⟨⟨⟨⟨rfl, h2⟩, h3⟩, h4⟩, h5⟩ := h
     have g := ihx _ _ h5
     exact .mk' b.hK (pe_cnt_ b.hu b.hK (ihx _ _ h4).to g.to (base_ok h2) (few_ok (by simp [g.st]) (by simp)) h3 (star_ok g.st) rfl) (fun i z => by cases z) rfl rfl
    ·cases h
   | dget co ca =>
    dsimp only at h
    split at h
    ·simp only [Bool.and_eq_true, decide_eq_true_eq] at h
     obtain ⟨⟨⟨⟨rfl, h2⟩, h3⟩, h4⟩, h5⟩ := h
     have g := ihx _ _ h5
     exact .mk' b.hK (pe_dget_ b.hu (ihx _ _ h4).to g.to (m1_ok h2 g.st h3)) (fun i z => by cases z) rfl rfl
    ·cases h
   | kget x ca =>
    dsimp only at h
    split at h
    ·simp only [Bool.and_eq_true, decide_eq_true_eq] at h
     obtain ⟨⟨⟨⟨⟨rfl, h2⟩, h3⟩, h4⟩, h5⟩, h6⟩ := h
     obtain ⟨o1, _, _⟩ := okN_ok h3
     exact .mk' b.hK (pe_kget_ b.kd b.hK (b.gl h2) o1 h4 (ihx _ _ h5).to (ix_ok h6)) (fun i z => by cases z) rfl rfl
    ·cases h
   | kin neg x ca =>
    dsimp only at h
    split at h
    ·rename_i a0 o0 y0 p1 p2
     simp only [Bool.and_eq_true, decide_eq_true_eq] at h
     obtain ⟨⟨⟨⟨⟨h1, rfl⟩, h2⟩, h3⟩, h4⟩, h5⟩ := h
     obtain ⟨o1, _, _⟩ := okN_ok h3
     obtain ⟨te, tp⟩ := pe_kin_ (pos := p2) (p := p1) h1 b.kd b.hK (b.gl h2) o1 h4 (ihx _ _ h5).to
     exact ⟨te, pe_opd (fun i z => by cases z) te, fun _ => tp, rfl, fun _ _ _ z => by cases z⟩
    ·cases h
   | comp own tgc kd its cond ce =>
    dsimp only at h
    split at h
    ·rename_i elt tg it ifs scope p
     simp only [Bool.and_eq_true, decide_eq_true_eq] at h
     obtain ⟨⟨⟨⟨⟨⟨⟨⟨⟨h1, h2⟩, h3⟩, h4⟩, h5⟩, h6⟩, h7⟩, h8⟩, h9⟩, h10⟩ := h
     have ok : BlkOk X.N X.env.scope scope (own.filterMap fun i => (q.N[i]?).map fun x => (x, i)) := by
      rw [b.hN, b.hsc]
      exact blkOk_by h2
     refine .mk' b.hK (pe_comp_ b.hK b.calm b.nd (itB_ok b ihx h5) ok (fun s H C cl fp => tgB_ok (b.blk h4 s H C cl fp) h7) (fun s H C cl fp => ?_) (fun s H C cl fp => (ih _ _ _ (b.blk h4 s H C cl fp) h10).te) (fold_ok h6) h1 fun i hi => ?_) (fun i z => by cases z) rfl rfl
     ·have bb := b.blk h4 s H C cl fp
      split at h9
      ·exact pts_none_
      ·simp only [Bool.and_eq_true, Bool.not_eq_true'] at h9
       exact pts_some_ ((ih _ _ _ bb h9.1).pt h9.2)
      ·cases h9
     ·have := List.all_eq_true.mp h8 i hi
      exact List.contains_iff_mem.mp this
    ·cases h
   | compX own tgc kd its ce =>
    dsimp only at h
    split at h
    ·rename_i elt tg it scope p
     simp only [Bool.and_eq_true, decide_eq_true_eq] at h
     obtain ⟨⟨⟨⟨⟨⟨⟨⟨⟨h0, h1⟩, h2⟩, h3⟩, h4⟩, h5⟩, h6⟩, h7⟩, h8⟩, h10⟩ := h
     have ok : BlkOk X.N X.env.scope scope (own.filterMap fun i => (q.N[i]?).map fun x => (x, i)) := by
      rw [b.hN, b.hsc]
      exact blkOk_by h2
     obtain ⟨t1, t2⟩ := b.top h0
     refine .mk' b.hK (pe_compX_ b.tk t1 t2 b.hK b.calm b.nd (itB_ok b ihx h5) ok (fun s H C cl fp xe tk => tgB_ok (b.blkX h4 s H C cl fp xe tk) h7) (fun s H C cl fp xe tk => (ih _ _ _ (b.blkX h4 s H C cl fp xe tk) h10).te) (fold_ok h6) h1 fun i hi => ?_) (fun i z => by cases z) rfl rfl
     exact List.contains_iff_mem.mp (List.all_eq_true.mp h8 i hi)
    ·cases h
   | cini y fid cs =>
    dsimp only at h
    split at h
    ·rename_i x p m apos es pos
     simp only [Bool.and_eq_true, decide_eq_true_eq, Bool.not_eq_true'] at h
     obtain ⟨⟨⟨⟨⟨⟨⟨⟨⟨⟨rfl, rfl⟩, h1⟩, h2⟩, h3⟩, h4⟩, h5⟩, h6⟩, h7⟩, h8⟩, h9⟩ := h
     obtain ⟨o1, _, _⟩ := okN_ok h2
     have gs := goods ihx h7
     refine .mk' b.hK ?_ (fun i z => by cases z) rfl rfl
     cases gs with
     | nil => cases h9
     | cons g t => exact pe_cini_ (b.exc.cli _ h4) b.hK b.tk b.L h5 b.gd b.room (b.gl h1) (pa_of 0 (.cons g t)) o1 (star_ok g.st) (any_ok (nst_of t)) (meth_ok (o := .Name x p) rfl (nst_of (.cons g t)) h8 h6)
    ·cases h
end Y
namespace Y
open PySem PySem.Spec PyProof.Rows L2
section
variable {X : Cx} {R : Fr} {W : XK}
theorem ps_asgLA {elt tg iter : Expr} {ifs : List Expr} {scope : Scope} {own : List (Str × Nat)} {py spos pos : Pos} {y : Str} {i : Nat} {E : Ev} {k : ItK} {its : List C} {tgc : Tg} {cond : Option C} {ce : C} {vs : List Nat} (hK : X.K = R.K) (hc : X.calm = true) (hN : X.N.Nodup) (hy : X.N[i]? = some y) (hyl : X.env.scope.names.lookup y = some .local)
  (hsw : swapsWith (.ListComp elt [⟨tg, iter, ifs, 0⟩] scope pos) (some (.Name y py)) spos.line X.env = pure true) (hi : PI X tg iter (TI_ R W E k its)) (ok : BlkOk X.N X.env.scope scope own)
  (hg : ∀ (s : Shared) (H : Hp) (C : Addr) (cl : List (Str × Addr)) (fp : List Addr), PG (X.blk s H scope (compEnvC scope cl C X.env) fp) tg (gT X.K tgc)) (ht : ∀ (s : Shared) (H : Hp) (C : Addr) (cl : List (Str × Addr)) (fp : List Addr), PTs (X.blk s H scope (compEnvC scope cl C X.env) fp) ifs (TT_ R WF (evTO E cond)))
  (he : ∀ (s : Shared) (H : Hp) (C : Addr) (cl : List (Str × Addr)) (fp : List Addr), PE (X.blk s H scope (compEnvC scope cl C X.env) fp) elt (TE_ R WF (evE E ce))) (hs : ∀ x, foldedSetIterable iter X.env x = pure x) (hv : vs = own.map (·.2)) (htg : ∀ i ∈ tgc.is, i ∈ vs) :
  PS X (.Assign [.Name y py] (.ListComp elt [⟨tg, iter, ifs, 0⟩] scope pos) spos) (tAsg (TE_ R W (evE E (.comp vs tgc k its cond ce))) (gName i)) := by
 subst hv
 refine PS.imp (ps_setLc hc hN hy hyl hsw hi ok hg ht (fun s H C cl fp => pe_frz (he s H C cl fp)) hs) fun D σ H q => ?_
 rw [hK]
 exact imp_lc htg q
end
theorem asgL_ok (q : Q) (k : Nat) {sc : Scope} {fnB : Str → Bool} {elt tg it : Expr} {ifs : List Expr} {scope : Scope} {p p' pos : Pos} {x : Str} {i : Nat} : ∀ {n : Nat} {X : Cx} {R : Fr} {W : XK} {c : C} (b : Bg q k X R W sc fnB) (s1 : X.N[i]? = some x) (hl : X.env.scope.names.lookup x = some .local)
  (hsw : swapsWith (.ListComp elt [⟨tg, it, ifs, 0⟩] scope p) (some (.Name x p')) pos.line X.env = pure true) (h1 : chk q n sc (.ListComp elt [⟨tg, it, ifs, 0⟩] scope p) c = true),
  PS X (.Assign [.Name x p'] (.ListComp elt [⟨tg, it, ifs, 0⟩] scope p) pos) (tAsg (TE_ R W (evE q.E c)) (gName i)) := by
 intro n
 induction n with
 | zero => intro X R W c b s1 hl hsw h1; cases h1
 | succ n ih =>
  intro X R W c b s1 hl hsw h1
  unfold chk at h1
  dsimp only at h1
  cases c with
  | comp own tgc kd its cond ce =>
   dsimp only at h1
   simp only [Bool.and_eq_true, decide_eq_true_eq] at h1
   obtain ⟨⟨⟨⟨⟨⟨⟨⟨⟨c1, c2⟩, c3⟩, c4⟩, c5⟩, c6⟩, c7⟩, c8⟩, c9⟩, c10⟩ := h1
   have ok : BlkOk X.N X.env.scope scope (own.filterMap fun i => (q.N[i]?).map fun x => (x, i)) := by
    rw [b.hN, b.hsc]
    exact blkOk_by c2
   refine ps_asgLA b.hK b.calm b.nd s1 hl hsw (itB_ok b (fun e c h => chk_ok q k n e c b h) c5) ok (fun s H C cl fp => tgB_ok (b.blk c4 s H C cl fp) c7) (fun s H C cl fp => ?_) (fun s H C cl fp => (chk_ok q.blk k n _ _ (b.blk c4 s H C cl fp) c10).te) (fold_ok c6) c1 fun i hi => ?_
   ·have bb := b.blk c4 s H C cl fp
    split at c9
    ·exact pts_none_
    ·simp only [Bool.and_eq_true, Bool.not_eq_true'] at c9
     exact pts_some_ ((chk_ok q.blk k n _ _ bb c9.1).pt c9.2)
    ·cases c9
   ·have := List.all_eq_true.mp c8 i hi
    exact List.contains_iff_mem.mp this
  | peek ca =>
   dsimp only at h1
   rw [Bool.and_eq_true] at h1
   have e1 : PS X.nox (.Assign [.Name x p'] (.ListComp elt [⟨tg, it, ifs, 0⟩] scope p) pos) (fun D σ H => ∃ R' : Fr, R'.K = R.K ∧ tAsg (TE_ R' WF (evE q.E ca)) (gName i) D σ H) :=
    ⟨fun pins s σ H D I ⟨R', hR, z⟩ => (ih (X := X.nox) (R := R') (W := WF) (b.reR hR) s1 hl hsw h1.2).run pins s σ H D I z⟩
   exact PS.imp (PS.nox e1) fun D σ H z => ⟨⟨R.K, H, NT H, []⟩, rfl, peek_te z⟩
  | compX own tgc kd its ce =>
   dsimp only at h1
   split at h1
   ·rename_i h1e
    injection h1e with e1 e2 e3 e4
    injection e2 with e5 _
    injection e5 with e6 e7 e8 e9
    subst e1 e3 e4 e6 e7 e8
    simp only [Bool.and_eq_true, decide_eq_true_eq] at h1
    obtain ⟨⟨⟨⟨⟨⟨⟨⟨⟨h0, c1⟩, c2⟩, c3⟩, c4⟩, c5⟩, c6⟩, c7⟩, c8⟩, c10⟩ := h1
    have ok : BlkOk X.N X.env.scope scope (own.filterMap fun i => (q.N[i]?).map fun x => (x, i)) := by
     rw [b.hN, b.hsc]
     exact blkOk_by c2
    obtain ⟨t1, t2⟩ := b.top h0
    exact ps_asgX s1 hl hsw b.tk t1 t2 b.hK b.calm b.nd (itB_ok b (fun e c h => chk_ok q k n e c b h) c5) ok (fun s H C cl fp xe tk => tgB_ok (b.blkX c4 s H C cl fp xe tk) c7) (fun s H C cl fp xe tk => (chk_ok q.blk k n _ _ (b.blkX c4 s H C cl fp xe tk) c10).te) (fold_ok c6) c1 fun i hi => List.contains_iff_mem.mp (List.all_eq_true.mp c8 i hi)
   ·cases h1
  | _ => cases h1
end Y
namespace Y
open PySem PySem.Spec L2
theorem isCell_ok {sc : Scope} {x : Str} (h : isCell sc x = true) : sc.names.lookup x = some .cell := by
 unfold isCell at h
 split at h
 ·assumption
 ·cases h
theorem swCell_ok {env : Env} {elt : Expr} {gs : List Comprehension} {scope : Scope} {p p' : Pos} {x : Str} {l : Nat} (h : env.scope.names.lookup x = some .cell) : swapsWith (.ListComp elt gs scope p) (some (.Name x p')) l env = pure false := by
 have k : env.kindOf x = some .cell := h
 show (pure (env.blockKind == .function && env.kindOf x == some .local && p'.line == (Expr.ListComp elt gs scope p).pos.line && !(scope.names.any fun (n, k) => n == x && (k == .local || k == .cell))) : Sem Bool) = pure false
 rw [k]
 have e : ((some NameKind.cell) == some NameKind.local) = false := rfl
 rw [e]
 simp
theorem sw2c_ok {env : Env} {x y : Str} {px py pt pt2 : Pos} {kt k2 : Nat} {a b : Expr} (h : env.scope.names.lookup x = some .cell ∨ env.scope.names.lookup y = some .cell) : swappedStores [.Tuple [.Name x px, .Name y py] kt pt] (.Tuple [a, b] k2 pt2) env = pure none := by
 unfold swappedStores
 have e : ((some NameKind.cell) == some NameKind.local) = false := rfl
 rcases h with h | h
 ·have k : env.kindOf x = some .cell := h
  simp only [List.head?, Option.map, Option.getD, List.filterMap, k, e, Expr.pos, Bool.false_and]
  rcases Bool.eq_false_or_eq_true (env.kindOf y == some NameKind.local && py.line == px.line) with q | q <;> simp only [q] <;> simp
 ·have k : env.kindOf y = some .cell := h
  simp only [List.head?, Option.map, Option.getD, List.filterMap, k, e, Expr.pos, Bool.false_and]
  rcases Bool.eq_false_or_eq_true (env.kindOf x == some NameKind.local && px.line == px.line) with q | q <;> simp only [q] <;> simp
section
variable {X : Cx} {R : Fr} {W : XK} {E : Ev} {ca cb : C} {pos : Pos} {i j : Nat}
theorem ResAt.alloc {g : G} {σ : L2.St} {H F H1 : Hp} {v : V} {s : Sl} {l : Addr} {o : HO} (h : ResAt R g σ H F H1 v s) (hl : H1 l = none) : ResAt R g σ H F (upd H1 l o) v s := by
 obtain ⟨d, m, n⟩ := s
 cases m with
 | fr => exact h
 | io => exact h
 | ow =>
  obtain ⟨p, e, h1, h2, h3, h4⟩ := h
  refine ⟨p, e, h1, h2, h3, h4.mono (fun _ _ z => z) (upd_ne fun z => ?_)⟩
  obtain ⟨u, hu⟩ := h4.is
  rw [z, hl] at hu
  cases hu
theorem ps_par2c_ {a b : Expr} {px py pt : Pos} {kt k2 pt2} {x y : Str} (hc : X.calm = true) (hij : i ≠ j) (hg : PGs X [.Name x px, .Name y py] (gNames [i, j])) (ha : PE X a (TE_ R W (evE E ca))) (hb : PE X b (TE_ R W (evE E cb)))
  (hst : starEach [a, b] X.env = (false, eval a X.env) :: starEach [b] X.env) (hst2 : starEach [b] X.env = (false, eval b X.env) :: starEach [] X.env)
  (hn : (assignEach [.Name x px, .Name y py] X.env).length = 2) (hn2 : (assignEach [.Name x px, .Name y py] X.env).findIdx? (·.1) = none)
  (hw : swappedStores [.Tuple [.Name x px, .Name y py] kt pt] (.Tuple [a, b] k2 pt2) X.env = pure none)
  (hs : swapsWithSole [.Tuple [.Name x px, .Name y py] kt pt] (.Tuple [a, b] k2 pt2) pos.line X.env = pure false) :
  PS X (.Assign [.Tuple [.Name x px, .Name y py] kt pt] (.Tuple [a, b] k2 pt2) pos) (TS_ R W (evS E (.par2 i j ca cb))) := by
 refine PS.imp (ps_asg (pe_tup (pa_cons ha (pa_cons hb pa_nil hst2) hst)) (pg_tup hc hg hn hn2) hs hw rfl) fun D σ H ⟨F, g, r, q⟩ => ?_
 refine ⟨F, g, r.rel, wp_mono (wp_bnd q) (fun (s, g1) q1 v F1 H1 r1 st1 h1 => ⟨F1, g1, r1, wp_mono (wp_bnd q1) (fun (t, g2) q2 w F2 H2 r2 st2 h2 => ⟨show 2 ≤ sizeLine by decide, fun l hl => ?_⟩) fun _ z => z⟩) fun _ z => z⟩
 dsimp only at q2
 rw [if_neg hij] at q2
 refine ⟨l, [v, w], rfl, SqT.of upd_same, rfl, v, [w], rfl, w, [], rfl, rfl, ?_⟩
 cases e : setSlot g2 i s with
 | none => rw [e] at q2; exact q2.elim
 | some g3 =>
  rw [e] at q2
  dsimp only at q2
  cases e2 : setSlot g3 j t with
  | none => rw [e2] at q2; exact q2.elim
  | some g4 =>
   rw [e2] at q2
   have R1 := r.step r1 st1
   have R2b := R1.step r2 st2
   have R2 : RelS R F2 g2 σ (upd H2 l (.tup [v, w])) := ⟨R2b.rel.alloc hl, R2b.exF, R2b.nF⟩
   have hs1 : ResAt R g2 σ R.H0 F2 (upd H2 l (.tup [v, w])) v s := ResAt.alloc ((h1.keep st2).base r.rel) hl
   have ht1 : ResAt R g2 σ R.H0 F2 (upd H2 l (.tup [v, w])) w t := ResAt.alloc (h2.base r1) hl
   have ne := resAt_ne h1 h2
   obtain ⟨R3, ht3⟩ := R2.put2 e hs1 ht1 ne
   obtain ⟨R4, _⟩ := R3.set e2 ht3
   exact q2 _ F2 _ (st1.exF.trans st2.exF) R4
end
end Y
namespace Y
open PySem PySem.Spec PyProof.Rows L2
theorem par3_ok {env : Env} {x y z : Str} {px py pz pt pt2 : Pos} {kt k2 : Nat} {a b d : Expr} (hk : env.scope.kind = .function) (hx : env.scope.names.lookup x = some .local) (hy : env.scope.names.lookup y = some .local) (hz : env.scope.names.lookup z = some .local) (hxy : x ≠ y) (hxz : x ≠ z) (hyz : y ≠ z)
  (ha : isStar a = false) (hb : isStar b = false) (hd : isStar d = false) (hl : (py.line == px.line) = true) (hl2 : (pz.line == px.line) = true)
  (h1 : [a, b, d].all (foldedForSure 8) = false) (h2 : [a, b, d].all (constantsAlone 8) = false) : swappedStores [.Tuple [.Name x px, .Name y py, .Name z pz] kt pt] (.Tuple [a, b, d] k2 pt2) env = pure (some [x, y, z]) := by
 have hbk : env.blockKind = .function := by unfold Env.blockKind; rw [hk]; rfl
 have kx : env.kindOf x = some .local := hx
 have ky : env.kindOf y = some .local := hy
 have kz : env.kindOf z = some .local := hz
 have hdd : ([x, y, z].eraseDups).length = 3 := by
  have e1 : (y == x) = false := by simpa using Ne.symm hxy
  have e2 : (z == x) = false := by simpa using Ne.symm hxz
  have e3 : (z == y) = false := by simpa using Ne.symm hyz
  simp [List.eraseDups, List.eraseDupsBy, List.eraseDupsBy.loop, e1, e2, e3]
 unfold swappedStores
 simp only [hbk, List.head?, Option.map, Option.getD, List.filterMap, kx, ky, kz, Expr.pos, hl, hl2, h1, h2]
 simp [hdd]
 intro h
 exfalso
 rcases h with h | h | h
 ·revert h
  cases a <;> first | (intro h; cases h; done) | exact absurd ha (by simp [isStar])
 ·revert h
  cases b <;> first | (intro h; cases h; done) | exact absurd hb (by simp [isStar])
 ·revert h
  cases d <;> first | (intro h; cases h; done) | exact absurd hd (by simp [isStar])
def varB (q : Q) (sc : Scope) (e : Expr) (i : Nat) : Bool := match e with
 | .Name x _ => decide (q.N[i]? = some x) && visB sc x && okN x
 | _ => false
def setB (q : Q) (sc : Scope) (fnB : Str → Bool) (x : Str) (i : Nat) : Bool := decide (q.N[i]? = some x) && locB sc x && (fnB x || isLoc sc x)
def chkS (q : Q) : Nat → Scope → (Str → Bool) → Stmt → S → Bool
 | 0, _, _, _, _ => false
 | n + 1, sc, fnB, st, s =>
  let r := chk q n sc
  let rs := all2 (chkS q n sc fnB)
  match s with
  | .asg i c => (match st with
   | .Assign [.Name x p'] e pos => r e c && setB q sc fnB x i && (match e with
    | .ListComp elt [⟨tg, it, ifs, 0⟩] scope p => (isLoc sc x && isFn sc && (p'.line == p.line) && !(scope.names.any fun (n, k) => n == x && (k == .local || k == .cell))) || isCell sc x
    | e => notComp e)
   | _ => false)
  | .asgT is c => (match st with | .Assign [.Tuple es _ _] e _ => all2 (nmB q sc fnB) es is && r e c && notTup e | _ => false)
  | .par2 i j ca cb => (match st with
   | .Assign [.Tuple [.Name x px, .Name y py] _ _] (.Tuple [a, b] _ _) _ => (decide (q.N[i]? = some x) && decide (q.N[j]? = some y) && decide (i ≠ j) && decide (x ≠ y) && isLoc sc x && isLoc sc y && r a ca && r b cb && (py.line == px.line) && !([a, b].all (foldedForSure 8)) && !([a, b].all (constantsAlone 8)) && isFn sc) || ((isCell sc x || isCell sc y) && decide (i ≠ j) && all2 (nmB q sc fnB) [.Name x px, .Name y py] [i, j] && r a ca && r b cb)
   | _ => false)
  | .par3 i j l ca cb cc => (match st with
   | .Assign [.Tuple [.Name x px, .Name y py, .Name z pz] _ _] (.Tuple [a, b, d] _ _) _ => decide (q.N[i]? = some x) && decide (q.N[j]? = some y) && decide (q.N[l]? = some z) && decide (i ≠ j) && decide (i ≠ l) && decide (j ≠ l) && decide (x ≠ y) && decide (x ≠ z) && decide (y ≠ z) && isLoc sc x && isLoc sc y && isLoc sc z && r a ca && r b cb && r d cc && (py.line == px.line) && (pz.line == px.line) && !([a, b, d].all (foldedForSure 8)) && !([a, b, d].all (constantsAlone 8)) && isFn sc
   | _ => false)
  | .aug i op c => (match st with | .AugAssign (.Name x _) o e _ => ((decide (op = .add) && decide (o = .Add)) || (decide (op = .sub) && decide (o = .Sub))) && setB q sc fnB x i && r e c | _ => false)
  | .setI i ck cv => (match st with | .Assign [.Subscript o ei _] e _ => varB q sc o i && r ei ck && r e cv && notSlice ei | _ => false)
  | .setA i f cv => (match st with | .Assign [.Attribute o g _] e _ => decide (g = f) && varB q sc o i && r e cv | _ => false)
  | .app i c => (match st with | .Expr (.Call (.Attribute o m p2) [e] [] cpos) _ => decide (m = "append") && varB q sc o i && r e c && (p2.endLine == cpos.line) | _ => false)
  | .ext i c => (match st with | .Expr (.Call (.Attribute o m p2) [e] [] cpos) _ => decide (m = "extend") && varB q sc o i && r e c && (p2.endLine == cpos.line) | _ => false)
  | .expr c => (match st with | .Expr e _ => r e c && notComp e | _ => false)
  | .ife t a b => (match st with | .If t' a' b' _ => r t' t && !isIf t' && rs a' a && rs b' b | _ => false)
  | .for_ tgc kd its body => (match st with | .For tg it stm [] _ => itB r q sc tg kd it its && tgB q sc fnB tg tgc && notSet it && rs stm body | _ => false)
  | .forD i j f body => (match st with | .For (.Name x p) (.Attribute o g _) stm [] _ => decide (g = f) && varB q sc o j && noSup o && nmB q sc fnB (.Name x p) i && rs stm body | _ => false)
  | .while_ t body => (match st with | .While t' stm [] _ => r t' t && !isIf t' && rs stm body | _ => false)
  | .ret c => (match st with
   | .Return (some e) _ => (match c with
    | .var i => varB q sc e i
    | c => r e c)
   | _ => false)
  | .retN => (match st with | .Return none _ => true | _ => false)
  | .raise c => (match st with | .Raise (some (.Call (.Name x _) [.Constant (.str _) _ _] [] _)) none _ => decide (x = c) && q.exB c && !flagN c && glB sc x | _ => false)
  | .raiseH ca cb => (match st with | .Raise (some (.Call (.Name x _) [a, b] [] _)) none _ => decide (x = "Halt") && q.exB "!Halt" && glB sc x && r a ca && r b cb | _ => false)
  | .tryH _ _ _ _ => false
  | .augA i f n => (match st with | .AugAssign (.Attribute o g _) op (.Constant (.int m) _ _) _ => decide (g = f) && varB q sc o i && ((decide (op = .Add) && decide (n = m)) || (decide (op = .Sub) && decide (n = -m))) | _ => false)
  | .pass => (match st with | .Pass _ => true | _ => false)
  | .brk => (match st with | .Break _ => true | _ => false)
  | .cont => (match st with | .Continue _ => true | _ => false)
section
variable {q : Q} {k : Nat} {X : Cx} {R : Fr} {W : XK} {sc : Scope} {fnB : Str → Bool}
theorem Bg.at (b : Bg q k X R W sc fnB) {R' : Fr} (h : R'.K = R.K) : Bg q k X R' W sc fnB where
 hK := b.hK.trans h.symm
 hN := b.hN
 nd := b.nd
 calm := b.calm
 gd := b.gd
 room := b.room
 tk := b.tk
 L := by rw [h]; exact b.L
 att := by rw [h]; exact b.att
 isi := by rw [h]; exact b.isi
 kd := by rw [h]; exact b.kd
 con := fun x d e => by
  obtain ⟨u, v, h1, h2, h3⟩ := b.con x d e
  exact ⟨u, v, h1, h2, by rw [h]; exact h3⟩
 blt := b.blt
 cl := by rw [h]; exact b.cl
 exc := by rw [h]; exact b.exc
 hsc := b.hsc
 kind := b.kind
 fn := b.fn
 top := b.top
theorem varB_ok (b : Bg q k X R W sc fnB) {e : Expr} {i : Nat} (h : varB q sc e i = true) : PE X e (tVar i) ∧ noSup e = true := by
 unfold varB at h
 split at h
 ·simp only [Bool.and_eq_true, decide_eq_true_eq] at h
  obtain ⟨⟨h1, h2⟩, h3⟩ := h
  obtain ⟨o1, o2, _⟩ := okN_ok h3
  exact ⟨pe_var (by rw [b.hN]; exact h1) (b.vis h2) o1 o2, rfl⟩
 ·cases h
theorem setB_ok (b : Bg q k X R W sc fnB) {x : Str} {i : Nat} (h : setB q sc fnB x i = true) : X.N[i]? = some x ∧ Loc X.env.scope x ∧ (X.fn x = true ∨ X.env.scope.names.lookup x = some .local) := by
 unfold setB at h
 simp only [Bool.and_eq_true, Bool.or_eq_true, decide_eq_true_eq] at h
 refine ⟨by rw [b.hN]; exact h.1.1, by rw [b.hsc]; exact locB_ok h.1.2, ?_⟩
 rw [b.hsc]
 exact h.2.imp (b.fn x) isLoc_ok
theorem pss_of {E : Ev} {f : Stmt → S → Bool} (hf : ∀ st s, f st s = true → PS X st (TS_ R W (evS E s))) : ∀ {sts : List Stmt} {ss : List S}, all2 f sts ss = true → PSs X sts (TS_ R W (evSs E ss))
 | [], [], _ => pss_nil_
 | st :: sts, s :: ss, h => by
  unfold all2 at h
  rw [Bool.and_eq_true] at h
  exact pss_cons_ (hf _ _ h.1) (pss_of hf h.2)
 | [], _ :: _, h => by cases h
 | _ :: _, [], h => by cases h
end
theorem chkS_ok (q : Q) (k : Nat) : ∀ (n : Nat) {X : Cx} {R : Fr} {W : XK} {sc : Scope} {fnB : Str → Bool} (st : Stmt) (s : S), Bg q k X R W sc fnB → chkS q n sc fnB st s = true → PS X st (TS_ R W (evS q.E s)) := by
 intro n
 induction n with
 | zero => intro X R W sc fnB st s b h; cases h
 | succ n ih =>
  intro X R W sc fnB st s b h
  have g : ∀ e c, chk q n sc e c = true → Good X R W q.E e c := fun e c h => chk_ok q k n e c b h
  have gn : ∀ e c, chk q n sc e c = true → Good X.nox R WF q.E e c := fun e c h => chk_ok q k n e c b.nox h
  have gs : ∀ {sts : List Stmt} {ss : List S}, all2 (chkS q n sc fnB) sts ss = true → PSs X sts (TS_ R W (evSs q.E ss)) := fun h => pss_of (fun st s h => ih st s b h) h
  have gsn : ∀ {sts : List Stmt} {ss : List S}, all2 (chkS q n sc fnB) sts ss = true → PSs X.nox sts (TS_ R WF (evSs q.E ss)) := fun h => pss_of (fun st s h => ih st s b.nox h) h
  have hloc : ∀ y, isLoc sc y = true → X.env.scope.names.lookup y = some .local := fun y h => by rw [b.hsc]; exact isLoc_ok h
  unfold chkS at h
  dsimp only at h
  cases s with
  | asg i c =>
   dsimp only at h
   split at h
   ·rename_i x p' e pos
    simp only [Bool.and_eq_true] at h
    obtain ⟨⟨h1, h2⟩, h3⟩ := h
    obtain ⟨s1, s2, s3⟩ := setB_ok b h2
    split at h3
    ·rename_i elt tg it ifs scope p
     rw [Bool.or_eq_true] at h3
     refine h3.elim (fun h3 => ?_) fun h3 => ps_asg_ b.nd s1 s2 (g _ _ h1).te (swCell_ok (by rw [b.hsc]; exact isCell_ok h3)) s3
     simp only [Bool.and_eq_true, Bool.not_eq_true'] at h3
     obtain ⟨⟨⟨h4, h5⟩, h6⟩, h7⟩ := h3
     have hl : X.env.scope.names.lookup x = some .local := by rw [b.hsc]; exact isLoc_ok h4
     have hsw : swapsWith (.ListComp elt [⟨tg, it, ifs, 0⟩] scope p) (some (.Name x p')) pos.line X.env = pure true := sw_true (by rw [b.hsc]; exact isFn_ok h5) hl h6 h7
     exact PS.imp (asgL_ok q k (n := n) b s1 hl hsw h1) fun D σ H q => imp_asg q
    ·exact ps_asg_ b.nd s1 s2 (g _ _ h1).te (sw_ok h3) s3
   ·cases h
  | asgT is c =>
   dsimp only at h
   split at h
   ·simp only [Bool.and_eq_true] at h
    obtain ⟨⟨h1, h2⟩, h3⟩ := h
    have hp := nms_ok b h1
    obtain ⟨e1, e2, e3⟩ := nms_each (env := X.env) (fun e i ⟨x, pos, e1, _⟩ => ⟨x, pos, e1⟩) hp
    exact ps_asgT_ b.hK b.calm (g _ _ h2).te (pgs_names b.nd hp e3) e1 e2 swT_ok (storesT_ok h3) rfl
   ·cases h
  | par2 i j ca cb =>
   dsimp only at h
   split at h
   ·rw [Bool.or_eq_true] at h
    rcases h with h | h
    ·simp only [Bool.and_eq_true, decide_eq_true_eq, Bool.not_eq_true'] at h
     obtain ⟨⟨⟨⟨⟨⟨⟨⟨⟨⟨⟨h1, h2⟩, h3⟩, h4⟩, h5⟩, h6⟩, h7⟩, h8⟩, h9⟩, h10⟩, h11⟩, h12⟩ := h
     have hx := hloc _ h5
     have hy := hloc _ h6
     exact ps_par2_ b.calm b.nd (by rw [b.hN]; exact h1) (by rw [b.hN]; exact h2) h3 hx hy (g _ _ h7).te (g _ _ h8).te (star_ok (g _ _ h7).st) (star_ok (g _ _ h8).st)
      (par_ok (by rw [b.hsc]; exact isFn_ok h12) hx hy h4 (g _ _ h7).st (g _ _ h8).st h9 h10 h11) swT_ok
    ·simp only [Bool.and_eq_true, Bool.or_eq_true, decide_eq_true_eq] at h
     obtain ⟨⟨⟨⟨h1, h2⟩, h3⟩, h4⟩, h5⟩ := h
     have hp := nms_ok b h3
     obtain ⟨e1, e2, e3⟩ := nms_each (env := X.env) (fun e i ⟨x, pos, e1, _⟩ => ⟨x, pos, e1⟩) hp
     exact ps_par2c_ b.calm h2 (pgs_names b.nd hp e3) (g _ _ h4).te (g _ _ h5).te (star_ok (g _ _ h4).st) (star_ok (g _ _ h5).st) e1 e2 (sw2c_ok (by rw [b.hsc]; exact h1.imp isCell_ok isCell_ok)) swT_ok
   ·cases h
  | par3 i j l ca cb cc =>
   dsimp only at h
   split at h
   ·simp only [Bool.and_eq_true, decide_eq_true_eq, Bool.not_eq_true'] at h
    obtain ⟨⟨⟨⟨⟨⟨⟨⟨⟨⟨⟨⟨⟨⟨⟨⟨⟨⟨⟨h1, h2⟩, h3⟩, h4⟩, h5⟩, h6⟩, h7⟩, h8⟩, h9⟩, h10⟩, h11⟩, h12⟩, h13⟩, h14⟩, h15⟩, h16⟩, h17⟩, h18⟩, h19⟩, h20⟩ := h
    have hx := hloc _ h10
    have hy := hloc _ h11
    have hz := hloc _ h12
    exact ps_par3_ b.calm b.nd (by rw [b.hN]; exact h1) (by rw [b.hN]; exact h2) (by rw [b.hN]; exact h3) h4 h5 h6 hx hy hz (g _ _ h13).te (g _ _ h14).te (g _ _ h15).te (star_ok (g _ _ h13).st) (star_ok (g _ _ h14).st) (star_ok (g _ _ h15).st)
     (par3_ok (by rw [b.hsc]; exact isFn_ok h20) hx hy hz h7 h8 h9 (g _ _ h13).st (g _ _ h14).st (g _ _ h15).st h16 h17 h18 h19) swT_ok
   ·cases h
  | aug i op c =>
   dsimp only at h
   split at h
   ·simp only [Bool.and_eq_true, Bool.or_eq_true, decide_eq_true_eq] at h
    obtain ⟨⟨h1, h2⟩, h3⟩ := h
    obtain ⟨s1, s2, s3⟩ := setB_ok b h2
    exact ps_aug_ h1 b.nd s1 s2 (g _ _ h3).te s3
   ·cases h
  | setI i ck cv =>
   dsimp only at h
   split at h
   ·simp only [Bool.and_eq_true] at h
    obtain ⟨⟨⟨h1, h2⟩, h3⟩, h4⟩ := h
    have hu := b.hu
    exact ps_setI_ (by omega) (varB_ok b h1).1 (g _ _ h2).to (g _ _ h3).te (asg_ok h4) swS_ok storesS_ok rfl
   ·cases h
  | setA i f cv =>
   dsimp only at h
   split at h
   ·simp only [Bool.and_eq_true, decide_eq_true_eq] at h
    obtain ⟨⟨rfl, h2⟩, h3⟩ := h
    exact ps_setA_ b.att b.hK (varB_ok b h2).1 (g _ _ h3).te swA_ok
   ·cases h
  | app i c =>
   dsimp only at h
   split at h
   ·simp only [Bool.and_eq_true, decide_eq_true_eq] at h
    obtain ⟨⟨⟨rfl, h2⟩, h3⟩, h4⟩ := h
    have ge := g _ _ h3
    obtain ⟨v1, v2⟩ := varB_ok b h2
    exact ps_app_ v1 ge.te (star_ok ge.st) (base_ok v2) h4 (few_ok (by simp [ge.st]) (by simp)) rfl (sw_ok rfl)
   ·cases h
  | ext i c =>
   dsimp only at h
   split at h
   ·simp only [Bool.and_eq_true, decide_eq_true_eq] at h
    obtain ⟨⟨⟨rfl, h2⟩, h3⟩, h4⟩ := h
    have ge := g _ _ h3
    obtain ⟨v1, v2⟩ := varB_ok b h2
    exact ps_ext_ v1 ge.te (star_ok ge.st) (base_ok v2) h4 (few_ok (by simp [ge.st]) (by simp)) rfl (sw_ok rfl)
   ·cases h
  | expr c =>
   dsimp only at h
   split at h
   ·simp only [Bool.and_eq_true] at h
    exact ps_expr_ (g _ _ h.1).te (sw_ok h.2)
   ·cases h
  | ife t a c =>
   dsimp only at h
   split at h
   ·simp only [Bool.and_eq_true, Bool.not_eq_true'] at h
    exact ps_ife_ ((g _ _ h.1.1.1).pt h.1.1.2) (gs h.1.2) (gs h.2)
   ·cases h
  | for_ tgc kd its body =>
   dsimp only at h
   split at h
   ·simp only [Bool.and_eq_true] at h
    exact ps_for_ b.hK b.calm (itB_ok b.nox gn h.1.1.1) (tgB_ok b.nox h.1.1.2) (gsn h.2) (fold_ok h.1.2)
   ·cases h
  | forD i j f body =>
   dsimp only at h
   split at h
   ·simp only [Bool.and_eq_true, decide_eq_true_eq] at h
    obtain ⟨⟨⟨⟨rfl, h2⟩, h3⟩, h4⟩, h5⟩ := h
    exact ps_forD_ (xpos := default) b.att b.hK b.calm (varB_ok b.nox h2).1 (base_ok h3) (tgB_ok (t := .one i) b.nox h4) (fun R' hR => pss_of (fun st s h => ih st s (b.nox.at hR) h) h5) (fun v => rfl)
   ·cases h
  | while_ t body =>
   dsimp only at h
   split at h
   ·simp only [Bool.and_eq_true, Bool.not_eq_true'] at h
    exact ps_while_ ((gn _ _ h.1.1).pt h.1.2) (gsn h.2)
   ·cases h
  | ret c =>
   dsimp only at h
   split at h
   ·split at h
    ·exact ps_retV_ (varB_ok b h).1
    ·rename_i hc
     exact ps_ret_ (fun i z => hc i z) (g _ _ h).te
   ·cases h
  | retN =>
   dsimp only at h
   split at h
   ·exact ps_retN_
   ·cases h
  | raise c =>
   dsimp only at h
   split at h
   ·simp only [Bool.and_eq_true, decide_eq_true_eq, Bool.not_eq_true'] at h
    obtain ⟨⟨⟨rfl, h2⟩, h2'⟩, h3⟩ := h
    exact ps_raise_ b.calm b.tk (b.exc.one _ h2 h2' X b.hK rfl _ _ _ _ _ (b.gl h3))
   ·cases h
  | raiseH ca cb =>
   dsimp only at h
   split at h
   ·rename_i x p a d pos1 pos2
    simp only [Bool.and_eq_true, decide_eq_true_eq] at h
    obtain ⟨⟨⟨⟨rfl, h2⟩, h3⟩, h4⟩, h5⟩ := h
    have ga := g _ _ h4
    have gb := g _ _ h5
    have hH := b.exc.halt h2
    refine ps_raiseH_ b.calm b.tk (pv_of (.cons ga (.cons gb .nil))) fun ta hta => ?_
    exact (hH X b.hK rfl (by have := b.room.dp; omega) a d ta p pos1 (b.gl h3) hta (star_ok ga.st) (any_ok (by simp [gb.st]))).pmk
   ·cases h
  | tryH _ _ _ _ => cases h
  | augA i f n =>
   dsimp only at h
   split at h
   ·simp only [Bool.and_eq_true, Bool.or_eq_true, decide_eq_true_eq] at h
    obtain ⟨⟨rfl, h2⟩, h3⟩ := h
    exact ps_augA_ h3 b.att b.hK (varB_ok b h2).1
   ·cases h
  | pass =>
   dsimp only at h
   split at h
   ·exact ps_pass_
   ·cases h
  | brk =>
   dsimp only at h
   split at h
   ·exact ps_brk_
   ·cases h
  | cont =>
   dsimp only at h
   split at h
   ·exact ps_cont_
   ·cases h
end Y
namespace Y
open PySem PySem.Spec PyProof.Rows L2
def mkE (st : Ev) (a b : Nat → Fn) : Ev := { st with fn := a, fm := b }
def sem (st : Ev) (step : Ev → Nat → Fn) : Nat → Nat → Fn
 | 0 => fun _ _ => none
 | 1 => fun _ _ => none
 | k + 2 => step (mkE st (sem st step (k + 1)) (sem st step k))
structure Md (P : Program) (w : World) (K : PySem.W.Frag) (mg : Str → Option Value) (st : Ev) (blt exB : Str → Bool) : Prop where
 att : AttOk K st
 isi : IsiOk K st
 con : ∀ x d, st.con x = some d → ∃ u v, mg x = some u ∧ RelV v u ∧ At K (fun _ => none) v d
 kd : KdOk K w mg st
 blt : ∀ x, blt x = true → mg x = none
 cl : ∀ c, st.cl c = true → mg c = some (.ref (He.ga K c))
 exc : ExcOk K mg exB
structure Pl where
 f : Addr
 fd : FuncData
 ps : List Str
abbrev LvAll (P : Program) (w : World) (K : PySem.W.Frag) (mg : Str → Option Value) (base : Heap) (E : Ev) (k : Nat) : Prop := ∀ X : Cx, X.prog = P → X.w = w → X.K = K → X.mg = mg → X.base = base → Lv X K E k
structure Df (P : Program) (w : World) (K : PySem.W.Frag) (mg : Str → Option Value) (base : Heap) (st : Ev) (step : Ev → Nat → Fn) (fid : Nat) (p : Pl) : Prop where
 len : p.ps.length = st.np fid
 binds : ∀ n, n + (moreOf st fid n).length = st.np fid → ∃ (ds : List Value) (dvs : List V), Binds K p.fd p.ps ds ∧ Vals dvs ds ∧ Paired (At K (fun _ => none)) dvs (moreOf st fid n)
 step : ∀ k, (∀ j, j ≤ k → LvAll P w K mg base (mkE st (sem st step (j + 1)) (sem st step j)) (j + 1)) → FnG P w K mg base (RX.CX P w) (k + 2) p.f p.fd p.ps (spD K (st.io fid) (st.np fid) (step (mkE st (sem st step (k + 1)) (sem st step k)) fid))
structure Nm (K : PySem.W.Frag) (mg : Str → Option Value) (st : Ev) (used : Nat → Bool) (pl : Nat → Pl) : Prop where
 gl : ∀ x fid, st.gl x = some fid → used fid = true ∧ mg x = some (.ref (pl fid).f) ∧ PySem.W.keepIn K (.ref (pl fid).f) = true
 mt : ∀ c m fid, st.mt c m = some fid → used fid = true ∧ Cls K (He.ga K c) ∧ Meth K (He.ga K c) m (pl fid).f
 ini : ∀ c fid, st.ini c = some fid → used fid = true ∧ mg c = some (.ref (He.ga K c)) ∧ Mk K (He.ga K c) (pl fid).f
 bare : ∀ c, st.bare c = true → mg c = some (.ref (He.ga K c)) ∧ BareK K (He.ga K c)
section
variable {P : Program} {w : World} {K : PySem.W.Frag} {mg : Str → Option Value} {base : Heap} {st : Ev} {step : Ev → Nat → Fn} {used : Nat → Bool} {pl : Nat → Pl} {blt exB : Str → Bool}
theorem spD_none {io : Option Nat} {np : Nat} {vs : List V} {H : Hp} {Q : VK} {E : XK} (h : spD K io np (fun _ => none) vs H Q E) : False := by
 by_cases h100 : io = some 100
 ·subst h100
  rw [spD_dn] at h
  obtain ⟨F, ds, a, c, T, m, k, ch, e, vs', _, _, _, _, _, _, q⟩ := h
  exact q
 ·rw [spD_old h100] at h
  obtain ⟨F, ds, _, _, _, _, q⟩ := h
  exact q
theorem fn_none {k : Nat} {f : Addr} {fd : FuncData} {ps : List Str} {io : Option Nat} {np : Nat} {CX : CXT} : FnG P w K mg base CX k f fd ps (spD K io np (fun _ => none)) :=
 ⟨fun vs H Q E h => (spD_none h).elim, fun A _ outer s H args us vs Q E _ _ _ _ h => (spD_none h).elim⟩
theorem sem_ok (N : Nm K mg st used pl) (D : ∀ fid, used fid = true → Df P w K mg base st step fid (pl fid)) : ∀ k fid, used fid = true → FnG P w K mg base (RX.CX P w) k (pl fid).f (pl fid).fd (pl fid).ps (spD K (st.io fid) (st.np fid) (sem st step k fid)) := by
 have lv : ∀ k, (∀ j, j ≤ k + 1 → ∀ fid, used fid = true → FnG P w K mg base (RX.CX P w) j (pl fid).f (pl fid).fd (pl fid).ps (spD K (st.io fid) (st.np fid) (sem st step j fid))) → LvAll P w K mg base (mkE st (sem st step (k + 1)) (sem st step k)) (k + 1) := by
  intro k ih X hp hw hK hm hb
  subst hp hw hK hm hb
  have ca : ∀ (fn : Nat → Fn) (j fid : Nat) (h : used fid = true), FnG X.prog X.w X.K X.mg X.base (RX.CX X.prog X.w) j (pl fid).f (pl fid).fd (pl fid).ps (spD X.K (st.io fid) (st.np fid) (fn fid)) →
    CalleeAt X X.K (mkE st (sem st step (k + 1)) (sem st step k)) fn j fid (pl fid).f := fun fn j fid hu h => ⟨(pl fid).fd, (pl fid).ps, (D fid hu).len, h, (D fid hu).binds⟩
  refine ⟨fun x fid hx => ?_, fun c m fid hx => ?_, fun c fid hx => ?_, N.bare⟩
  ·obtain ⟨h1, h2, h3⟩ := N.gl x fid hx
   exact ⟨_, h2, h3, ca _ _ fid h1 (ih (k + 1) (Nat.le_refl _) fid h1)⟩
  ·obtain ⟨h1, h2, h3⟩ := N.mt c m fid hx
   exact ⟨_, h2, h3, ca _ _ fid h1 (ih (k + 1) (Nat.le_refl _) fid h1)⟩
  ·obtain ⟨h1, h2, h3⟩ := N.ini c fid hx
   exact ⟨_, k, rfl, h2, h3, ca _ _ fid h1 (ih k (Nat.le_succ _) fid h1)⟩
 have main : ∀ k, ∀ j, j ≤ k → ∀ fid, used fid = true → FnG P w K mg base (RX.CX P w) j (pl fid).f (pl fid).fd (pl fid).ps (spD K (st.io fid) (st.np fid) (sem st step j fid)) := by
  intro k
  induction k with
  | zero =>
   intro j hj fid _
   obtain rfl : j = 0 := by omega
   exact fn_none
  | succ k ih =>
   intro j hj fid hu
   by_cases e : j ≤ k
   ·exact ih j e fid hu
   ·obtain rfl : j = k + 1 := by omega
    cases k with
    | zero => exact fn_none
    | succ i => exact (D fid hu).step i fun m hm => lv m fun j hj => ih j (by omega)
 exact fun k => main k k (Nat.le_refl _)
theorem step_of {fid : Nat} {p : Pl} (h : ∀ k a b, LvAll P w K mg base (mkE st a b) k → FnG P w K mg base (RX.CX P w) (k + 1) p.f p.fd p.ps (spD K (st.io fid) (st.np fid) (step (mkE st a b) fid))) :
  ∀ k, (∀ j, j ≤ k → LvAll P w K mg base (mkE st (sem st step (j + 1)) (sem st step j)) (j + 1)) → FnG P w K mg base (RX.CX P w) (k + 2) p.f p.fd p.ps (spD K (st.io fid) (st.np fid) (step (mkE st (sem st step (k + 1)) (sem st step k)) fid)) := fun k L => h (k + 1) _ _ (L k (Nat.le_refl _))
theorem bg_of (M : Md P w K mg st blt exB) {a b : Nat → Fn} {k : Nat} (L : LvAll P w K mg base (mkE st a b) k) {N ps : List Str} {qual : Str} {scope : Scope} (Sc : FnScope N ps scope) {f : Addr} {cdv : Value} {A : Around} {outer : List Env} {s : Shared} {H : Hp} {W : XK} {R : Fr} (hR : R.K = K) (gd : A.guards = some [])
  (hr : Room k (A.deeper (envOfC qual scope s.heap.objs.size f cdv))) : Bg ⟨mkE st a b, N, blt, exB, true⟩ k (cxOf (RX.CX P w) P w K mg base N qual scope f cdv A outer s H W) R W scope (fun _ => true) where
 hK := hR.symm
 hN := rfl
 nd := Sc.nd
 calm := rfl
 gd := gd
 room := hr
 tk := RX.takes_of rfl rfl rfl rfl
 L := by rw [hR]; exact L _ rfl rfl rfl rfl rfl
 att := by rw [hR]; exact M.att
 isi := by rw [hR]; exact ⟨M.isi.is_, M.isi.xc, M.isi.cl⟩
 con := fun x d e => by
  obtain ⟨u, v, h1, h2, h3⟩ := M.con x d e
  exact ⟨u, v, h1, h2, by rw [hR]; exact h3⟩
 kd := by rw [hR]; exact M.kd
 blt := M.blt
 cl := by rw [hR]; exact M.cl
 exc := by rw [hR]; exact M.exc
 hsc := rfl
 kind := Sc.kind
 fn := fun _ _ => rfl
 top := fun _ => ⟨rfl, rfl⟩
theorem df_core (M : Md P w K mg st blt exB) {fid : Nat} {x qual : Str} {params : Arguments} {body : List Stmt} {scope : Scope} {dvs : List V} {kws : List (Str × V)} {p : Pl} {N : List Str} {Ss : List S}
  (Fd : FunD K x qual params body scope dvs kws p.f p.fd) (Sc : FnScope N p.ps scope) (hl : p.ps.length = st.np fid) (hN : N.length = nN)
  (hb : ∀ n, n + (moreOf st fid n).length = st.np fid → ∃ (ds : List Value) (dvs : List V), Binds K p.fd p.ps ds ∧ Vals dvs ds ∧ Paired (At K (fun _ => none)) dvs (moreOf st fid n))
  (hs : ∀ E, step E fid = runF E (st.io fid) nN (st.np fid) Ss)
  (hc : ∀ a b, all2 (chkS ⟨mkE st a b, N, blt, exB, true⟩ 60 scope (fun _ => true)) body Ss = true) : Df P w K mg base st step fid p where
 len := hl
 binds := hb
 step := step_of fun k a b L => by
  rw [hs]
  exact fnD Fd Sc hl hN fun cdv _ A gd outer s H W R hR hr => pss_of (fun st' s' h => chkS_ok ⟨mkE st a b, N, blt, exB, true⟩ k 60 st' s' (bg_of M L Sc hR gd hr) h) (hc a b)
end
end Y
namespace Y
open PySem PySem.Spec L2
def eqA (a b : Sum String Str) : Bool := match a, b with
 | .inl x, .inl y => x == y
 | .inr x, .inr y => decide (x = y)
 | _, _ => false
def eqT (a b : Ty) : Bool := match a, b with
 | .ty x, .ty y => x == y
 | .cls x, .cls y => decide (x = y)
 | _, _ => false
def lookS {α : Type} (l : List (Str × α)) (x : Str) : Option α := (l.find? fun p => decide (p.1 = x)).map (·.2)
def stOf (glT : List (Str × Nat)) (mtT : List ((Str × Str) × Nat)) (iniT : List (Str × Nat)) (conT : List (Str × D)) (attT : List (Str × Str)) (kdT : List (Str × List (Str × List Str))) (isiT : List (Sum String Str × Ty × Bool)) (isxT : List (Str × Ty × Bool)) (clT bareT : List Str) (tab : List (Nat × Option Nat × List D)) : Ev where
 fn := fun _ _ => none
 fm := fun _ _ => none
 io := fun f => (tab[f]?).bind (·.2.1)
 dfl := fun f => ((tab[f]?).map (·.2.2)).getD []
 np := fun f => ((tab[f]?).map (·.1)).getD 0
 con := lookS conT
 att := fun c f => attT.any fun p => decide (p.1 = c) && decide (p.2 = f)
 isi := fun a t => (isiT.find? fun p => eqA p.1 a && eqT p.2.1 t).map (·.2.2)
 isx := fun c t => (isxT.find? fun p => decide (p.1 = c) && eqT p.2.1 t).map (·.2.2)
 mt := fun c m => (mtT.find? fun p => decide (p.1.1 = c) && decide (p.1.2 = m)).map (·.2)
 ini := lookS iniT
 gl := lookS glT
 cl := fun c => clT.any fun x => decide (x = c)
 kd := lookS kdT
 bare := fun c => bareT.any fun x => decide (x = c)
end Y
namespace Y
open PySem PySem.Spec PyProof.Rows L2
def seqM (a b : G → M (Fl × G)) : G → M (Fl × G) := fun g => M.bnd (a g) fun (fl, g1) => match fl with
 | .nx => b g1
 | fl => some (.ok (fl, g1))
section
variable {X : Cx} {R : Fr} {W : XK} {st : Stmt} {rest : List Stmt} {ev1 ev2 : G → M (Fl × G)}
theorem pss_seq (h1 : PS X st (TS_ R W ev1)) (h2 : PSs X rest (TS_ R W ev2)) : PSs X (st :: rest) (TS_ R W (seqM ev1 ev2)) := by
 refine PSs.imp (pss_cons h1 h2) fun D σ H ⟨F, g, r, q⟩ => ?_
 refine ⟨F, g, r, wp_mono (wp_bnd q) (fun (fl, g1) q1 => ?_) fun _ z => z⟩
 cases fl with
 | nx => exact fun σ' F' H' e r' => ⟨F', g1, r', wp_mono q1 (fun a z => z.on e) fun _ z => z⟩
 | bk => exact q1
 | ct => exact q1
 | rt s => exact q1
end
section
variable {P : Program} {w : World} {K : PySem.W.Frag} {mg : Str → Option Value} {base : Heap} {st : Ev} {step : Ev → Nat → Fn} {blt exB : Str → Bool}
theorem df_ev (M : Md P w K mg st blt exB) {fid nN : Nat} {x qual : Str} {params : Arguments} {body : List Stmt} {scope : Scope} {dvs : List V} {kws : List (Str × V)} {p : Pl} {N : List Str} {ev : Ev → G → Y.M (Fl × G)}
  (Fd : FunD K x qual params body scope dvs kws p.f p.fd) (Sc : FnScope N p.ps scope) (hl : p.ps.length = st.np fid) (hN : N.length = nN)
  (hb : ∀ n, n + (moreOf st fid n).length = st.np fid → ∃ (ds : List Value) (dvs : List V), Binds K p.fd p.ps ds ∧ Vals dvs ds ∧ Paired (At K (fun _ => none)) dvs (moreOf st fid n))
  (hs : ∀ E, step E fid = runG (st.io fid) nN (st.np fid) (ev E))
  (hc : ∀ (a b : Nat → Fn) (k : Nat) (X : Cx) (R : Fr) (W : XK), Bg ⟨mkE st a b, N, blt, exB, true⟩ k X R W scope (fun _ => true) → X.stack = X.env :: X.outer → X.env.frame = some X.env.locals → X.ex = [] → PSs X body (TS_ R W (ev (mkE st a b)))) : Df P w K mg base st step fid p where
 len := hl
 binds := hb
 step := step_of fun k a b L => by
  rw [hs]
  exact fnD Fd Sc hl hN fun cdv _ A gd outer s H W R hR hr => hc a b k _ R W (bg_of M L Sc hR gd hr) rfl rfl rfl
end
def tableOf (E : Ev) : List D → List Key → List D → Option (List Key × List D)
 | [], ks, vs => some (ks, vs)
 | o :: os, ks, vs => match o with
  | .obj c fs xs => if E.att c "name" = true then (match look fs xs "name" with
   | some (.str s) => if ks.length < lim then let r := setAll ks vs (.inr s) o; tableOf E os r.1 r.2 else none
   | _ => none) else none
  | _ => none
def notIo (g : G) (i : Nat) : Bool := match g.get i with
 | some ⟨_, .io, _⟩ => false
 | _ => true
def evBook (E : Ev) : G → M (Fl × G) := fun g => match g.get 0, g.get 1 with
 | some ⟨.obj c [] [], .io, _⟩, some ⟨.lst os, .fr, m⟩ => if E.att c "table" = true ∧ 2 < g.length ∧ notIo g 2 = true then (match tableOf E os [] [] with
  | some (ks, vs) => some (.ok (.nx, (g.put 0 ⟨.obj c ["table"] [.dct ks vs], .io, m⟩).set 2 none))
  | none => none) else none
 | _, _ => none
theorem upd_upd {H : Hp} {p : Addr} {a b : HO} : upd (upd H p a) p b = upd H p b := by
 funext x
 by_cases e : x = p
 ·subst e; rw [upd_same, upd_same]
 ·rw [upd_ne e, upd_ne e, upd_ne e]
theorem upd_comm {H : Hp} {p q : Addr} {a b : HO} (h : p ≠ q) : upd (upd H p a) q b = upd (upd H q b) p a := by
 funext x
 by_cases e : x = p
 ·subst e; rw [upd_ne h, upd_same, upd_same]
 ·by_cases e2 : x = q
  ·subst e2; rw [upd_same, upd_ne e, upd_same]
  ·rw [upd_ne e2, upd_ne e, upd_ne e, upd_ne e2]
theorem RelS.alloc {R : Fr} {F H : Hp} {g : G} {σ : L2.St} {p : Addr} {o : HO} (r : RelS R F g σ H) (h : H p = none) : RelS R F g σ (upd H p o) := ⟨r.rel.alloc h, r.exF, r.nF⟩
theorem RelS.freeze {R : Fr} {F H : Hp} {g : G} {σ : L2.St} {p : Addr} {o : HO} (r : RelS R F g σ H) (hf : F p = none) (hp : H p = some o) (no : ¬ Own g σ p) (h0 : R.H0 p = none) (hn : nt o) : RelS R (upd F p o) g σ H := by
 refine ⟨r.rel.freeze hf hp no h0 hn, r.exF.trans (same_upd hf), fun b h1 h2 => ?_⟩
 rw [upd_ne (fun e => by rw [e, h0] at h2; cases h2)]
 exact r.nF b h1 h2
theorem RelS.drop {R : Fr} {F H : Hp} {g : G} {σ σ' : L2.St} {i : Nat} (r : RelS R F g σ H) (hl : σ'.length = σ.length) (hs : ∀ j, j ≠ i → σ'[j]? = σ[j]?) (hi : ∀ s, g.get i = some s → s.m ≠ .io) : RelS R F (g.set i none) σ' H := by
 have key : ∀ {j : Nat} {s : Sl}, G.get (g.set i none) j = some s → j ≠ i ∧ g.get j = some s := fun {j s} h => by
  unfold G.get at h ⊢
  by_cases e : j = i
  ·subst e
   by_cases hlt : j < g.length
   ·rw [List.getElem?_set_self hlt] at h; cases h
   ·rw [List.getElem?_eq_none (by rw [List.length_set]; omega)] at h; cases h
  ·rw [List.getElem?_set_ne (Ne.symm e)] at h
   exact ⟨e, h⟩
 have rl := r.rel
 refine ⟨⟨by rw [List.length_set, hl]; exact rl.len, fun j s hj => ?_, fun a b s u q ha hb hsa hsb pa pb => ?_, rl.ex, rl.keep, rl.there, rl.ios, fun q hq => ?_, rl.f0, rl.fn, rl.tb⟩, r.exF, r.nF⟩
 ·obtain ⟨e, h⟩ := key hj
  rw [hs j e]
  exact rl.at_ j s h
 ·obtain ⟨e1, h1⟩ := key ha
  obtain ⟨e2, h2⟩ := key hb
  rw [hs a e1] at pa
  rw [hs b e2] at pb
  exact rl.dis a b s u q h1 h2 hsa hsb pa pb
 ·obtain ⟨s, h1, h2, h3⟩ := rl.iog q hq
  have e : q.1 ≠ i := fun e => hi s (by rw [← e]; exact h1) h2
  refine ⟨s, ?_, h2, by rw [hs _ e]; exact h3⟩
  unfold G.get at h1 ⊢
  rw [List.getElem?_set_ne (Ne.symm e)]
  exact h1
section
variable {X : Cx} {R : Fr} {W : XK} {E : Ev} {rest : List Stmt} {ev2 : G → M (Fl × G)}
theorem tableOf_ok {K : PySem.W.Frag} {F : Hp} {n : Bool} {H0 : Hp} (hE : AttOk K E) : ∀ {os : List D} {vs : List V} {ks : List Key} {ds : List D} {ks' : List Key} {ds' : List D} {acc : List (Key × V)}, Paired (At K (FN H0 F n)) vs os → acc.map (·.1) = ks → Paired (At K (FN H0 F n)) (acc.map (·.2)) ds → tableOf E os ks ds = some (ks', ds') →
  ∃ kv : Nat → List (Key × V), kv 0 = acc ∧ (kv vs.length).map (·.1) = ks' ∧ Paired (At K (FN H0 F n)) ((kv vs.length).map (·.2)) ds' ∧
   ∀ i v, vs[i]? = some v → ∃ a c dx fs s, v = .ref a ∧ F a = some (.ins (He.ga K c) dx fs) ∧ Cls K (He.ga K c) ∧ NoAttr K (He.ga K c) "name" ∧ fs.lookup ("name" : Str) = some (V.str s) ∧ (kv i).length < lim ∧ kv (i + 1) = putK (kv i) (.inr s) v
 | [], _, ks, ds, ks', ds', acc, .nil, hk, hd, e => by
  cases e
  exact ⟨fun _ => acc, rfl, hk, hd, fun i v h => by simp at h⟩
 | o :: os, _, ks, ds, ks', ds', acc, .cons (a := v) (l₁ := vs) hv t, hk, hd, e => by
  cases o with
  | obj c fs xs =>
   unfold tableOf at e
   dsimp only at e
   split at e
   ·rename_i hatt
    split at e
    ·rename_i s hlk
     split at e
     ·rename_i hlen
      obtain ⟨a1, a2⟩ := putK_of (k := Sum.inr s) hv hk hd
      obtain ⟨kv, k0, k1, k2, k3⟩ := tableOf_ok hE t a1 a2 e
      cases hv with
      | obj h1 h2 h3 =>
       rename_i a dx kvs
       obtain ⟨u, h4, h5⟩ := look_lookup "name" h2 h3 _ hlk
       cases h5
       obtain ⟨hc, hn⟩ := hE c "name" hatt
       refine ⟨fun i => match i with | 0 => acc | i + 1 => kv i, rfl, k1, k2, fun i w hw => ?_⟩
       cases i with
       | zero =>
        cases hw
        refine ⟨a, c, dx, kvs, s, rfl, FN_le _ _ h1, hc, hn, h4, ?_, k0⟩
        rw [← List.length_map (f := (·.1)) (as := acc), hk]
        exact hlen
       | succ i => exact k3 i w (by simpa using hw)
     ·cases e
    ·cases e
   ·cases e
  | _ => cases e
theorem pss_book {x0 x0' x1 : Expr} {n2 : Str} {p1 p2 p3 p4 p5 p6 p7 p8 p9 p10 p11 : Pos} (hE : AttOk R.K E) (hK : X.K = R.K) (hc : X.calm = true) (hu : X.A.units + 1 < cLine)
  (h0 : PE X x0 (tVar 0)) (h0n : PE X.nox x0' (tVar 0)) (h1 : PE X.nox x1 (tVar 1)) (h2 : PE X.nox (.Name n2 p7) (tVar 2)) (h2' : PE X.nox (.Name n2 p8) (tVar 2)) (hg2 : PG X.nox (.Name n2 p9) (gName 2)) (hb0 : noSup x0' = true) (hns : notSet x1 = true)
  (hr : PSs X rest (TS_ R W ev2)) :
  PSs X (.Assign [.Attribute x0 "table" p1] (.Dict [] [] p2) p3 :: .For (.Name n2 p9) x1 [.Assign [.Subscript (.Attribute x0' "table" p4) (.Attribute (.Name n2 p8) "name" p5) p6] (.Name n2 p7) p10] [] p11 :: rest) (TS_ R W (seqM (evBook E) ev2)) := by
 have hb : PSs X.nox [.Assign [.Subscript (.Attribute x0' "table" p4) (.Attribute (.Name n2 p8) "name" p5) p6] (.Name n2 p7) p10] (tAsg (tVar 2) (gSub (tFld X.K (tVar 0) "table") (tFld X.K (tVar 2) "name") rSetD)) :=
  pss_one (ps_asg h2 (pg_sub (pe_fld h0n (base_ok hb0)) (pe_fld h2' (base_ok rfl)) (set_dict hu) (asg_ok rfl)) swS_ok storesS_ok rfl)
 refine PSs.imp (pss_cons (ps_fld h0 pe_dnewK swA_ok) (pss_cons (PS.nox (ps_for PassesOwn.never hc (pi_list h1) hg2 hb (fold_ok hns))) hr)) fun D σ H ⟨F, g, r, q⟩ => ?_
 have q0 := wp_bnd q
 unfold evBook at q0
 split at q0
 ·rename_i c n0 os m hg0 hg1
  obtain ⟨⟨hatt, hlen, hio2⟩, q1⟩ := ifNone q0
  cases ht : tableOf E os [] [] with
  | none => rw [ht] at q1; exact q1.elim
  | some rr =>
   obtain ⟨ks, vds⟩ := rr
   rw [ht] at q1
   have q2 : wp (ev2 ((g.put 0 ⟨.obj c ["table"] [.dct ks vds], .io, m⟩).set 2 none)) (FlC R F D) (ExW R W) := q1
   obtain ⟨p, hp, hT⟩ := r.rel.slot hg0 (by simp)
   obtain ⟨v1, hv1, hs1⟩ := r.rel.at_ 1 _ hg1
   have hs1' : At R.K (FN R.H0 F m) v1 (.lst os) := hs1
   cases hs1' with
   | lst hFa hvs =>
    rename_i a vs
    cases hT with
    | obj hpo hkk hpp =>
     rename_i dx kvs0
     have hkv0 : kvs0 = [] := List.map_eq_nil_iff.mp hkk
     subst hkv0
     obtain ⟨kv, k0, k1, k2, k3⟩ := tableOf_ok hE (acc := []) hvs rfl .nil ht
     obtain ⟨hcl, hna⟩ := hE c "table" hatt
     have hFp : F p = none := by
      obtain ⟨w, h3, h4⟩ := r.rel.at_ 0 _ hg0
      rw [hp] at h3
      cases h3
      obtain ⟨q', e', h5, _⟩ := slAt_own h4 (by simp)
      cases e'
      exact h5
     intro d hd
     obtain ⟨fD, h0D, noD⟩ := r.rel.fresh hd
     have hHa : H a = some (.lst vs) := r.rel.ex _ _ (FN_le _ _ hFa)
     have ap : a ≠ p := fun e => by rw [e] at hFa; have := FN_le _ _ hFa; rw [hFp] at this; cases this
     have ad : a ≠ d := ne_of_none hHa hd
     have pd : p ≠ d := ne_of_none hpo hd
     refine ⟨_, hp, p, _, dx, [], rfl, by rw [upd_ne pd]; exact hpo, by rw [hK]; exact hcl, by rw [hK]; exact hna, by decide, ?_⟩
     refine ⟨_, hv1, a, rfl, ⟨vs, SqL.of (by rw [upd_ne ap, upd_ne ad]; exact hHa)⟩, ?_⟩
     refine for_list (K := X.K) (a := a) (xs := vs) (fun i σ' H' => H' = upd (upd H d (.dK (kv i))) p (.ins (He.ga R.K c) dx [("table", .ref d)]) ∧ σ'.length = σ.length ∧ ∀ j, j ≠ 2 → σ'[j]? = σ[j]?) ?_ ?_ ?_ ?_
     ·rw [k0]
      exact ⟨rfl, rfl, fun _ _ => rfl⟩
     ·rintro i σ' H' _ ⟨rfl, _, _⟩
      exact SqL.of (by rw [upd_ne ap, upd_ne ad]; exact hHa)
     ·rintro i x σ' H' hx ⟨rfl, hsl, hag⟩
      obtain ⟨a2, c2, dx2, fs2, s2, rfl, hF2, hc2, hn2, hl2, hlt2, hk2⟩ := k3 i x hx
      have hHa2 : H a2 = some (.ins (He.ga R.K c2) dx2 fs2) := r.rel.ex _ _ hF2
      have a2p : a2 ≠ p := fun e => by rw [e, hFp] at hF2; cases hF2
      have a2d : a2 ≠ d := ne_of_none hHa2 hd
      have h2lt : 2 < σ'.length := by rw [hsl, r.rel.len]; exact hlen
      have e2 : (σ'.set 2 (some (.ref a2)))[2]? = some (some (.ref a2)) := List.getElem?_set_self h2lt
      have e0 : (σ'.set 2 (some (.ref a2)))[0]? = some (some (.ref p)) := by
       rw [List.getElem?_set_ne (by decide), hag 0 (by decide)]
       exact hp
      refine ⟨_, e2, _, e0, p, _, dx, _, .ref d, rfl, upd_same, by rw [hK]; exact hcl, by rw [hK]; exact hna, rfl, _, e2, a2, _, dx2, fs2, .str s2, rfl, by rw [upd_ne a2p, upd_ne a2d]; exact hHa2, by rw [hK]; exact hc2, by rw [hK]; exact hn2, hl2, d, _, rfl, DPut.k (k := .inr s2) (kvs := kv i) (by rw [upd_ne (Ne.symm pd), upd_same]) (lim_lt hlt2), ?_, ?_, fun j hj => ?_⟩
      ·rw [hk2, upd_comm pd, upd_upd]
      ·rw [List.length_set]; exact hsl
      ·rw [List.getElem?_set_ne (Ne.symm hj)]; exact hag j hj
     ·rintro σ' H' ⟨rfl, hsl, hag⟩
      have rA : RelS R F g σ (upd H d (.dK (kv vs.length))) := r.alloc hd
      have rB := (rA.freeze fD upd_same noD h0D nt_dK)
      have hkid : Paired (At R.K (FN R.H0 (upd F d (.dK (kv vs.length))) m)) [V.ref d] [Y.D.dct ks vds] :=
       .cons (.dct (.inl (by rw [FN_new h0D, upd_same])) k1 (atL_mono (FN_mono (same_upd fD)) _ _ k2)) .nil
      have rC := rB.mut (i := 0) (n' := m) (o := .ins (He.ga R.K c) dx [("table", .ref d)]) (d' := .obj c ["table"] [.dct ks vds]) hg0 (by simp) hp (.obj upd_same rfl hkid)
      have rD := rC.drop (i := 2) hsl hag fun t ht hm => by
       rw [G.get_put_ne (by decide)] at ht
       unfold notIo at hio2
       rw [ht] at hio2
       obtain ⟨td, tm, tn⟩ := t
       cases (show tm = .io from hm)
       cases hio2
      exact ⟨_, _, rD, wp_mono q2 (fun a z => z.on (same_upd fD)) fun _ z => z⟩
 ·exact q0.elim
end
end Y
namespace Y
open PySem PySem.Spec PyProof.Rows L2
def TS0_ (R : Fr) (W : XK) (ev : G → M (Fl × G)) : TS := fun D σ H => ∃ g, RelS R R.F0 g σ H ∧ H = R.H0 ∧ wp (ev g) (FlC R R.F0 D) (ExW R W)
theorem fnD0 {P : Program} {w : World} {K : PySem.W.Frag} {mg : Str → Option Value} {base : Heap} {x qual : Str} {params : Arguments} {body : List Stmt} {scope : Scope} {dvs : List V} {kws : List (Str × V)} {f : Addr} {fd : FuncData} {N ps : List Str} {k np nN : Nat} {io : Option Nat} {ev : G → M (Fl × G)}
  (Fd : FunD K x qual params body scope dvs kws f fd) (Sc : FnScope N ps scope) (hps : ps.length = np) (hN : N.length = nN)
  (hb : ∀ (cdv : Value), codeV K f = cdv → ∀ (A : Around), A.guards = some [] → ∀ (outer : List Env) (s : Shared) (H : Hp) (W : XK) (R : Fr), R.K = K → (io = none → R.io = []) → Room k (A.deeper (envOfC qual scope s.heap.objs.size f cdv)) → PSs (cxOf (RX.CX P w) P w K mg base N qual scope f cdv A outer s H W) body (TS0_ R W ev)) :
  FnG P w K mg base (RX.CX P w) (k + 1) f fd ps (spD K io np (runG io nN np ev)) := by
 have hple : ps.length ≤ N.length := by have := congrArg List.length Sc.pre; rw [List.length_take] at this; omega
 by_cases h100 : io = some 100
 ·subst h100
  rw [spD_dn]
  have no : ∀ vs H Q W, ¬ spDn K np (runG (some 100) nN np ev) vs H Q W := fun vs H Q W ⟨F, ds, a, c, T, m, k, ch, e, vs', _, _, _, _, _, _, q⟩ => by
   unfold runG at q
   rw [if_neg (by simp)] at q
   exact q
  exact FunD.okG Fd Sc (fun vs H Q W h => (no _ _ _ _ h).elim) fun cdv hcd A gd outer s H vs Q W hr hsp => (no _ _ _ _ hsp).elim
 rw [spD_old h100]
 refine FunD.okG Fd Sc (fun vs H Q W ⟨F, ds, _, _, h, _⟩ => by rw [hps]; exact h) fun cdv hcd A gd outer s H vs Q W hr hsp => ?_
 obtain ⟨F, ds, eF, tF, hn, hA, q⟩ := hsp
 refine ⟨_, hb cdv hcd A gd outer s H W ⟨K, H, F, ioL io vs⟩ rfl (fun e => by subst e; rfl) hr, ?_⟩
 have hl := argAt_len hA
 unfold runG at q
 obtain ⟨⟨hdl, _⟩, q1⟩ := ifNone q
 have hg : ent io 0 ds ++ List.replicate (nN - np) none = ent io 0 ds ++ List.replicate (N.length - ds.length) none := by rw [hN, hdl]
 rw [hg] at q1
 have hioA : ∀ p, ioA io vs = some p → ∃ j, (j, p) ∈ ioL io vs := fun p hp => by
  unfold ioA at hp
  cases io with
  | none => cases hp
  | some j =>
   dsimp only at hp
   split at hp
   ·rename_i q hq
    cases hp
    exact ⟨j, ioL_of rfl hq⟩
   ·cases hp
 refine ⟨_, rel_start (N := N) eF tF hA (by omega), rfl, wp_mono (wp_bnd q1) (fun (fl, g1) q2 => ?_) fun c hw d F' H' xd eF eH tb nF fr th => hw d F' H' xd eF eH tb nF (fun b u h1 ht h2 => fr b u h1 ht fun q hq e => ?_) th⟩
 ·dsimp only at q2
  cases ho : outD io g1 with
  | none => rw [ho] at q2; exact q2.elim
  | some o =>
   rw [ho] at q2
   dsimp only at q2
   cases fl with
   | nx => exact fun σ' F' H' _ r' => q2 .non F' H' (post_of hioA r' (At.non) ho)
   | bk => exact q2.elim
   | ct => exact q2.elim
   | rt s => exact fun v σ' F' H' _ r' h => q2 v F' H' (post_of hioA r' h ho)
 ·obtain ⟨_, _, h3⟩ := ioL_mem hq
  rw [← e] at h2
  exact h2 h3
section
variable {X : Cx} {R : Fr} {W : XK} {st : Stmt} {rest : List Stmt} {ev1 ev2 : G → M (Fl × G)} {q : Q} {k : Nat} {sc : Scope}
theorem Bg.tr (b : Bg q k X R W sc (fun _ => true)) {W' : WX} {pn : List (Addr × Obj)} {xe : Value → Shared → Prop} (tk : RX.Takes (X.tr pn xe) W') : Bg q k (X.tr pn xe) R (fun cls d H => ∀ σ : L2.St, σ.length = X.N.length → W' cls d σ H) sc (fun _ => true) where
 hK := b.hK
 hN := b.hN
 nd := b.nd
 calm := b.calm
 gd := b.gd
 room := b.room
 tk := fun u s' ⟨a, B, sI, pins, σ, H, cls, d, e, I, nb, up, sky, na, os, ag, w⟩ => tk u s' ⟨a, B, sI, pins, σ, H, cls, d, e, I, nb, up, sky, na, os, ag, w σ I.len⟩
 L := ⟨b.L.gl, b.L.mt, b.L.ini, b.L.bare⟩
 att := b.att
 isi := b.isi
 con := b.con
 kd := b.kd
 blt := b.blt
 cl := b.cl
 exc := b.exc
 hsc := b.hsc
 kind := b.kind
 fn := b.fn
 top := b.top
end
end Y
namespace Y
open PySem PySem.Spec PyProof.Rows L2
def Tabs.st (t : Tabs) : Ev := stOf t.glT t.mtT t.iniT t.conT t.attT t.kdT t.isiT t.isxT t.clT t.bareT t.tab
def Tabs.blt (t : Tabs) (x : Str) : Bool := t.bltT.contains x
theorem lookS_mem {α : Type} {l : List (Str × α)} {x : Str} {a : α} (h : lookS l x = some a) : (x, a) ∈ l := by
 unfold lookS at h
 cases q : l.find? (fun p => decide (p.1 = x)) with
 | none => rw [q] at h; cases h
 | some p =>
  rw [q] at h
  cases h
  have h1 := List.mem_of_find?_eq_some q
  have h2 := List.find?_some q
  have e : p.1 = x := of_decide_eq_true h2
  subst e
  exact h1
theorem strsB_ok : ∀ {l : List Value} {ss : List Str}, strsB l ss = true → Vals (ss.map V.str) l
 | [], [], _ => .nil
 | v :: l, s :: ss, h => by
  unfold strsB all2 at h
  rw [Bool.and_eq_true] at h
  obtain ⟨h1, h2⟩ := h
  refine .cons ?_ (strsB_ok h2)
  split at h1
  ·rename_i x t
   cases of_decide_eq_true h1
   exact ⟨t, rfl⟩
  ·cases h1
 | [], _ :: _, h => by cases h
 | _ :: _, [], h => by cases h
theorem tupStrB_ok {K : PySem.W.Frag} {b : Addr} {ss : List Str} (h : tupStrB K b ss = true) : SqT K (fun _ => none) b (ss.map V.str) := by
 unfold tupStrB at h
 split at h
 ·rename_i c od its n osl hl
  simp only [Bool.and_eq_true, decide_eq_true_eq] at h
  obtain ⟨⟨rfl, h2⟩, h3⟩ := h
  exact .inr ⟨_, its, n, hl, rfl, rfl, Nat.le_trans h2 (by decide), strsB_ok h3⟩
 ·cases h
theorem keys_find {es : List DictEntry} {ks : List Str} {z : Str} (h : all2 (fun (e : DictEntry) k => match e.key with | .str x _ => decide (x = k) | _ => false) es ks = true) (hz : z ∉ ks) : es.find? (·.key.isStr z) = none ∧ es.any (·.refKey) = false := by
 induction es generalizing ks with
 | nil => exact ⟨rfl, rfl⟩
 | cons e es ih =>
  cases ks with
  | nil => cases h
  | cons k ks =>
   unfold all2 at h
   rw [Bool.and_eq_true] at h
   obtain ⟨h1, h2⟩ := h
   obtain ⟨i1, i2⟩ := ih h2 fun m => hz (List.mem_cons_of_mem _ m)
   split at h1
   ·rename_i x t hk
    have e1 : x = k := of_decide_eq_true h1
    subst e1
    have hne : ¬ x = z := fun e => hz (by rw [← e]; exact List.mem_cons_self)
    refine ⟨?_, ?_⟩
    ·rw [List.find?_cons]
     have : e.key.isStr z = false := by
      rw [hk]
      simp [Value.isStr, hne]
     rw [this]
     exact i1
    ·rw [List.any_cons, i2]
     unfold DictEntry.refKey
     rw [hk]
     rfl
   ·cases h1
theorem lookup_mem {α β : Type} [BEq α] [LawfulBEq α] {l : List (α × β)} {x : α} {b : β} (h : l.lookup x = some b) : (x, b) ∈ l := by
 induction l with
 | nil => cases h
 | cons p l ih =>
  obtain ⟨a, c⟩ := p
  rw [List.lookup_cons] at h
  split at h
  ·rename_i he
   cases h
   rw [eq_of_beq he]
   exact List.mem_cons_self
  ·exact List.mem_cons_of_mem _ (ih h)
theorem lookup_none_mem {α β : Type} [BEq α] [LawfulBEq α] {l : List (α × β)} {x : α} (h : l.lookup x = none) : x ∉ l.map (·.1) := by
 induction l with
 | nil => simp
 | cons p l ih =>
  obtain ⟨a, c⟩ := p
  rw [List.lookup_cons] at h
  split at h
  ·cases h
  ·rename_i he
   intro hm
   rcases List.mem_cons.mp hm with z | z
   ·rw [z] at he
    simp at he
   ·exact ih h z
section
variable {P : Program} {w : World} {K : PySem.W.Frag} {mg : Str → Option Value} {h : Heap} {t : Tabs}
theorem eqA_ok {a b : Sum String Str} (h : eqA a b = true) : a = b := by
 unfold eqA at h
 split at h
 ·rw [eq_of_beq h]
 ·rw [of_decide_eq_true h]
 ·cases h
theorem eqT_ok {a b : Ty} (h : eqT a b = true) : a = b := by
 unfold eqT at h
 split at h
 ·rw [eq_of_beq h]
 ·rw [of_decide_eq_true h]
 ·cases h
theorem md_of (hK : K.In h) (G : h.Ns mainGlobals mg) (ok : t.ok K = true) (tb : ∀ p ∈ t.kdT, ∃ es n, KDict K w (He.ga K p.1) es n) : Md P w K mg t.st t.blt t.exB := by
 unfold Tabs.ok at ok
 simp only [Bool.and_eq_true, List.all_eq_true] at ok
 obtain ⟨⟨⟨⟨⟨⟨⟨⟨⟨⟨⟨hgl, hmt⟩, hini⟩, hcon⟩, hatt⟩, hisi⟩, hcl⟩, hex⟩, hblt⟩, hkd⟩, hba⟩, hisx⟩ := ok
 refine ⟨fun c f hc => ?_, ⟨fun a ty b e => ?_, fun c ty b e => ?_, fun c ty b e => ?_⟩, fun x d e => ?_, fun x kvs e => ?_, fun x hx => ?_, fun c hc => ?_, ⟨fun c hc _ X hXK hXm m j p p2 pos hg => ?_, fun hc => ?_, fun c hc => ?_⟩⟩
 ·obtain ⟨p, hp, h1⟩ := List.any_eq_true.mp hc
  simp only [Bool.and_eq_true, decide_eq_true_eq] at h1
  obtain ⟨rfl, rfl⟩ := h1
  obtain ⟨a1, a2⟩ := hatt p hp
  exact ⟨He.cls_ok a1, He.noat_ok a2⟩
 ·have e' : (t.isiT.find? fun p => eqA p.1 a && eqT p.2.1 ty).map (·.2.2) = some b := e
  cases q : t.isiT.find? (fun p => eqA p.1 a && eqT p.2.1 ty) with
  | none => rw [q] at e'; cases e'
  | some p =>
   rw [q] at e'
   cases e'
   have h1 := List.mem_of_find?_eq_some q
   have h2 := List.find?_some q
   rw [Bool.and_eq_true] at h2
   have h3 := hisi p h1
   unfold isiB at h3
   rw [Bool.and_eq_true, decide_eq_true_eq] at h3
   rw [← eqA_ok h2.1, ← eqT_ok h2.2]
   exact h3.1
 ·have e' : (t.isxT.find? fun p => decide (p.1 = c) && eqT p.2.1 ty).map (·.2.2) = some b := e
  cases q : t.isxT.find? (fun p => decide (p.1 = c) && eqT p.2.1 ty) with
  | none => rw [q] at e'; cases e'
  | some p =>
   rw [q] at e'
   cases e'
   have h1 := List.mem_of_find?_eq_some q
   have h2 := List.find?_some q
   rw [Bool.and_eq_true, decide_eq_true_eq] at h2
   have h3 := hisx p h1
   unfold isxB at h3
   simp only [Bool.and_eq_true, decide_eq_true_eq] at h3
   obtain ⟨h4, ⟨⟨⟨⟨⟨⟨b1, b2⟩, b3⟩, b4⟩, b5⟩, b6⟩, b7⟩, b8⟩ := h3
   rw [← h2.1, ← eqT_ok h2.2]
   exact ⟨⟨b1, b2, b3, b4, b5, b6, b7, b8⟩, h4⟩
 ·have e' : (t.isiT.find? fun p => eqA p.1 (.inr c) && eqT p.2.1 ty).map (·.2.2) = some b := e
  cases q : t.isiT.find? (fun p => eqA p.1 (.inr c) && eqT p.2.1 ty) with
  | none => rw [q] at e'; cases e'
  | some p =>
   have h1 := List.mem_of_find?_eq_some q
   have h2 := List.find?_some q
   rw [Bool.and_eq_true] at h2
   have h3 := hisi p h1
   unfold isiB at h3
   rw [Bool.and_eq_true] at h3
   have ea : p.1 = .inr c := eqA_ok h2.1
   have h4 := h3.2
   rw [ea] at h4
   unfold clB at h4
   simp only [Bool.and_eq_true, decide_eq_true_eq] at h4
   obtain ⟨⟨⟨⟨b1, b2⟩, b3⟩, b4⟩, b5⟩ := h4
   exact ⟨He.cls_ok b1, b2, b3, b4, b5⟩
 ·have h1 := hcon _ (lookS_mem e)
  unfold conB at h1
  cases d with
  | int i =>
   obtain ⟨tk, h2⟩ := He.int_ok hK G h1
   exact ⟨_, .int i, h2, ⟨tk, rfl⟩, .int i⟩
  | str z =>
   obtain ⟨tk, h2⟩ := He.str_ok hK G h1
   exact ⟨_, .str z, h2, ⟨tk, rfl⟩, .str z⟩
  | _ => cases h1
 ·have hm := lookS_mem e
  obtain ⟨⟨k1, k2⟩, k3⟩ := hkd _ hm
  refine ⟨He.glo_ok hK G k1, tb _ hm, fun z => ?_⟩
  cases hl : kvs.lookup z with
  | some ss =>
   dsimp only
   have h1 := k3 _ (lookup_mem hl)
   unfold kvB at h1
   dsimp only at h1
   split at h1
   ·rename_i b hb
    exact ⟨b, hb, tupStrB_ok h1⟩
   ·cases h1
  | none =>
   dsimp only
   have h1 := lookup_none_mem hl
   dsimp only at k2
   unfold keysB at k2
   unfold PySem.W.nsIn
   split at k2
   ·rename_i es n osl hlk
    obtain ⟨f1, f2⟩ := keys_find k2 h1
    rw [hlk]
    dsimp only
    rw [f1]
    dsimp only
    rw [f2]
    rfl
   ·cases k2
 ·exact He.free_ok hK G (hblt x (List.contains_iff_mem.mp hx))
 ·obtain ⟨y, hy, h1⟩ := List.any_eq_true.mp hc
  have e : y = c := of_decide_eq_true h1
  subst e
  exact He.glo_ok hK G (hcl y hy)
 ·obtain ⟨⟨⟨a1, a2⟩, a3⟩, _⟩ := hex c (List.contains_iff_mem.mp hc)
  obtain ⟨b1, b2, b3, b4⟩ := He.exc_ok a2
  subst hXK
  exact L2N.pmk_own PySem.F.excBase_ValueError b1 (by rw [hXm]; exact He.glo_ok hK G a1) b2 (raises_own b3 b4) hg (okN_ok a3).1
 ·have := (hex _ (List.contains_iff_mem.mp hc)).2
  exact absurd this (by decide)
 ·have := (hex _ (List.contains_iff_mem.mp hc)).2
  have e : flagN (cliN c) = true := by
   unfold flagN cliN
   have : (("." : Str) ++ c).cps[0]? = some 46 := by
    show ((("." : Str).cps ++ c.cps)[0]?) = some 46
    rw [Array.getElem?_append_left (by decide)]
    rfl
   rw [this]
   rfl
  rw [e] at this
  cases this
end
end Y
namespace Y
open PySem PySem.Spec PyProof.Rows L2
section
variable {P : Program} {w : World} {K : PySem.W.Frag} {mg : Str → Option Value} {h : Heap} {t : Tabs} {used : Nat → Bool} {pl : Nat → Pl}
theorem nm_of (hK : K.In h) (G : h.Ns mainGlobals mg) (ok : t.ok K = true) (h1 : ∀ p ∈ t.glT, used p.2 = true ∧ (pl p.2).f = He.ga K p.1) (h2 : ∀ p ∈ t.mtT, used p.2 = true ∧ (pl p.2).f = He.ma K (He.ga K p.1.1) p.1.2)
  (h3 : ∀ p ∈ t.iniT, used p.2 = true ∧ (pl p.2).f = He.ma K (He.ga K p.1) "__init__") : Nm K mg t.st used pl := by
 unfold Tabs.ok at ok
 simp only [Bool.and_eq_true, List.all_eq_true] at ok
 obtain ⟨⟨⟨⟨⟨⟨⟨⟨⟨⟨⟨hgl, hmt⟩, hini⟩, hcon⟩, hatt⟩, hisi⟩, hcl⟩, hex⟩, hblt⟩, hkd⟩, hba⟩, hisx⟩ := ok
 refine ⟨fun x fid e => ?_, fun c m fid e => ?_, fun c fid e => ?_, fun c e => ?_⟩
 ·have hm := lookS_mem e
  obtain ⟨a1, a2⟩ := hgl _ hm
  obtain ⟨u1, u2⟩ := h1 _ hm
  dsimp only at u1 u2 a1 a2
  refine ⟨u1, ?_, ?_⟩
  ·rw [u2]; exact He.glo_ok hK G a1
  ·rw [u2]; exact He.keep_ok a2
 ·have e' : (t.mtT.find? fun p => decide (p.1.1 = c) && decide (p.1.2 = m)).map (·.2) = some fid := e
  cases q : t.mtT.find? (fun p => decide (p.1.1 = c) && decide (p.1.2 = m)) with
  | none => rw [q] at e'; cases e'
  | some p =>
   rw [q] at e'
   cases e'
   have m1 := List.mem_of_find?_eq_some q
   have m2 := List.find?_some q
   simp only [Bool.and_eq_true, decide_eq_true_eq] at m2
   obtain ⟨rfl, rfl⟩ := m2
   obtain ⟨a1, a2⟩ := hmt _ m1
   obtain ⟨u1, u2⟩ := h2 _ m1
   refine ⟨u1, He.cls_ok a1, ?_⟩
   rw [u2]
   exact He.meth_ok a2
 ·have hm := lookS_mem e
  obtain ⟨a1, a2⟩ := hini _ hm
  obtain ⟨u1, u2⟩ := h3 _ hm
  dsimp only at u1 u2 a1 a2
  refine ⟨u1, He.glo_ok hK G a1, ?_⟩
  rw [u2]
  exact He.mkr_ok a2
 ·have e' : (t.bareT.any fun x => decide (x = c)) = true := e
  rw [List.any_eq_true] at e'
  obtain ⟨x, hx, hxc⟩ := e'
  have hxc : x = c := of_decide_eq_true hxc
  subst hxc
  have a1 := hba x hx
  unfold bareB at a1
  simp only [Bool.and_eq_true, decide_eq_true_eq] at a1
  obtain ⟨⟨⟨⟨b1, b2⟩, b3⟩, b4⟩, b5⟩ := a1
  exact ⟨He.glo_ok hK G b1, b2, b3, b4, b5⟩
end
def fnScB (N Ps : List Str) (sc : Scope) : Bool := isFn sc && !sc.isCoroutine && !sc.isGenerator && decide N.Nodup && decide (N.take Ps.length = Ps) && (Ps.all fun x => locB sc x) && (sc.names.all fun y => match y.2 with | .free => false | _ => true)
theorem fnScB_ok {N Ps : List Str} {sc : Scope} (h : fnScB N Ps sc = true) : FnScope N Ps sc := by
 unfold fnScB at h
 simp only [Bool.and_eq_true, Bool.not_eq_true', decide_eq_true_eq, List.all_eq_true] at h
 obtain ⟨⟨⟨⟨⟨⟨h1, h2⟩, h3⟩, h4⟩, h5⟩, h6⟩, h7⟩ := h
 refine ⟨isFn_ok h1, h2, h3, h4, h5, fun x hx => locB_ok (h6 x hx), fun y hy e => ?_⟩
 have := h7 y hy
 rw [e] at this
 cases this
theorem binds0 {K : PySem.W.Frag} {st : Ev} {fid : Nat} {x qual : Str} {params : Arguments} {body : List Stmt} {scope : Scope} {kws : List (Str × V)} {f : Addr} {fd : FuncData} {ps : List Str} (F : FunD K x qual params body scope [] kws f fd) (hd : st.dfl fid = [])
  (h : ∀ (kV doc pm : Value) (an : Option Addr) (cdv ct : Value) (us : List Value), us.length = ps.length → bindArgs (PySem.W.fnOf x qual params body scope .none kV doc pm an cdv ct) ⟨us, []⟩ = pure (ps.zip us)) :
  ∀ n, n + (moreOf st fid n).length = st.np fid → ∃ (ds : List Value) (dvs : List V), Binds K fd ps ds ∧ Vals dvs ds ∧ Paired (At K (fun _ => none)) dvs (moreOf st fid n) := fun n hn => by
 have e : moreOf st fid n = [] := by
  unfold moreOf
  rw [hd]
  simp
 rw [e]
 exact ⟨[], [], F.bindsN h, .nil, .nil⟩
theorem binds1d {K : PySem.W.Frag} {st : Ev} {fid m : Nat} {i : Int} {x qual : Str} {params : Arguments} {body : List Stmt} {scope : Scope} {kws : List (Str × V)} {f : Addr} {fd : FuncData} {ps : List Str} (F : FunD K x qual params body scope [.int i] kws f fd) (hd : st.dfl fid = [.int i]) (hnp : st.np fid = m + 1) (hps : ps.length = m + 1)
  (h1 : ∀ (T : Addr) (kV doc pm : Value) (an : Option Addr) (cdv ct : Value) (us its : List Value), us.length = m → its.length = 1 →
   ∃ k, bindArgs (PySem.W.fnOf x qual params body scope (.ref T) kV doc pm an cdv ct) ⟨us, []⟩ = seqItems? (.ref T) >>= k ∧ k (some its.toArray) = pure (ps.zip (us ++ its.drop 0)))
  (h2 : ∀ (T : Addr) (kV doc pm : Value) (an : Option Addr) (cdv ct : Value) (us its : List Value), us.length = m + 1 → its.length = 1 →
   ∃ k, bindArgs (PySem.W.fnOf x qual params body scope (.ref T) kV doc pm an cdv ct) ⟨us, []⟩ = seqItems? (.ref T) >>= k ∧ k (some its.toArray) = pure (ps.zip (us ++ its.drop 1))) :
  ∀ n, n + (moreOf st fid n).length = st.np fid → ∃ (ds : List Value) (dvs : List V), Binds K fd ps ds ∧ Vals dvs ds ∧ Paired (At K (fun _ => none)) dvs (moreOf st fid n) := fun n hn => by
 unfold moreOf at hn ⊢
 rw [hd, hnp] at hn ⊢
 simp only [List.length_cons, List.length_nil, List.length_drop] at hn
 by_cases e : n = m
 ·subst e
  obtain ⟨ds, r, hb⟩ := F.binds1 n 0 (by simp) (by simp [hps]) h1
  refine ⟨ds, _, hb, r, ?_⟩
  simp only [List.length_cons, List.length_nil]
  have : 0 + 1 + n - (n + 1) = 0 := by omega
  rw [this]
  exact .cons (.int i) .nil
 ·have e2 : n = m + 1 := by omega
  subst e2
  obtain ⟨ds, r, hb⟩ := F.binds1 (m + 1) 1 (by simp) (by simp [hps]) h2
  refine ⟨ds, _, hb, r, ?_⟩
  simp only [List.length_cons, List.length_nil]
  have : 0 + 1 + (m + 1) - (m + 1) = 1 := by omega
  rw [this]
  exact .nil
def fdOf (K : PySem.W.Frag) (f : Addr) : FuncData := match K.lookup f with
 | some ⟨_, _, .func fd, _⟩ => fd
 | _ => PySem.W.fnOf "" "" default [] default .none .none .none .none none .none .none
theorem fdOf_ok {K : PySem.W.Frag} {x qual : Str} {params : Arguments} {body : List Stmt} {scope : Scope} {dvs : List V} {kws : List (Str × V)} {f : Addr} (h : ∃ fd, FunD K x qual params body scope dvs kws f fd) : FunD K x qual params body scope dvs kws f (fdOf K f) := by
 obtain ⟨fd, F⟩ := h
 have e : fdOf K f = fd := by
  obtain ⟨oc, od, dV, kV, doc, pm, an, cdv, ct, osl, e1, lk, _⟩ := F.ex
  unfold fdOf
  rw [lk]
 rw [e]
 exact F
end Y
namespace Y
open PySem PySem.Spec PyProof.Rows L2
def bookC (q : Q) (n : Nat) (sc : Scope) (sts : List Stmt) (b0 b1 : S) (bs : List S) : Bool := match sts with
 | st0 :: st1 :: .Assign [.Attribute x0 f1 _] (.Dict [] [] _) _ :: .For (.Name n2 p9) x1 [.Assign [.Subscript (.Attribute x0' f2 _) (.Attribute (.Name n3 p8) f3 _) _] (.Name n4 p7) _] [] _ :: rest =>
  chkS q n sc (fun _ => true) st0 b0 && chkS q n sc (fun _ => true) st1 b1 && decide (f1 = "table") && decide (f2 = "table") && decide (f3 = "name") && decide (n3 = n2) && decide (n4 = n2) && varB q sc x0 0 && varB q sc x0' 0 && varB q sc x1 1 &&
   varB q sc (.Name n2 p7) 2 && varB q sc (.Name n2 p8) 2 && nmB q sc (fun _ => true) (.Name n2 p9) 2 && notSet x1 && all2 (chkS q n sc (fun _ => true)) rest bs
 | _ => false
def evBookI (b0 b1 : S) (bs : List S) (E : Ev) : G → M (Fl × G) := seqM (evS E b0) (seqM (evS E b1) (seqM (evBook E) (evSs E bs)))
theorem bookC_ok {q : Q} {k n : Nat} {X : Cx} {R : Fr} {W : XK} {sc : Scope} {sts : List Stmt} {b0 b1 : S} {bs : List S} (b : Bg q k X R W sc (fun _ => true)) (h : bookC q n sc sts b0 b1 bs = true) : PSs X sts (TS_ R W (evBookI b0 b1 bs q.E)) := by
 unfold bookC at h
 split at h
 ·simp only [Bool.and_eq_true, decide_eq_true_eq] at h
  obtain ⟨⟨⟨⟨⟨⟨⟨⟨⟨⟨⟨⟨⟨⟨h1, h2⟩, rfl⟩, rfl⟩, rfl⟩, rfl⟩, rfl⟩, h8⟩, h9⟩, h10⟩, h11⟩, h12⟩, h13⟩, h14⟩, h15⟩ := h
  have hu := b.hu
  exact pss_seq (chkS_ok q k n _ _ b h1) (pss_seq (chkS_ok q k n _ _ b h2) (pss_book b.att b.hK b.calm (by omega) (varB_ok b h8).1 (varB_ok b.nox h9).1 (varB_ok b.nox h10).1 (varB_ok b.nox h11).1 (varB_ok b.nox h12).1 (tgB_ok (t := .one 2) b.nox h13) (varB_ok b h9).2 h14
   (pss_of (fun st s h => chkS_ok q k n st s b h) h15)))
 ·cases h
end Y
namespace Y
open PySem PySem.Spec L2
theorem bnd_congr {α β : Type} {m m' : M α} {f : α → M β} (h : m = m') : M.bnd m f = M.bnd m' f := by rw [h]
def C.isV : C → Bool
 | .var _ => true
 | _ => false
section
variable {E : Ev} {g g0 : G} {a0 : Option Sl}
@[simp] theorem G.get_nil (i : Nat) : G.get [] i = none := rfl
@[simp] theorem G.get_zero (s : Option Sl) (g : G) : G.get (s :: g) 0 = s := by cases s <;> rfl
@[simp] theorem G.get_succ (s : Option Sl) (g : G) (i : Nat) : G.get (s :: g) (i + 1) = G.get g i := rfl
@[simp] theorem G.put_zero (s : Option Sl) (g : G) (t : Sl) : G.put (s :: g) 0 t = some t :: g := rfl
@[simp] theorem G.put_succ (s : Option Sl) (g : G) (i : Nat) (t : Sl) : G.put (s :: g) (i + 1) t = s :: G.put g i t := rfl
@[simp] theorem opt_bnd {α β : Type} (o : Option α) (f : α → M β) : M.bnd (M.opt o) f = (match o with | some a => f a | none => none) := by cases o <;> rfl
@[simp] theorem e_var (i : Nat) : evE E (.var i) (a0 :: g0) = takeV (a0 :: g0) i := by rw [evE] <;> rfl
@[simp] theorem e_int (i : Int) : evE E (.int i) (a0 :: g0) = some (.ok (⟨.int i, .fr, true⟩, (a0 :: g0))) := by rw [evE] <;> rfl
@[simp] theorem e_str (s : Str) : evE E (.str s) (a0 :: g0) = some (.ok (⟨.str s, .fr, true⟩, (a0 :: g0))) := by rw [evE] <;> rfl
@[simp] theorem e_bl (b : Bool) : evE E (.bl b) (a0 :: g0) = some (.ok (⟨.bl b, .fr, true⟩, (a0 :: g0))) := by rw [evE] <;> rfl
@[simp] theorem e_non : evE E .non (a0 :: g0) = some (.ok (⟨.non, .fr, true⟩, (a0 :: g0))) := by rw [evE] <;> rfl
@[simp] theorem e_con (x : Str) : evE E (.con x) (a0 :: g0) = match E.con x with
  | some d => if d.atom then some (.ok (⟨d, .fr, true⟩, (a0 :: g0))) else none
  | none => none := by rw [evE] <;> rfl
@[simp] theorem e_tup (cs : List C) : evE E (.tup cs) (a0 :: g0) = M.bnd (evV E cs (a0 :: g0)) fun (ss, g1) => if ss.length ≤ lim then some (.ok (⟨.tup (dsL ss), .fr, ss.all (·.n)⟩, g1)) else none := by rw [evE] <;> rfl
@[simp] theorem e_lst (cs : List C) : evE E (.lst cs) (a0 :: g0) = M.bnd (evV E cs (a0 :: g0)) fun (ss, g1) => if ss.length ≤ lim then some (.ok (⟨.lst (dsL ss), .ow, ss.all (·.n)⟩, g1)) else none := by rw [evE] <;> rfl
@[simp] theorem e_dnew : evE E .dnew (a0 :: g0) = some (.ok (⟨.dct [] [], .ow, true⟩, (a0 :: g0))) := by rw [evE] <;> rfl
@[simp] theorem e_dnewT : evE E .dnewT (a0 :: g0) = some (.ok (⟨.dctT [] [], .ow, true⟩, (a0 :: g0))) := by rw [evE] <;> rfl
@[simp] theorem e_bin (op : BOp) (a b : C) : evE E (.bin op a b) (a0 :: g0) = op2 a b (evE E a) (evE E b) (resBin op) (a0 :: g0) := by rw [evE] <;> rfl
@[simp] theorem e_neg (a : C) : evE E (.neg a) (a0 :: g0) = op1 a (evE E a) negS (a0 :: g0) := by rw [evE] <;> rfl
@[simp] theorem e_cmp (op : KOp) (a b : C) : evE E (.cmp op a b) (a0 :: g0) = op2 a b (evE E a) (evE E b) (cmpS op) (a0 :: g0) := by rw [evE] <;> rfl
@[simp] theorem e_and (a b : C) : evE E (.and_ a b) (a0 :: g0) = M.bnd (boolE (evE E a) (a0 :: g0)) fun (k, g1) => if k then M.bnd (boolE (evE E b) g1) fun (k, g2) => some (.ok (atm (.bl k), g2)) else some (.ok (atm (.bl false), g1)) := by rw [evE] <;> rfl
@[simp] theorem e_or (a b : C) : evE E (.or_ a b) (a0 :: g0) = M.bnd (boolE (evE E a) (a0 :: g0)) fun (k, g1) => if k then some (.ok (atm (.bl true), g1)) else M.bnd (boolE (evE E b) g1) fun (k, g2) => some (.ok (atm (.bl k), g2)) := by rw [evE] <;> rfl
@[simp] theorem e_not (a : C) : evE E (.not_ a) (a0 :: g0) = M.bnd (boolE (evE E a) (a0 :: g0)) fun (k, g1) => some (.ok (atm (.bl (!k)), g1)) := by rw [evE] <;> rfl
@[simp] theorem e_ife (t a b : C) : evE E (.ife t a b) (a0 :: g0) = M.bnd (tst t (evE E t) (a0 :: g0)) fun (k, g1) => if k then evE E a g1 else evE E b g1 := by rw [evE] <;> rfl
@[simp] theorem e_idx (a b : C) : evE E (.idx a b) (a0 :: g0) = op2 a b (evE E a) (evE E b) idxS (a0 :: g0) := by rw [evE] <;> rfl
@[simp] theorem e_lrg (a : C) : evE E (.lrg a) (a0 :: g0) = op1 a (evE E a) lrgS (a0 :: g0) := by rw [evE] <;> rfl
@[simp] theorem e_sset (a : C) : evE E (.sset a) (a0 :: g0) = op1 a (evE E a) ssetS (a0 :: g0) := by rw [evE] <;> rfl
@[simp] theorem e_rev (a : C) : evE E (.rev a) (a0 :: g0) = op1 a (evE E a) revS (a0 :: g0) := by rw [evE] <;> rfl
@[simp] theorem e_att (a : C) (f : Str) : evE E (.att a f) (a0 :: g0) = op1 a (evE E a) (attS E f) (a0 :: g0) := by rw [evE] <;> rfl
@[simp] theorem e_isi (a : C) (t : Ty) : evE E (.isi a t) (a0 :: g0) = op1 a (evE E a) (isiS E t) (a0 :: g0) := by rw [evE] <;> rfl
@[simp] theorem e_cnt (o a : C) : evE E (.cnt o a) (a0 :: g0) = op2p isLst o a (evE E o) (evE E a) cntS (a0 :: g0) := by rw [evE] <;> rfl
@[simp] theorem e_index (o a : C) : evE E (.index o a) (a0 :: g0) = op2p isLst o a (evE E o) (evE E a) indexS (a0 :: g0) := by rw [evE] <;> rfl
@[simp] theorem e_dget (o a : C) : evE E (.dget o a) (a0 :: g0) = op2p isDct o a (evE E o) (evE E a) dgetS (a0 :: g0) := by rw [evE] <;> rfl
@[simp] theorem e_kget (x : Str) (a : C) : evE E (.kget x a) (a0 :: g0) = op1 a (evE E a) (kgetS E x) (a0 :: g0) := by rw [evE] <;> rfl
@[simp] theorem e_kin (neg : Bool) (x : Str) (a : C) : evE E (.kin neg x a) (a0 :: g0) = op1 a (evE E a) (kinS E neg x) (a0 :: g0) := by rw [evE] <;> rfl
@[simp] theorem e_call (f : Nat) (args : List C) : evE E (.call f args) (a0 :: g0) = M.bnd (evA E (E.io f) 0 args (a0 :: g0)) fun (as, g1) => doCall (E.fn f) (E.io f) (E.np f) (moreOf E f args.length) as g1 := by rw [evE] <;> rfl
@[simp] theorem e_bi (b : BI) (args : List C) : evE E (.bi b args) (a0 :: g0) = M.bnd (evOs E args (a0 :: g0)) fun (os, g1) => match os.mapM (·.get g1) with
  | some ss => match biD b ss with
   | some s => some (.ok (s, g1))
   | none => none
  | none => none := by rw [evE] <;> rfl
@[simp] theorem e_slc (a : C) (lo hi : Option C) : evE E (.slc a lo hi) (a0 :: g0) = M.bnd (opd a (evE E a) (a0 :: g0)) fun (oa, g1) => M.bnd (evP E lo g1) fun (l, g2) => M.bnd (evP E hi g2) fun (h, g3) => match oa.get g3 with
  | some x => match slcS l h x with
   | some s => some (.ok (s, g3))
   | none => none
  | none => none := by rw [evE] <;> rfl
@[simp] theorem e_chain (op op' : KOp) (a b c : C) : evE E (.chain op op' a b c) (a0 :: g0) = M.bnd (opd a (evE E a) (a0 :: g0)) fun (oa, g1) => M.bnd (opd b (evE E b) g1) fun (ob, g2) => match oa.get g2, ob.get g2 with
  | some x, some y => match x.d.cmp op y.d with
   | some true => M.bnd (opd c (evE E c) g2) fun (oc, g3) => match ob.get g3, oc.get g3 with
    | some y, some z => match y.d.cmp op' z.d with
     | some k => some (.ok (atm (.bl k), g3))
     | none => none
    | _, _ => none
   | some false => some (.ok (atm (.bl false), g2))
   | none => none
  | _, _ => none := by rw [evE] <;> rfl
@[simp] theorem v_nil : evV E [] (a0 :: g0) = some (.ok ([], (a0 :: g0))) := by rw [evV] <;> rfl
@[simp] theorem v_cons (c : C) (cs : List C) : evV E (c :: cs) (a0 :: g0) = M.bnd (evE E c (a0 :: g0)) fun (s, g1) => M.bnd (evV E cs g1) fun (ss, g2) => some (.ok (s.frz :: ss, g2)) := by rw [evV] <;> rfl
@[simp] theorem o_nil : evOs E [] (a0 :: g0) = some (.ok ([], (a0 :: g0))) := by rw [evOs] <;> rfl
@[simp] theorem o_cons (c : C) (cs : List C) : evOs E (c :: cs) (a0 :: g0) = M.bnd (opd c (evE E c) (a0 :: g0)) fun (o, g1) => M.bnd (evOs E cs g1) fun (os, g2) => some (.ok (o :: os, g2)) := by rw [evOs] <;> rfl
@[simp] theorem a_nil (io : Option Nat) (j : Nat) : evA E io j [] (a0 :: g0) = some (.ok ([], (a0 :: g0))) := by rw [evA] <;> rfl
@[simp] theorem a_cons (io : Option Nat) (j : Nat) (c : C) (cs : List C) : evA E io j (c :: cs) (a0 :: g0) = M.bnd (arg1 io j c (evE E c) (a0 :: g0)) fun (a, g1) => M.bnd (evA E io (j + 1) cs g1) fun (as, g2) => some (.ok (a :: as, g2)) := by rw [evA] <;> rfl
@[simp] theorem p_none : evP E none (a0 :: g0) = some (.ok (none, (a0 :: g0))) := by rw [evP] <;> rfl
@[simp] theorem p_some (c : C) : evP E (some c) (a0 :: g0) = M.bnd (evE E c (a0 :: g0)) fun (s, g1) => match s.d with
  | .int i => some (.ok (some i, g1))
  | _ => none := by rw [evP] <;> rfl
@[simp] theorem to_none : evTO E none (a0 :: g0) = some (.ok (true, (a0 :: g0))) := by rw [evTO] <;> rfl
@[simp] theorem to_some (c : C) : evTO E (some c) (a0 :: g0) = tst c (evE E c) (a0 :: g0) := by rw [evTO] <;> rfl
@[simp] theorem s_asg (i : Nat) (c : C) : evS E (.asg i c) (a0 :: g0) = M.bnd (evE E c (a0 :: g0)) fun (s, g1) => match setSlot g1 i s with
  | some g2 => some (.ok (.nx, g2))
  | none => none := by rw [evS] <;> rfl
@[simp] theorem s_asgT (is : List Nat) (c : C) : evS E (.asgT is c) (a0 :: g0) = M.bnd (evE E c (a0 :: g0)) fun (s, g1) => match s.d with
  | .tup ds => match putAll g1 is ds s.n with
   | some g2 => some (.ok (.nx, g2))
   | none => none
  | _ => none := by rw [evS] <;> rfl
@[simp] theorem s_par2 (i j : Nat) (a b : C) : evS E (.par2 i j a b) (a0 :: g0) = M.bnd (evE E a (a0 :: g0)) fun (s, g1) => M.bnd (evE E b g1) fun (t, g2) => if i = j then none else match setSlot g2 i s with
  | some g3 => match setSlot g3 j t with
   | some g4 => some (.ok (.nx, g4))
   | none => none
  | none => none := by rw [evS] <;> rfl
@[simp] theorem s_aug (i : Nat) (op : BOp) (c : C) : evS E (.aug i op c) (a0 :: g0) = match G.get (a0 :: g0) i with
  | some ⟨.int x, .fr, _⟩ => M.bnd (evE E c (a0 :: g0)) fun (s, g1) => match g1.get i, s.d with
   | some ⟨.int _, .fr, _⟩, .int y => match D.bin op (.int x) (.int y) with
    | some d => if op = .add ∨ op = .sub then some (.ok (.nx, g1.put i (atm d))) else none
    | none => none
   | _, _ => none
  | _ => none := by rw [evS] <;> rfl
@[simp] theorem s_setI (i : Nat) (k v : C) : evS E (.setI i k v) (a0 :: g0) = M.bnd (evE E v (a0 :: g0)) fun (s, g1) => if (g1.get i).isSome = true then M.bnd (opd k (evE E k) g1) fun (o, g2) => (match o.get g2 with
  | some y => mutSlot g2 i (fun x => x.setI y.d s.d) s.n
  | none => none) else none := by rw [evS] <;> rfl
@[simp] theorem s_setA (i : Nat) (f : Str) (v : C) : evS E (.setA i f v) (a0 :: g0) = M.bnd (evE E v (a0 :: g0)) fun (s, g1) => mutSlot g1 i (fun x => x.setA E f s.d) s.n := by rw [evS] <;> rfl
@[simp] theorem s_app (i : Nat) (c : C) : evS E (.app i c) (a0 :: g0) = if ownL (a0 :: g0) i then M.bnd (evE E c (a0 :: g0)) fun (s, g1) => mutSlot g1 i (D.app s.d) s.n else none := by rw [evS] <;> rfl
@[simp] theorem s_ext (i : Nat) (c : C) : evS E (.ext i c) (a0 :: g0) = if ownL (a0 :: g0) i then M.bnd (evE E c (a0 :: g0)) fun (s, g1) => mutSlot g1 i (D.ext s.d) s.n else none := by rw [evS] <;> rfl
@[simp] theorem s_expr (c : C) : evS E (.expr c) (a0 :: g0) = M.bnd (evE E c (a0 :: g0)) fun (_, g1) => some (.ok (.nx, g1)) := by rw [evS] <;> rfl
@[simp] theorem s_ife (t : C) (a b : List S) : evS E (.ife t a b) (a0 :: g0) = M.bnd (tst t (evE E t) (a0 :: g0)) fun (k, g1) => if k then evSs E a g1 else evSs E b g1 := by rw [evS] <;> rfl
def retV (c : C) (g : G) : M (Fl × G) := match c with
 | .var i => (match G.get g i with
  | some ⟨d, .ow, n⟩ => some (.ok (.rt ⟨d, .ow, n⟩, g.set i none))
  | some ⟨d, .fr, n⟩ => some (.ok (.rt ⟨d, .fr, n || d.atom⟩, g))
  | _ => none)
 | _ => none
@[simp] theorem retV_var (i : Nat) : retV (.var i) (a0 :: g0) = match G.get (a0 :: g0) i with
  | some ⟨d, .ow, n⟩ => some (.ok (.rt ⟨d, .ow, n⟩, (a0 :: g0).set i none))
  | some ⟨d, .fr, n⟩ => some (.ok (.rt ⟨d, .fr, n || d.atom⟩, (a0 :: g0)))
  | _ => none := rfl
theorem s_retv (i : Nat) : evS E (.ret (.var i)) (a0 :: g0) = retV (.var i) (a0 :: g0) := by
 rw [evS, e_var]
 unfold takeV retV
 dsimp only
 cases G.get (a0 :: g0) i with
 | none => rfl
 | some s => obtain ⟨d, m, n⟩ := s; cases m <;> rfl
@[simp] theorem s_ret (c : C) : evS E (.ret c) (a0 :: g0) = bif c.isV then retV c (a0 :: g0) else M.bnd (evE E c (a0 :: g0)) fun (s, g1) => some (.ok (.rt s, g1)) := by
 cases c <;> first | exact s_retv _ | rfl
@[simp] theorem s_retN : evS E .retN (a0 :: g0) = some (.ok (.rt (atm .non), (a0 :: g0))) := by rw [evS] <;> rfl
@[simp] theorem s_raise (c : Str) : evS E (.raise c) (a0 :: g0) = some (.ex c) := by rw [evS] <;> rfl
@[simp] theorem s_pass : evS E .pass (a0 :: g0) = some (.ok (.nx, (a0 :: g0))) := by rw [evS] <;> rfl
@[simp] theorem s_brk : evS E .brk (a0 :: g0) = some (.ok (.bk, (a0 :: g0))) := by rw [evS] <;> rfl
@[simp] theorem s_cont : evS E .cont (a0 :: g0) = some (.ok (.ct, (a0 :: g0))) := by rw [evS] <;> rfl
@[simp] theorem s_while (t : C) (body : List S) : evS E (.while_ t body) (a0 :: g0) = M.nox (whileL (evT E t) (evSs E body) whileN (a0 :: g0)) := by rw [evS] <;> rfl
@[simp] theorem ss_nil : evSs E [] (a0 :: g0) = some (.ok (.nx, (a0 :: g0))) := by rw [evSs] <;> rfl
@[simp] theorem ss_cons (s : S) (ss : List S) : evSs E (s :: ss) (a0 :: g0) = M.bnd (evS E s (a0 :: g0)) fun (fl, g1) => match fl with
  | .nx => evSs E ss g1
  | fl => some (.ok (fl, g1)) := by rw [evSs] <;> rfl
def opdV (c : C) (g : G) : M (Op × G) := match c with
 | .var i => (match g.get i with
  | some _ => some (.ok (.slot i, g))
  | none => none)
 | _ => none
@[simp] theorem opdV_var (i : Nat) : opdV (.var i) (a0 :: g0) = match G.get (a0 :: g0) i with
  | some _ => some (.ok (.slot i, a0 :: g0))
  | none => none := rfl
@[simp] theorem opd_e {ev : G → M (Sl × G)} {c : C} : opd c ev (a0 :: g0) = bif c.isV then opdV c (a0 :: g0) else M.bnd (ev (a0 :: g0)) fun (s, g1) => some (.ok (.val s.frz, g1)) := by
 cases c <;> rfl
@[simp] theorem tst_e {c : C} {ev : G → M (Sl × G)} : tst c ev (a0 :: g0) = M.bnd (opd c ev (a0 :: g0)) fun (o, g1) => match o.get g1 with
 | some s => match s.d.truth with
  | some k => some (.ok (k, g1))
  | none => none
 | none => none := rfl
@[simp] theorem op1_e {a : C} {ea : G → M (Sl × G)} {f : Sl → Option Sl} : op1 a ea f (a0 :: g0) = M.bnd (opd a ea (a0 :: g0)) fun (oa, g1) => match oa.get g1 with
  | some x => match f x with
   | some s => some (.ok (s, g1))
   | none => none
  | none => none := rfl
@[simp] theorem op2_e {a b : C} {ea eb : G → M (Sl × G)} {f : Sl → Sl → Option Sl} : op2 a b ea eb f (a0 :: g0) = M.bnd (opd a ea (a0 :: g0)) fun (oa, g1) => M.bnd (opd b eb g1) fun (ob, g2) => match oa.get g2, ob.get g2 with
  | some x, some y => match f x y with
   | some s => some (.ok (s, g2))
   | none => none
  | _, _ => none := rfl
@[simp] theorem boolE_e {ev : G → M (Sl × G)} : boolE ev (a0 :: g0) = M.bnd (ev (a0 :: g0)) fun (s, g1) => match s.d with
 | .bl k => some (.ok (k, g1))
 | _ => none := rfl
def argIo (c : C) (ev : G → M (Sl × G)) (g : G) : M (Ar × G) := match c with
  | .var i => (match g.get i with
   | some ⟨_, .fr, _⟩ => none
   | some _ => some (.ok (Ar.slot i, g))
   | none => none)
  | _ => M.bnd (ev g) fun (s, g1) => if s.m = .ow then some (.ok (Ar.tmp s, g1)) else none
@[simp] theorem argIo_var {ev : G → M (Sl × G)} (i : Nat) : argIo (.var i) ev (a0 :: g0) = match G.get (a0 :: g0) i with
   | some ⟨_, .fr, _⟩ => none
   | some _ => some (.ok (Ar.slot i, a0 :: g0))
   | none => none := rfl
@[simp] theorem arg_e {io : Option Nat} {j : Nat} {c : C} {ev : G → M (Sl × G)} : arg1 io j c ev (a0 :: g0) = if io = some j then argIo c ev (a0 :: g0) else M.bnd (ev (a0 :: g0)) fun (s, g1) => some (.ok (Ar.val s.frz, g1)) := rfl
@[simp] theorem take_v {i : Nat} : takeV (a0 :: g0) i = match G.get (a0 :: g0) i with
 | some ⟨d, .fr, n⟩ => some (.ok (⟨d, .fr, n || d.atom⟩, a0 :: g0))
 | some ⟨d, .ow, n⟩ => some (.ok (⟨d, .fr, n⟩, G.put (a0 :: g0) i ⟨d, .fr, n⟩))
 | _ => none := rfl
@[simp] theorem op_val (s : Sl) : Op.get g (.val s) = some s := rfl
@[simp] theorem op_slot (i : Nat) : Op.get (a0 :: g0) (.slot i) = (G.get (a0 :: g0) i).map fun s => ⟨s.d, s.m, s.n || s.d.atom⟩ := rfl
@[simp] theorem frz_mk (d : D) (m : Mode) (n : Bool) : Sl.frz ⟨d, m, n⟩ = ⟨d, .fr, n⟩ := rfl
@[simp] theorem atm_mk (d : D) : atm d = ⟨d, .fr, true⟩ := rfl
def slotFree (s : Option Sl) : Bool := match s with
 | some ⟨_, .io, _⟩ => false
 | _ => true
@[simp] theorem free_none : slotFree none = true := rfl
@[simp] theorem free_fr (d : D) (n : Bool) : slotFree (some ⟨d, .fr, n⟩) = true := rfl
@[simp] theorem free_ow (d : D) (n : Bool) : slotFree (some ⟨d, .ow, n⟩) = true := rfl
def fro (o : Option (D × Bool)) : Option Sl := o.map fun p => ⟨p.1, .fr, p.2⟩
theorem fro_none : none = fro none := rfl
theorem fro_some (d : D) (n : Bool) : some (Sl.mk d .fr n) = fro (some (d, n)) := rfl
@[simp] theorem free_fro (o : Option (D × Bool)) : slotFree (fro o) = true := by cases o <;> rfl
@[simp] theorem set_e (i : Nat) (s : Sl) : setSlot (a0 :: g0) i s = if slotFree (G.get (a0 :: g0) i) ∧ i < (a0 :: g0).length then some (G.put (a0 :: g0) i s) else none := by
 unfold setSlot slotFree
 cases h : G.get (a0 :: g0) i with
 | none => simp
 | some s => obtain ⟨d, m, n⟩ := s; cases m <;> simp
@[simp] theorem tru_bl (b : Bool) : D.truth (.bl b) = some b := rfl
@[simp] theorem tru_non : D.truth .non = some false := rfl
@[simp] theorem tru_lst (xs : List D) : D.truth (.lst xs) = some (!xs.isEmpty) := rfl
@[simp] theorem atom_bl (b : Bool) : D.atom (.bl b) = true := rfl
@[simp] theorem atom_non : D.atom .non = true := rfl
@[simp] theorem atom_int (b : Int) : D.atom (.int b) = true := rfl
@[simp] theorem atom_str (b : Str) : D.atom (.str b) = true := rfl
@[simp] theorem atom_lst (b : List D) : D.atom (.lst b) = false := rfl
@[simp] theorem atom_tup (b : List D) : D.atom (.tup b) = false := rfl
@[simp] theorem isV_var (i : Nat) : C.isV (.var i) = true := rfl
@[simp] theorem isV_int (i : Int) : C.isV (.int i) = false := rfl
@[simp] theorem isV_str (i : Str) : C.isV (.str i) = false := rfl
@[simp] theorem isV_bl (i : Bool) : C.isV (.bl i) = false := rfl
@[simp] theorem isV_non : C.isV .non = false := rfl
@[simp] theorem isV_con (i : Str) : C.isV (.con i) = false := rfl
@[simp] theorem isV_tup (i : List C) : C.isV (.tup i) = false := rfl
@[simp] theorem isV_lst (i : List C) : C.isV (.lst i) = false := rfl
@[simp] theorem isV_bin (i : BOp) (a b : C) : C.isV (.bin i a b) = false := rfl
@[simp] theorem isV_neg (a : C) : C.isV (.neg a) = false := rfl
@[simp] theorem isV_cmp (i : KOp) (a b : C) : C.isV (.cmp i a b) = false := rfl
@[simp] theorem isV_chain (i j : KOp) (a b c : C) : C.isV (.chain i j a b c) = false := rfl
@[simp] theorem isV_and (a b : C) : C.isV (.and_ a b) = false := rfl
@[simp] theorem isV_or (a b : C) : C.isV (.or_ a b) = false := rfl
@[simp] theorem isV_not (a : C) : C.isV (.not_ a) = false := rfl
@[simp] theorem isV_ife (a b c : C) : C.isV (.ife a b c) = false := rfl
@[simp] theorem isV_idx (a b : C) : C.isV (.idx a b) = false := rfl
@[simp] theorem isV_slc (a : C) (b c : Option C) : C.isV (.slc a b c) = false := rfl
@[simp] theorem isV_lrg (a : C) : C.isV (.lrg a) = false := rfl
@[simp] theorem isV_sset (a : C) : C.isV (.sset a) = false := rfl
@[simp] theorem isV_rev (a : C) : C.isV (.rev a) = false := rfl
@[simp] theorem isV_att (a : C) (f : Str) : C.isV (.att a f) = false := rfl
@[simp] theorem isV_call (f : Nat) (a : List C) : C.isV (.call f a) = false := rfl
@[simp] theorem isV_new (c : Str) (f : Nat) (a : List C) : C.isV (.new c f a) = false := rfl
@[simp] theorem isV_peek (c : C) : C.isV (.peek c) = false := rfl
@[simp] theorem isV_bare (c : Str) : C.isV (.bare c) = false := rfl
@[simp] theorem isV_meth (c : Str) (f : Option Nat) (o : C) (a : List C) : C.isV (.meth c f o a) = false := rfl
@[simp] theorem isV_bi (b : BI) (a : List C) : C.isV (.bi b a) = false := rfl
@[simp] theorem isV_isi (a : C) (t : Ty) : C.isV (.isi a t) = false := rfl
@[simp] theorem isV_cnt (o a : C) : C.isV (.cnt o a) = false := rfl
@[simp] theorem isV_index (o a : C) : C.isV (.index o a) = false := rfl
@[simp] theorem isV_dget (o a : C) : C.isV (.dget o a) = false := rfl
@[simp] theorem isV_kget (x : Str) (a : C) : C.isV (.kget x a) = false := rfl
@[simp] theorem isV_kin (n : Bool) (x : Str) (a : C) : C.isV (.kin n x a) = false := rfl
@[simp] theorem isV_comp (o : List Nat) (t : Tg) (k : ItK) (i : List C) (c : Option C) (e : C) : C.isV (.comp o t k i c e) = false := rfl
theorem atI_nat {α : Type} {xs : List α} (i : Nat) : atI xs (i : Int) = xs[i]? := by
 unfold atI ixN
 by_cases h : i < xs.length
 ·simp [h]
 ·simp [h, List.getElem?_eq_none (Nat.le_of_not_lt h)]
@[simp] theorem atI_0 {α : Type} {x : α} {xs : List α} : atI (x :: xs) 0 = some x := atI_nat 0
@[simp] theorem atI_1 {α : Type} {x y : α} {xs : List α} : atI (x :: y :: xs) 1 = some y := atI_nat 1
@[simp] theorem atI_2 {α : Type} {x y z : α} {xs : List α} : atI (x :: y :: z :: xs) 2 = some z := atI_nat 2
@[simp] theorem atI_3 {α : Type} {x y z u : α} {xs : List α} : atI (x :: y :: z :: u :: xs) 3 = some u := atI_nat 3
@[simp] theorem idx_tup (xs : List D) (i : Int) : D.idx (.tup xs) (.int i) = atI xs i := rfl
@[simp] theorem idx_lst (xs : List D) (i : Int) : D.idx (.lst xs) (.int i) = atI xs i := rfl
@[simp] theorem idxS_mk (d e : D) (m m' : Mode) (n n' : Bool) : idxS ⟨d, m, n⟩ ⟨e, m', n'⟩ = (d.idx e).map fun x => ⟨x, .fr, n || x.atom⟩ := rfl
@[simp] theorem cmpS_mk (op : KOp) (d e : D) (m m' : Mode) (n n' : Bool) : cmpS op ⟨d, m, n⟩ ⟨e, m', n'⟩ = (D.cmp op d e).map fun k => ⟨.bl k, .fr, true⟩ := rfl
@[simp] theorem cmp_eq (d e : D) : D.cmp .eq d e = d.eqE e := rfl
@[simp] theorem cmp_ne (d e : D) : D.cmp .ne d e = (d.eqE e).map (!·) := rfl
@[simp] theorem cmp_lt (i j : Int) : D.cmp .lt (.int i) (.int j) = some (decide (i < j)) := rfl
@[simp] theorem cmp_le (i j : Int) : D.cmp .le (.int i) (.int j) = some (decide (i ≤ j)) := rfl
@[simp] theorem cmp_gt (i j : Int) : D.cmp .gt (.int i) (.int j) = some (decide (j < i)) := rfl
@[simp] theorem cmp_ge (i j : Int) : D.cmp .ge (.int i) (.int j) = some (decide (j ≤ i)) := rfl
@[simp] theorem cmp_inn (d e : D) : D.cmp .inn d e = d.inn e := rfl
@[simp] theorem cmp_nin (d e : D) : D.cmp .nin d e = (d.inn e).map (!·) := rfl
@[simp] theorem cmp_is (d : D) : D.cmp .is_ d .non = d.isN := rfl
@[simp] theorem cmp_isn (d : D) : D.cmp .isn d .non = d.isN.map (!·) := rfl
@[simp] theorem isN_non : D.isN .non = some true := rfl
@[simp] theorem isN_str (s : Str) : D.isN (.str s) = some false := rfl
@[simp] theorem isN_tup (s : List D) : D.isN (.tup s) = some false := rfl
@[simp] theorem isN_lst (s : List D) : D.isN (.lst s) = some false := rfl
@[simp] theorem isN_obj (c : Str) (f : List Str) (s : List D) : D.isN (.obj c f s) = some false := rfl
@[simp] theorem eq_str (a b : Str) : D.eqE (.str a) (.str b) = some (decide (a = b)) := rfl
@[simp] theorem isiS_mk (t : Ty) (d : D) (m : Mode) (n : Bool) : isiS E t ⟨d, m, n⟩ = (isiD E d t).map fun k => ⟨.bl k, .fr, true⟩ := rfl
@[simp] theorem isi_str (b : String) (s : Str) : isiD E (.str s) (.ty b) = kitB "str" b := rfl
@[simp] theorem isi_int (b : String) (s : Int) : isiD E (.int s) (.ty b) = kitB "int" b := rfl
@[simp] theorem isi_tup (b : String) (s : List D) : isiD E (.tup s) (.ty b) = kitB "tuple" b := rfl
@[simp] theorem isi_lst (b : String) (s : List D) : isiD E (.lst s) (.ty b) = kitB "list" b := rfl
@[simp] theorem isi_bl (b : String) (s : Bool) : isiD E (.bl s) (.ty b) = kitB "bool" b := rfl
@[simp] theorem isi_non (b : String) : isiD E .non (.ty b) = kitB "NoneType" b := rfl
@[simp] theorem kit_ss : kitB "str" "str" = some true := by kernel_rfl
@[simp] theorem kit_ts : kitB "tuple" "str" = some false := by kernel_rfl
@[simp] theorem kit_ls : kitB "list" "str" = some false := by kernel_rfl
@[simp] theorem kit_is : kitB "int" "str" = some false := by kernel_rfl
@[simp] theorem kit_tt : kitB "tuple" "tuple" = some true := by kernel_rfl
@[simp] theorem kit_st : kitB "str" "tuple" = some false := by kernel_rfl
@[simp] theorem kit_lt : kitB "list" "tuple" = some false := by kernel_rfl
@[simp] theorem kit_it : kitB "int" "tuple" = some false := by kernel_rfl
@[simp] theorem kit_nt : kitB "NoneType" "tuple" = some false := by kernel_rfl
@[simp] theorem kit_tl : kitB "tuple" "list" = some false := by kernel_rfl
@[simp] theorem kit_sl : kitB "str" "list" = some false := by kernel_rfl
@[simp] theorem kit_ll : kitB "list" "list" = some true := by kernel_rfl
@[simp] theorem kit_il : kitB "int" "list" = some false := by kernel_rfl
@[simp] theorem kit_nl : kitB "NoneType" "list" = some false := by kernel_rfl
@[simp] theorem kit_ii : kitB "int" "int" = some true := by kernel_rfl
@[simp] theorem kit_ib : kitB "int" "bool" = some false := by kernel_rfl
@[simp] theorem kit_bi : kitB "bool" "int" = some true := by kernel_rfl
@[simp] theorem kit_bb : kitB "bool" "bool" = some true := by kernel_rfl
@[simp] theorem arsD_nil : arsD g [] = some [] := rfl
@[simp] theorem arsD_val (s : Sl) (as : List Ar) : arsD g (.val s :: as) = (arsD g as).map (s.d :: ·) := by
 show (match Ar.d g (.val s), arsD g as with
  | some d, some ds => some (d :: ds)
  | _, _ => none) = _
 cases arsD g as <;> rfl
@[simp] theorem ioOf_nil : ioOf [] = none := rfl
@[simp] theorem ioOf_val (s : Sl) (as : List Ar) : ioOf (.val s :: as) = ioOf as := rfl
@[simp] theorem doCall_val {fn : List D → M (Sl × Option (D × Bool))} {np : Nat} {more : List D} {as : List Ar} : doCall fn none np more as (a0 :: g0) = if as.length + more.length = np then (match arsD (a0 :: g0) as with
  | some ds => M.bnd (fn (ds ++ more)) fun (r, o) => match ioOf as with
   | none => (match o with
    | none => some (.ok (⟨r.d, r.m, r.n || r.d.atom⟩, a0 :: g0))
    | some _ => none)
   | some none => (match o with
    | some _ => some (.ok (⟨r.d, r.m, r.n || r.d.atom⟩, a0 :: g0))
    | none => none)
   | some (some i) => (match o with
    | some dn => (match G.get (a0 :: g0) i with
     | some s => if s.m = .fr then none else some (.ok (⟨r.d, r.m, r.n || r.d.atom⟩, G.put (a0 :: g0) i ⟨dn.1, s.m, dn.1.kidsAtom⟩))
     | none => none)
    | none => none)
  | none => none)
  else none := by
 unfold doCall
 simp only [ioLt, and_true] <;> rfl
end
end Y
namespace Y
open PySem PySem.Spec L2 PyProof
@[simp] theorem ofString_inj {a b : String} : Str.ofString a = Str.ofString b ↔ a = b := by
 constructor
 ·intro h
  rw [Str.ofString_eq_toList, Str.ofString_eq_toList] at h
  have h1 : (a.toList.map Char.toNat) = (b.toList.map Char.toNat) := by
   have := congrArg (fun s : Str => s.cps.toList) h
   simpa using this
  have h2 : a.toList = b.toList := by
   have inj : ∀ (l m : List Char), l.map Char.toNat = m.map Char.toNat → l = m := by
    intro l
    induction l with
    | nil => intro m h; cases m with
     | nil => rfl
     | cons => cases h
    | cons x xs ih => intro m h; cases m with
     | nil => cases h
     | cons y ys =>
      simp only [List.map_cons, List.cons.injEq] at h
      rw [ih ys h.2, Char.toNat_inj.mp h.1]
   exact inj _ _ h1
  exact String.toList_inj.mp h2
 ·rintro rfl; rfl
mutual
def D.nice : Nat → D → Bool
 | _, .non => true
 | _, .int _ => true
 | _, .str s => s.cps.all (· < 0x110000)
 | n + 1, .lst xs => niceL n xs
 | n + 1, .tup xs => niceL n xs
 | _, _ => false
def niceL : Nat → List D → Bool
 | _, [] => true
 | n, x :: xs => D.nice n x && niceL n xs
end
theorem cl_str (s : Str) : PyData.canLay0 (.str s) = s.cps.all (· < 0x110000) := by simp [PyData.canLay0, PyData.strOk]
@[simp] theorem nice_non (n : Nat) : D.nice n .non = true := by cases n <;> rfl
@[simp] theorem nice_int (n : Nat) (i : Int) : D.nice n (.int i) = true := by cases n <;> rfl
@[simp] theorem nice_lst (n : Nat) (xs : List D) : D.nice (n + 1) (.lst xs) = niceL n xs := rfl
@[simp] theorem nice_tup (n : Nat) (xs : List D) : D.nice (n + 1) (.tup xs) = niceL n xs := rfl
@[simp] theorem niceL_nil (n : Nat) : niceL n [] = true := by cases n <;> rfl
@[simp] theorem niceL_cons (n : Nat) (x : D) (xs : List D) : niceL n (x :: xs) = (D.nice n x && niceL n xs) := by cases n <;> rfl
theorem nice_strS (n : Nat) (s : Str) : D.nice n (.str s) = s.cps.all (· < 0x110000) := by cases n <;> rfl
theorem okS_of (s : String) : (Str.ofString s).cps.all (· < 0x110000) = true := by
 rw [Str.ofString_eq_toList]
 simp only [List.all_toArray, List.all_map, List.all_eq_true, Function.comp_apply, decide_eq_true_eq]
 intro c _
 have := c.valid
 have h2 : c.toNat = c.val.toNat := rfl
 rw [h2]
 rcases this with h | ⟨_, h⟩
 ·exact Nat.lt_trans h (by decide)
 ·exact h
@[simp] theorem nice_strL (n : Nat) (s : String) : D.nice n (.str (Str.ofString s)) = true := by rw [nice_strS, okS_of]
theorem niceL_all {n : Nat} : ∀ {xs : List D}, niceL n xs = true ↔ ∀ x ∈ xs, D.nice n x = true
 | [] => by simp [niceL]
 | x :: xs => by simp [niceL, niceL_all (xs := xs)]
mutual
theorem nice_py : ∀ (n : Nat) (d : D), D.nice n d = true → ∃ p, d.py = some p ∧ p.canLay0 = true ∧ p.depth ≤ n
 | n, .non, _ => ⟨.none, rfl, rfl, by simp [PyData.depth]⟩
 | n, .int i, _ => ⟨.int i, rfl, rfl, by simp [PyData.depth]⟩
 | n, .str s, h => ⟨.str s, rfl, by rw [cl_str, ← nice_strS n]; exact h, by simp [PyData.depth]⟩
 | n + 1, .lst xs, h => by
  obtain ⟨ps, h1, h2, h3⟩ := niceL_py n xs h
  exact ⟨.list ps, by simp [D.py, h1], h2, by simp only [PyData.depth]; omega⟩
 | n + 1, .tup xs, h => by
  obtain ⟨ps, h1, h2, h3⟩ := niceL_py n xs h
  exact ⟨.tuple ps, by simp [D.py, h1], h2, by simp only [PyData.depth]; omega⟩
theorem niceL_py : ∀ (n : Nat) (ds : List D), niceL n ds = true → ∃ ps, pyL ds = some ps ∧ PyData.canLayAll0 ps = true ∧ PyData.depthAll ps ≤ n
 | n, [], _ => ⟨[], rfl, rfl, by simp [PyData.depthAll]⟩
 | n, d :: ds, h => by
  simp only [niceL, Bool.and_eq_true] at h
  obtain ⟨p, h1, h2, h3⟩ := nice_py n d h.1
  obtain ⟨ps, h4, h5, h6⟩ := niceL_py n ds h.2
  exact ⟨p :: ps, by simp [pyL, h1, h4], by simp [PyData.canLayAll0, h2, h5], by simp only [PyData.depthAll]; omega⟩
end
mutual
theorem nice_eqv : ∀ (n m : Nat) (a b : D) (p q : PyData), D.nice n a = true → D.nice m b = true → a.py = some p → b.py = some q → (PyData.eqv p q = true ↔ a = b) := by
 intro n m a b p q ha hb hp hq
 cases a <;> cases b <;> cases n <;> cases m <;> simp [D.nice, -nice_strL] at ha hb <;> simp [D.py] at hp hq
 all_goals first
  | (subst hp; subst hq; simp [PyData.eqv]; done)
  | (obtain ⟨ps, h1, rfl⟩ := hp; subst hq; simp [PyData.eqv]; done)
  | (obtain ⟨ps, h1, rfl⟩ := hq; subst hp; simp [PyData.eqv]; done)
  | (obtain ⟨ps, h1, rfl⟩ := hp; obtain ⟨qs, h2, rfl⟩ := hq; simp [PyData.eqv]; first | done | (exact niceL_eqv _ _ _ _ _ _ ha hb h1 h2))
theorem niceL_eqv : ∀ (n m : Nat) (as bs : List D) (ps qs : List PyData), niceL n as = true → niceL m bs = true → pyL as = some ps → pyL bs = some qs → (PyData.eqvAll ps qs = true ↔ as = bs) := by
 intro n m as bs ps qs ha hb hp hq
 cases as with
 | nil =>
  cases hp
  cases bs with
  | nil => cases hq; simp [PyData.eqvAll]
  | cons b bs =>
   obtain ⟨qs', h4, h5, h6⟩ := niceL_py m (b :: bs) hb
   simp only [niceL, Bool.and_eq_true] at hb
   obtain ⟨q, h1, _⟩ := nice_py m b hb.1
   obtain ⟨qt, h2, _⟩ := niceL_py m bs hb.2
   simp [pyL, h1, h2] at hq
   subst hq
   simp [PyData.eqvAll]
 | cons a as =>
  simp only [niceL, Bool.and_eq_true] at ha
  obtain ⟨p, h1, _⟩ := nice_py n a ha.1
  obtain ⟨pt, h2, _⟩ := niceL_py n as ha.2
  simp [pyL, h1, h2] at hp
  subst hp
  cases bs with
  | nil => cases hq; simp [PyData.eqvAll]
  | cons b bs =>
   simp only [niceL, Bool.and_eq_true] at hb
   obtain ⟨q, h3, _⟩ := nice_py m b hb.1
   obtain ⟨qt, h4, _⟩ := niceL_py m bs hb.2
   simp [pyL, h3, h4] at hq
   subst hq
   simp only [PyData.eqvAll, Bool.and_eq_true, List.cons.injEq]
   rw [nice_eqv n m a b p q ha.1 hb.1 h1 h3, niceL_eqv n m as bs pt qt ha.2 hb.2 h2 h4]
end
theorem okP_of {p : PyData} {n : Nat} (h : p.canLay0 = true) (hd : p.depth ≤ n) (hn : n ≤ 128) : okP p = true := by
 unfold okP
 simp [h]
 omega
theorem eqP_nice {n m : Nat} {a b : D} {P : Prop} [Decidable P] (ha : D.nice n a = true) (hb : D.nice m b = true) (hn : n ≤ 128) (hm : m ≤ 128) (e : a = b ↔ P) : D.eqP a b = some (decide P) := by
 obtain ⟨p, h1, h2, h3⟩ := nice_py n a ha
 obtain ⟨q, h4, h5, h6⟩ := nice_py m b hb
 unfold D.eqP
 rw [h1, h4]
 simp only [okP_of h2 h3 hn, okP_of h5 h6 hm, Bool.and_self, if_true, Option.some.injEq]
 have := nice_eqv n m a b p q ha hb h1 h4
 rw [e] at this
 by_cases hP : P
 ·simp [hP, this.mpr hP]
 ·simp only [hP, iff_false, Bool.not_eq_true] at this
  simp [hP, this]
theorem eqE_nice {n m : Nat} {a b : D} {P : Prop} [Decidable P] (ha : D.nice n a = true) (hb : D.nice m b = true) (hn : n ≤ 128) (hm : m ≤ 128) (e : a = b ↔ P) : D.eqE a b = some (decide P) := by
 cases a with
 | str x =>
  cases b with
  | str y =>
   have h : (x = y) ↔ P := by
    rw [← e]
    exact ⟨fun h => by rw [h], fun h => by cases h; rfl⟩
   show some (decide (x = y)) = some (decide P)
   rw [decide_eq_decide.mpr h]
  | _ => exact eqP_nice ha hb hn hm e
 | _ => exact eqP_nice ha hb hn hm e
theorem inn_tup {n m : Nat} {x : D} {ys : List D} {P : Prop} [Decidable P] (hx : D.nice n x = true) (hy : ∀ y ∈ ys, D.nice m y = true) (hn : n ≤ 128) (hm : m ≤ 127) (e : x ∈ ys ↔ P) : D.inn x (.tup ys) = some (decide P) := by
 obtain ⟨p, h1, h2, h3⟩ := nice_py n x hx
 obtain ⟨qs, h4, h5, h6⟩ := niceL_py m ys (niceL_all.mpr hy)
 have key : ∀ (ys : List D) (qs : List PyData), (∀ y ∈ ys, D.nice m y = true) → pyL ys = some qs → ((qs.any fun z => PyData.eqv z p) = true ↔ x ∈ ys) := by
  intro ys
  induction ys with
  | nil => intro qs _ h; cases h; simp
  | cons y ys ih =>
   intro qs hy h
   obtain ⟨q, a1, _⟩ := nice_py m y (hy y (by simp))
   obtain ⟨qt, a2, _⟩ := niceL_py m ys (niceL_all.mpr fun z hz => hy z (by simp [hz]))
   simp [pyL, a1, a2] at h
   subst h
   simp only [List.any_cons, Bool.or_eq_true, List.mem_cons]
   rw [ih qt (fun z hz => hy z (by simp [hz])) a2, nice_eqv m n y x q p (hy y (by simp)) hx a1 h1]
   exact or_congr_left eq_comm
 show (match D.py x, pyL ys with
  | some p, some qs => if okP p && okP (.tuple qs) then some (qs.any fun z => PyData.eqv z p) else none
  | _, _ => none) = _
 rw [h1, h4]
 have o2 : okP (.tuple qs) = true := okP_of (n := m + 1) h5 (by simp only [PyData.depth]; omega) (by omega)
 simp only [okP_of h2 h3 hn, o2, Bool.and_self, if_true, Option.some.injEq]
 have := key ys qs hy h4
 rw [e] at this
 by_cases hP : P
 ·simp only [hP, decide_true]; exact this.mpr hP
 ·simp only [hP, iff_false, Bool.not_eq_true] at this
  simp only [hP, decide_false]; exact this
end Y
namespace Y
open PySem PySem.Spec L2
def strip (m : M (Sl × Option (D × Bool))) : M (D × Mode × Option D) := M.bnd m fun (s, o) => some (.ok (s.d, s.m, o.map (·.1)))
@[simp] theorem strip_ok (d : D) (m : Mode) (n : Bool) (o : Option (D × Bool)) : strip (some (.ok (⟨d, m, n⟩, o))) = some (.ok (d, m, o.map (·.1))) := rfl
def Gives (m : M (Sl × Option (D × Bool))) (md : Mode) (d : D) : Prop := strip m = some (.ok (d, md, none))
theorem Gives.n {m : M (Sl × Option (D × Bool))} {md : Mode} {d : D} (h : Gives m md d) : ∃ n, m = some (.ok (⟨d, md, n⟩, none)) := by
 unfold Gives strip at h
 cases m with
 | none => cases h
 | some o =>
  cases o with
  | ex c => cases h
  | ok a =>
   obtain ⟨⟨d', m', n⟩, o⟩ := a
   cases o with
   | none => cases h; exact ⟨n, rfl⟩
   | some o => cases h
def GivesIo (m : M (Sl × Option (D × Bool))) (md : Mode) (d d1 : D) : Prop := strip m = some (.ok (d, md, some d1))
theorem GivesIo.n {m : M (Sl × Option (D × Bool))} {md : Mode} {d d1 : D} (h : GivesIo m md d d1) : ∃ n n1, m = some (.ok (⟨d, md, n⟩, some (d1, n1))) := by
 unfold GivesIo strip at h
 cases m with
 | none => cases h
 | some o =>
  cases o with
  | ex c => cases h
  | ok a =>
   obtain ⟨⟨d', m', n⟩, o⟩ := a
   cases o with
   | none => cases h
   | some o => obtain ⟨o, n1⟩ := o; cases h; exact ⟨n, n1, rfl⟩
section
variable {E : Ev} {g g0 : G} {a0 : Option Sl}
@[simp] theorem wipe_nil : G.wipe g [] = g := rfl
@[simp] theorem wipe_cons (v : Nat) (vs : List Nat) : G.wipe g (v :: vs) = (G.wipe g vs).set v none := rfl
@[simp] theorem rest_nil (g1 : G) : G.restore g g1 [] = g := rfl
@[simp] theorem rest_cons (g1 : G) (v : Nat) (vs : List Nat) : G.restore g g1 (v :: vs) = (G.restore g g1 vs).set v (g1[v]?).join := rfl
@[simp] theorem putAll_nil (n : Bool) : putAll (a0 :: g0) [] [] n = some (a0 :: g0) := rfl
@[simp] theorem putAll_cons (i : Nat) (is : List Nat) (d : D) (ds : List D) (n : Bool) : putAll (a0 :: g0) (i :: is) (d :: ds) n = if slotFree (G.get (a0 :: g0) i) ∧ i < (a0 :: g0).length then putAll (G.put (a0 :: g0) i ⟨d, .fr, n || d.atom⟩) is ds n else none := by
 rw [putAll]
 unfold slotFree
 cases h : G.get (a0 :: g0) i with
 | none => simp
 | some s => obtain ⟨d, m, n⟩ := s; cases m <;> simp
@[simp] theorem bind_one (i : Nat) (d : D) (n : Bool) : bindT (a0 :: g0) (.one i) d n = putAll (a0 :: g0) [i] [d] n := rfl
@[simp] theorem bind_tup (is : List Nat) (ds : List D) (n : Bool) : bindT (a0 :: g0) (.tup is) (.tup ds) n = putAll (a0 :: g0) is ds n := rfl
def forB (E : Ev) (tg : Tg) (n : Bool) (body : List S) (d : D) (g : G) : M (Fl × G) := match bindT g tg d n with
 | some g3 => evSs E body g3
 | none => none
@[simp] theorem forB_e (tg : Tg) (n : Bool) (body : List S) (d : D) : forB E tg n body d (a0 :: g0) = match bindT (a0 :: g0) tg d n with
 | some g3 => evSs E body g3
 | none => none := rfl
@[simp] theorem s_forB (tg : Tg) (k : ItK) (its : List C) (body : List S) : evS E (.for_ tg k its body) (a0 :: g0) = M.nox (M.bnd (evV E its (a0 :: g0)) fun (ss, g1) => match itemsK k ss with
  | some (items, n) => forL (forB E tg n body) items g1
  | none => none) := by rw [evS] <;> rfl
@[simp] theorem forL_nil (f : D → G → M (Fl × G)) : forL f [] (a0 :: g0) = some (.ok (.nx, a0 :: g0)) := rfl
@[simp] theorem forL_cons (f : D → G → M (Fl × G)) (d : D) (ds : List D) : forL f (d :: ds) (a0 :: g0) = M.bnd (f d (a0 :: g0)) fun (fl, g1) => match fl with
  | .nx => forL f ds g1
  | .ct => forL f ds g1
  | .bk => some (.ok (.nx, g1))
  | .rt s => some (.ok (.rt s, g1)) := rfl
theorem comp_rule {α : Type} {own : List Nat} {tg : Tg} {k : ItK} {its : List C} {elt : C} {ss : List Sl} {g1 : G} {n : Bool} (xs : List α) (e F : α → D) (h1 : evV E its g = some (.ok (ss, g1))) (h2 : itemsK k ss = some (xs.map e, n)) (h3 : ownOk g1 own = true) (hl : xs.length < lim)
  (h : ∀ x ∈ xs, ∃ g3 d m f g5, bindT (G.wipe g1 own) tg (e x) n = some g3 ∧ evE E elt g3 = some (.ok (⟨d, m, f⟩, g5)) ∧ d = F x ∧ G.wipe g5 own = G.wipe g1 own) :
  ∃ f, evE E (.comp own tg k its none elt) g = some (.ok (⟨.lst (xs.map F), .ow, f⟩, G.restore (G.wipe g1 own) g1 own)) := by
 have key : ∀ ys : List α, (∀ y ∈ ys, y ∈ xs) → ∃ rs, compL (fun d g2 => match bindT g2 tg d n with
   | some g3 => M.bnd (evTO E none g3).nox fun (k, g4) => if k then M.bnd (evE E elt g4).nox fun (s, g5) => some (.ok (some s.frz, G.wipe g5 own)) else some (.ok (none, G.wipe g4 own))
   | none => none) (ys.map e) (G.wipe g1 own) = some (.ok (rs, G.wipe g1 own)) ∧ dsL rs = ys.map F := by
  intro ys
  induction ys with
  | nil => exact fun _ => ⟨[], rfl, rfl⟩
  | cons y ys ih =>
   intro hy
   obtain ⟨g3, d, m, f, g5, a1, a2, a3, a4⟩ := h y (hy y (by simp))
   obtain ⟨rs, b1, b2⟩ := ih fun z hz => hy z (by simp [hz])
   refine ⟨⟨d, .fr, f⟩ :: rs, ?_, ?_⟩
   ·simp only [List.map_cons, compL]
    rw [a1]
    dsimp only
    rw [show evTO E none g3 = some (.ok (true, g3)) by rw [evTO] <;> rfl]
    simp only [nox_ok, bnd_ok, if_true]
    rw [a2]
    simp only [nox_ok, bnd_ok, a4]
    rw [b1]
    rfl
   ·show d :: dsL rs = _
    rw [b2, a3]
    rfl
 obtain ⟨rs, r1, r2⟩ := key xs fun _ h => h
 refine ⟨rs.all (·.n), ?_⟩
 rw [evE, h1, bnd_ok]
 dsimp only
 rw [h2]
 dsimp only
 rw [if_pos h3]
 refine (bnd_congr r1).trans ?_
 rw [bnd_ok]
 dsimp only
 have hlen : rs.length = xs.length := by
  have := congrArg List.length r2
  simpa [dsL] using this
 rw [if_pos (by omega), r2]
@[simp] theorem lim_def : lim = 100000 := rfl
@[simp] theorem dsL_nil : dsL [] = [] := rfl
@[simp] theorem dsL_cons (s : Sl) (ss : List Sl) : dsL (s :: ss) = s.d :: dsL ss := rfl
@[simp] theorem ent_nil (io : Option Nat) (j : Nat) : ent io j [] = [] := rfl
@[simp] theorem ent_cons (io : Option Nat) (j : Nat) (d : D) (ds : List D) : ent io j (d :: ds) = some ⟨d, if io = some j then .io else .fr, if io = some j then d.kidsAtom else d.atom⟩ :: ent io (j + 1) ds := rfl
@[simp] theorem outD_none (g : G) : outD none g = some none := rfl
@[simp] theorem outD_some (j : Nat) : outD (some j) (a0 :: g0) = match G.get (a0 :: g0) j with
  | some ⟨d, .io, n⟩ => some (some (d, n))
  | _ => none := rfl
@[simp] theorem runF_e (io : Option Nat) (nN np : Nat) (b : List S) (ds : List D) : runF E io nN np b ds = if ds.length = np ∧ io ≠ some 100 then M.bnd (evSs E b (ent io 0 ds ++ List.replicate (nN - np) none)) fun (fl, g1) => match outD io g1 with
  | some o => (match fl with
   | .nx => some (.ok (⟨.non, .fr, true⟩, o))
   | .rt s => some (.ok (s, o))
   | _ => none)
  | none => none
 else none := rfl
theorem gives_iff (m : M (Sl × Option (D × Bool))) (md : Mode) (d : D) : Gives m md d ↔ strip m = some (.ok (d, md, none)) := Iff.rfl
theorem cut_tail {α : Type} (x : α) (xs : List α) : cutD (x :: xs) (some 1) none = xs := by
 unfold cutD HT.sIx
 simp
@[simp] theorem atI_m4 {α : Type} (a b c d : α) : atI [a, b, c, d] (-1) = some d := rfl
@[simp] theorem atI_m3 {α : Type} (a b c : α) : atI [a, b, c] (-1) = some c := rfl
@[simp] theorem inn2 (a b c : String) : D.inn (.str a) (.tup [.str b, .str c]) = some (decide (a = b ∨ a = c)) := inn_tup (n := 0) (m := 0) (by simp) (by simp) (by omega) (by omega) (by simp)
@[simp] theorem inn6 (a b c d e f h : String) : D.inn (.str a) (.tup [.str b, .str c, .str d, .str e, .str f, .str h]) = some (decide (a = b ∨ a = c ∨ a = d ∨ a = e ∨ a = f ∨ a = h)) := inn_tup (n := 0) (m := 0) (by simp) (by simp) (by omega) (by omega) (by simp)
@[simp] theorem eq_int (i j : Int) : D.eqE (.int i) (.int j) = some (decide (i = j)) := eqE_nice (n := 0) (m := 0) (by simp) (by simp) (by omega) (by omega) (by simp)
@[simp] theorem bin_mk (op : BOp) (d e : D) (m m' : Mode) (n n' : Bool) : resBin op ⟨d, m, n⟩ ⟨e, m', n'⟩ = (d.bin op e).map fun x => bySh x (n && n') := rfl
@[simp] theorem bySh_int (i : Int) (n : Bool) : bySh (.int i) n = ⟨.int i, .fr, true⟩ := rfl
@[simp] theorem bySh_str (i : Str) (n : Bool) : bySh (.str i) n = ⟨.str i, .fr, true⟩ := rfl
@[simp] theorem bySh_lst (i : List D) (n : Bool) : bySh (.lst i) n = ⟨.lst i, .ow, n⟩ := rfl
@[simp] theorem bySh_tup (i : List D) (n : Bool) : bySh (.tup i) n = ⟨.tup i, .fr, n⟩ := rfl
@[simp] theorem bin_addi (i j : Int) : D.bin .add (.int i) (.int j) = some (.int (i + j)) := rfl
@[simp] theorem bin_subi (i j : Int) : D.bin .sub (.int i) (.int j) = some (.int (i - j)) := rfl
@[simp] theorem bin_addl (a b : List D) : D.bin .add (.lst a) (.lst b) = if a.length + b.length ≤ lim then some (.lst (a ++ b)) else none := rfl
@[simp] theorem bin_addt (a b : List D) : D.bin .add (.tup a) (.tup b) = if a.length + b.length ≤ lim then some (.tup (a ++ b)) else none := rfl
@[simp] theorem neg_mk (i : Int) (m : Mode) (n : Bool) : negS ⟨.int i, m, n⟩ = some ⟨.int (-i), .fr, true⟩ := rfl
@[simp] theorem rev_mk (i : List D) (m : Mode) (n : Bool) : revS ⟨.lst i, m, n⟩ = some ⟨.lst i.reverse, .ow, n⟩ := rfl
@[simp] theorem len_l (xs : List D) (m : Mode) (n : Bool) : biD .len [⟨.lst xs, m, n⟩] = some ⟨.int xs.length, .fr, true⟩ := rfl
@[simp] theorem len_t (xs : List D) (m : Mode) (n : Bool) : biD .len [⟨.tup xs, m, n⟩] = some ⟨.int xs.length, .fr, true⟩ := rfl
@[simp] theorem len_k (xs : List Str) (m : Mode) (n : Bool) : biD .len [⟨.ktup xs, m, n⟩] = some ⟨.int xs.length, .fr, true⟩ := rfl
@[simp] theorem len_d (ks : List Key) (xs : List D) (m : Mode) (n : Bool) : biD .len [⟨.dct ks xs, m, n⟩] = some ⟨.int ks.length, .fr, true⟩ := rfl
@[simp] theorem len_s (s : Str) (m : Mode) (n : Bool) : biD .len [⟨.str s, m, n⟩] = if s.length ≤ lim then some ⟨.int s.length, .fr, true⟩ else none := by
 show Option.map _ (if s.length ≤ lim then some (s.length : Int) else none) = _
 split <;> rfl
@[simp] theorem list_l (xs : List D) (m : Mode) (n : Bool) : biD .list [⟨.lst xs, m, n⟩] = some ⟨.lst xs, .ow, n || flatL xs⟩ := rfl
@[simp] theorem list_t (xs : List D) (m : Mode) (n : Bool) : biD .list [⟨.tup xs, m, n⟩] = some ⟨.lst xs, .ow, n || flatL xs⟩ := rfl
@[simp] theorem list_d (ks : List Key) (xs : List D) (m : Mode) (n : Bool) : biD .list [⟨.dct ks xs, m, n⟩] = some ⟨.lst (ks.map keyD), .ow, true⟩ := rfl
@[simp] theorem tuple_l (xs : List D) (m : Mode) (n : Bool) : biD .tuple [⟨.lst xs, m, n⟩] = some ⟨.tup xs, .fr, n⟩ := rfl
@[simp] theorem blsD_map {α : Type} (xs : List α) (p : α → Bool) : blsD (xs.map fun x => .bl (p x)) = some (xs.map p) := by
 induction xs with
 | nil => rfl
 | cons x xs ih => simp [blsD, ih]
@[simp] theorem all_l (xs : List D) (m : Mode) (n : Bool) : biD .all [⟨.lst xs, m, n⟩] = (blsD xs).map fun bs => ⟨.bl (bs.all id), .fr, true⟩ := rfl
@[simp] theorem any_l (xs : List D) (m : Mode) (n : Bool) : biD .any [⟨.lst xs, m, n⟩] = (blsD xs).map fun bs => ⟨.bl (bs.any id), .fr, true⟩ := rfl
@[simp] theorem items_l (xs : List D) : D.items (.lst xs) = some xs := rfl
@[simp] theorem items_t (xs : List D) : D.items (.tup xs) = some xs := rfl
@[simp] theorem itemsK_any (d : D) (m : Mode) (n : Bool) : itemsK .any [⟨d, m, n⟩] = d.items.map fun l => (l, n) := rfl
@[simp] theorem itemsK_enum (xs : List D) (m : Mode) (n : Bool) : itemsK .enum [⟨.lst xs, m, n⟩] = some (enumL xs, n) := rfl
@[simp] theorem itemsK_zip (xs ys : List D) (m m' : Mode) (n n' : Bool) : itemsK .zip [⟨.lst xs, m, n⟩, ⟨.lst ys, m', n'⟩] = some (zipL xs ys, n && n') := rfl
@[simp] theorem itemsK_zipk (xs : List D) (ys : List Str) (m m' : Mode) (n n' : Bool) : itemsK .zip [⟨.tup xs, m, n⟩, ⟨.ktup ys, m', n'⟩] = some (zipL xs (ys.map .str), n) := rfl
@[simp] theorem itemsK_rng (j : Int) (m : Mode) (n : Bool) : itemsK .rng1 [⟨.int j, m, n⟩] = if rngOk j then some (rngL 0 j.toNat 1, true) else none := rfl
@[simp] theorem attS_mk (f c : Str) (fs : List Str) (xs : List D) (m : Mode) (n : Bool) : attS E f ⟨.obj c fs xs, m, n⟩ = if E.att c f then (look fs xs f).map fun d => ⟨d, .fr, n || d.atom⟩ else none := rfl
@[simp] theorem look_nil {κ α : Type} [DecidableEq κ] (j : κ) : look ([] : List κ) ([] : List α) j = none := rfl
@[simp] theorem look_cons {κ α : Type} [DecidableEq κ] (k : κ) (ks : List κ) (x : α) (xs : List α) (j : κ) : look (k :: ks) (x :: xs) j = if k = j then some x else look ks xs j := rfl
@[simp] theorem mutS_e (i : Nat) (f : D → Option D) (n : Bool) : mutSlot (a0 :: g0) i f n = match G.get (a0 :: g0) i with
 | some ⟨d, .fr, _⟩ => none
 | some ⟨d, m, n0⟩ => (match f d with
  | some d' => some (.ok (.nx, G.put (a0 :: g0) i ⟨d', m, n0 && n⟩))
  | none => none)
 | none => none := rfl
@[simp] theorem app_l (v : D) (xs : List D) : D.app v (.lst xs) = if xs.length < lim then some (.lst (xs ++ [v])) else none := rfl
@[simp] theorem ext_l (v xs : List D) : D.ext (.lst v) (.lst xs) = if xs.length + v.length ≤ lim then some (.lst (xs ++ v)) else none := rfl
@[simp] theorem ownL_e (i : Nat) : ownL (a0 :: g0) i = match G.get (a0 :: g0) i with
 | some ⟨.lst _, .ow, _⟩ => true
 | some ⟨.lst _, .io, _⟩ => true
 | _ => false := rfl
@[simp] theorem isi_obj (t c : Str) (fs : List Str) (xs : List D) : isiD E (.obj c fs xs) (.cls t) = E.isi (.inr c) (.cls t) := rfl
@[simp] theorem isi_objt (t : String) (c : Str) (fs : List Str) (xs : List D) : isiD E (.obj c fs xs) (.ty t) = E.isi (.inr c) (.ty t) := rfl
@[simp] theorem isi_nonc (t : Str) : isiD E .non (.cls t) = E.isi (.inl "NoneType") (.cls t) := rfl
@[simp] theorem isi_tupc (t : Str) (xs : List D) : isiD E (.tup xs) (.cls t) = E.isi (.inl "tuple") (.cls t) := rfl
@[simp] theorem isi_lstc (t : Str) (xs : List D) : isiD E (.lst xs) (.cls t) = E.isi (.inl "list") (.cls t) := rfl
@[simp] theorem slc_t (xs : List D) (m : Mode) (n : Bool) (l h : Option Int) : slcS l h ⟨.tup xs, m, n⟩ = some ⟨.tup (cutD xs l h), .fr, n⟩ := rfl
@[simp] theorem slc_l (xs : List D) (m : Mode) (n : Bool) (l h : Option Int) : slcS l h ⟨.lst xs, m, n⟩ = some ⟨.lst (cutD xs l h), .ow, n || (D.lst (cutD xs l h)).kidsAtom⟩ := rfl
@[simp] theorem e_peek (c : C) : evE E (.peek c) (a0 :: g0) = match evE E c (peekG (a0 :: g0)) with
  | some (.ok (s, _)) => if s.d.atom = true then some (.ok (atm s.d, a0 :: g0)) else if s.m = .ow ∧ s.d.kidsAtom = true then some (.ok (⟨s.d, .ow, true⟩, a0 :: g0)) else none
  | _ => none := by rw [evE] <;> rfl
@[simp] theorem peekG_cons (o : Option Sl) (g : G) : peekG (o :: g) = (o.map fun s => (⟨s.d, .fr, s.d.atom⟩ : Sl)) :: peekG g := rfl
@[simp] theorem peekG_nil : peekG [] = [] := rfl
@[simp] theorem e_bare (x : Str) : evE E (.bare x) (a0 :: g0) = if E.bare x = true then some (.ok (⟨.obj x [] [], .ow, true⟩, a0 :: g0)) else none := by rw [evE] <;> rfl
@[simp] theorem e_new (c : Str) (f : Nat) (args : List C) : evE E (.new c f args) (a0 :: g0) = M.bnd (evA E (E.io f) 1 args (a0 :: g0)) fun (as, g1) => if E.io f = some 0 ∧ E.ini c = some f ∧ as.length + 1 + (moreOf E f (args.length + 1)).length = E.np f then match arsD g1 as with
   | some ds => M.bnd (E.fm f (.obj c [] [] :: (ds ++ moreOf E f (args.length + 1)))) fun (r, o) => match r.d, o with
    | .non, some dn => some (.ok (⟨dn.1, .ow, dn.2 || dn.1.kidsAtom⟩, g1))
    | _, _ => none
   | none => none
  else none := by rw [evE] <;> rfl
@[simp] theorem e_meth (m : Str) (io : Option Nat) (o : C) (args : List C) : evE E (.meth m io o args) (a0 :: g0) = M.bnd (arg1 io 0 o (evE E o) (a0 :: g0)) fun (a, g1) => match selfFid E m g1 a with
  | some f => M.bnd (evA E io 1 args g1) fun (as, g2) => if E.io f = io then doCall (E.fn f) io (E.np f) (moreOf E f (args.length + 1)) (a :: as) g2 else none
  | none => none := by rw [evE] <;> rfl
@[simp] theorem op2p_e {pre : D → Bool} {a b : C} {ea eb : G → M (Sl × G)} {f : Sl → Sl → Option Sl} : op2p pre a b ea eb f (a0 :: g0) = M.bnd (opd a ea (a0 :: g0)) fun (oa, g1) => match oa.get g1 with
  | some x0 => if pre x0.d then M.bnd (opd b eb g1) fun (ob, g2) => (match oa.get g2, ob.get g2 with
   | some x, some y => match f x y with
    | some s => some (.ok (s, g2))
    | none => none
   | _, _ => none) else none
  | none => none := rfl
@[simp] theorem isLst_l (xs : List D) : isLst (.lst xs) = true := rfl
@[simp] theorem isDct_d (ks : List Key) (xs : List D) : isDct (.dct ks xs) = true := rfl
@[simp] theorem dget_mk (ks : List Key) (xs : List D) (m m' : Mode) (n n' : Bool) (s : Str) : dgetS ⟨.dct ks xs, m, n⟩ ⟨.str s, m', n'⟩ = some (match look ks xs (.inr s) with
  | some d => ⟨d, .fr, n || d.atom⟩
  | none => ⟨.non, .fr, true⟩) := rfl
@[simp] theorem idx_dct (ks : List Key) (xs : List D) (s : Str) : D.idx (.dct ks xs) (.str s) = look ks xs (.inr s) := rfl
@[simp] theorem inn_dct (ks : List Key) (xs : List D) (s : Str) : D.inn (.str s) (.dct ks xs) = some (look ks xs (.inr s)).isSome := rfl
@[simp] theorem set_obj (E : Ev) (c f : Str) (fs : List Str) (xs : List D) (v : D) : D.setA (.obj c fs xs) E f v = if E.att c f = true ∧ fs.length < 100 ∧ fs.length = xs.length then some (.obj c (setKey fs xs f v).1 (setKey fs xs f v).2) else none := rfl
@[simp] theorem setKey_nil {κ : Type} [DecidableEq κ] (j : κ) (v : D) : setKey [] [] j v = ([j], [v]) := rfl
@[simp] theorem setKey_cons {κ : Type} [DecidableEq κ] (k : κ) (ks : List κ) (x : D) (xs : List D) (j : κ) (v : D) : setKey (k :: ks) (x :: xs) j v = if k = j then (k :: ks, v :: xs) else (k :: (setKey ks xs j v).1, x :: (setKey ks xs j v).2) := by
 rw [setKey]
def evD (E : Ev) (c : C) (g : G) : M (D × G) := M.bnd (evE E c g) fun (s, g1) => some (.ok (s.d, g1))
theorem evD.n {c : C} {g1 : G} {d : D} (h : evD E c g = some (.ok (d, g1))) : ∃ m n, evE E c g = some (.ok (⟨d, m, n⟩, g1)) := by
 unfold evD at h
 cases q : evE E c g with
 | none => rw [q] at h; cases h
 | some o =>
  cases o with
  | ex c => rw [q] at h; cases h
  | ok a =>
   obtain ⟨⟨d', m', n⟩, g'⟩ := a
   rw [q] at h
   cases h
   exact ⟨m', n, rfl⟩
def slotVal (s : Option Sl) : Bool := match s with
 | some ⟨_, .fr, _⟩ => true
 | none => true
 | _ => false
@[simp] theorem val_none : slotVal none = true := rfl
@[simp] theorem val_fr (d : D) (n : Bool) : slotVal (some ⟨d, .fr, n⟩) = true := rfl
@[simp] theorem val_fro (o : Option (D × Bool)) : slotVal (fro o) = true := by cases o <;> rfl
theorem putAll_one {g : G} {i : Nat} {d : D} {n : Bool} (hi : i < g.length) (h : slotFree (g.get i) = true) : putAll g [i] [d] n = some (g.put i ⟨d, .fr, n || d.atom⟩) := by
 cases g with
 | nil => simp at hi
 | cons a0 g0 =>
  rw [putAll_cons, if_pos ⟨h, hi⟩]
  cases i with
  | zero => rfl
  | succ i => rfl
theorem set_back (g : G) (i : Nat) (hi : i < g.length) (s : Option Sl) : (g.set i s).set i (g[i]?).join = g := by
 have e : (g[i]?).join = g[i] := by rw [List.getElem?_eq_getElem hi]; rfl
 rw [e]
 apply List.ext_getElem
 ·simp
 ·intro j h1 h2
  rw [List.getElem_set, List.getElem_set]
  split
  ·subst_vars; rfl
  ·rfl
theorem comp1 {α : Type} {i : Nat} {c elt : C} {dl : D} {m : Mode} {n : Bool} (xs : List α) (e F : α → D) (h1 : evE E c g = some (.ok (⟨dl, m, n⟩, g))) (h2 : dl.items = some (xs.map e)) (hi : i < g.length) (hv : slotVal (g.get i) = true) (hl : xs.length < lim)
  (h : ∀ x ∈ xs, ∀ nf, evD E elt (g.set i (some ⟨e x, .fr, nf⟩)) = some (.ok (F x, g.set i (some ⟨e x, .fr, nf⟩)))) :
  ∃ f, evE E (.comp [i] (.one i) .any [c] none elt) g = some (.ok (⟨.lst (xs.map F), .ow, f⟩, g)) := by
 have hget : G.get (g.set i none) i = none := by
  unfold G.get
  rw [List.getElem?_set_self hi]; rfl
 obtain ⟨f, q⟩ := comp_rule (E := E) (own := [i]) (tg := .one i) (k := .any) (its := [c]) (elt := elt) (g := g) (ss := [⟨dl, .fr, n⟩]) (g1 := g) (n := n) xs e F (by
   rw [evV, h1, bnd_ok]; dsimp only; rw [evV]; rfl) (by simp [h2]) (by
   unfold ownOk slotVal at *
   simp only [List.all_cons, List.all_nil, Bool.and_true, hi, decide_true, Bool.true_and]
   exact hv) hl (fun x hx => by
   obtain ⟨m1, n1, q⟩ := evD.n (h x hx (n || (e x).atom))
   refine ⟨_, F x, m1, n1, _, ?_, q, rfl, ?_⟩
   ·show putAll (g.set i none) [i] [e x] n = _
    rw [putAll_one (by simpa using hi) (by rw [hget]; rfl)]
    show some ((g.set i none).set i _) = _
    rw [List.set_set]
   ·show (g.set i _).set i none = g.set i none
    rw [List.set_set])
 refine ⟨f, q.trans ?_⟩
 show some (Oc.ok (_, (g.set i none).set i (g[i]?).join)) = _
 rw [set_back g i hi]
end
end Y
namespace Y
open PySem PySem.Spec PyProof.Rows L2
theorem no_x {P : Program} {w : World} {H : Hp} {s s1 : Shared} {e : Value} (z : RX.CX P w [] H s (fun _ _ _ => False) e s1) : False := by
 obtain ⟨_, _, _, _, _, _, _, _, _, _, _, _, z⟩ := z
 exact z
end Y
namespace RX
open PySem PySem.Spec PyProof.Rows L2 PySem.HandSPX
def HC (h : Heap) (a : Addr) : Nat → Addr → Prop
 | 0, x => ∃ (o : Obj) (vs : Array Value), h.get? x = some o ∧ o.data = .fields vs ∧ vs[2]? = some .none
 | n + 1, x => ∃ (o : Obj) (vs : Array Value) (y : Addr), h.get? x = some o ∧ o.data = .fields vs ∧ vs[2]? = some (.ref y) ∧ y ≠ a ∧ HC h a n y
section
variable {prog : Program} {w : World} {A : Around} {E : Value → Shared → Prop} {s : Shared}
theorem HC.at {h h' : Heap} {a : Addr} (k : ∀ b, b ≠ a → h'.get? b = h.get? b) : ∀ {n : Nat} {x : Addr}, x ≠ a → HC h a n x → HC h' a n x
 | 0, x, hx, ⟨o, vs, e1, e2, e3⟩ => ⟨o, vs, (k x hx).trans e1, e2, e3⟩
 | n + 1, x, hx, ⟨o, vs, y, e1, e2, e3, ny, r⟩ => ⟨o, vs, y, (k x hx).trans e1, e2, e3, ny, r.at k ny⟩
end
end RX
namespace RX
open PySem PySem.Spec PyProof.Rows L2 PySem.HandSPX
theorem HC.keeps {h h' : Heap} {a : Addr} (k : ∀ b o, h.get? b = some o → h'.get? b = some o) : ∀ {n : Nat} {x : Addr}, HC h a n x → HC h' a n x
 | 0, x, ⟨o, vs, e1, e2, e3⟩ => ⟨o, vs, k _ _ e1, e2, e3⟩
 | n + 1, x, ⟨o, vs, y, e1, e2, e3, ny, r⟩ => ⟨o, vs, y, k _ _ e1, e2, e3, ny, r.keeps k⟩
end RX
namespace Y
open PySem PySem.Spec PyProof.Rows L2
structure HaltX (K : PySem.W.Frag) : Prop where
 ex : PySem.W.exmOne K (.ref (He.ga K "Halt")) (.ref (He.ga K "Halt")) = some true
 sub : PySem.W.subIn K (.ref (He.ga K "Halt")) (.type "BaseException") = some true
 xf : XfC K (He.ga K "Halt")
 n1 : PySem.W.findIn K (.ref (He.ga K "Halt")) "number" = some none
 n2 : PySem.W.findIn K (.ref (He.ga K "Halt")) "chain" = some none
end Y
namespace RX
open PySem PySem.Spec PyProof.Rows L2 PySem.HandSPX
section
variable {X : Cx} {x n : Str} {c : Value} {i : Nat} {body orelse suite : List Stmt} {b0 : Stmt} {np pos pos' : Pos} {tb : WX → TS} {ts : Addr → Value → Option Addr → TS} {u : TS}
theorem not_frame {h B : Heap} {l : List Env} {a : Addr} {o : Obj} {vs : Array Value} (ff : h.FunFrames B l) (e : h.get? a = some o) (dd : o.data = .fields vs) : a ∉ frs l := fun hm => by
 obtain ⟨_, o', e', hnf⟩ := ff.mem hm
 rw [e] at e'
 cases e'
 exact hnf _ dd
end
end RX
namespace Y
open PySem PySem.Spec PyProof.Rows L2
theorem lamO_nt {f : Addr} {F : LF} : nt (LamO f F) := fun ps z => by
 unfold LamO at z
 cases z
theorem codeO_nt {c : Addr} {q : Str} : nt (LamX.CodeO c q) := fun ps z => LamX.codeO_ne ps z
section
variable {X : Cx} {pins : List (Addr × Obj)} {σ : L2.St} {H : Hp} {s : Shared}
theorem lamO_at {P : Program} {w : World} {h : Heap} {f : Addr} {F : LF} (hok : HOk P w H h) (e : H f = some (LamO f F)) : ∃ (od : Option Addr) (sl : Array (Option Value)) (pm ctv : Value), h.get? f = some (⟨.type "function", od, .func (F.fd pm ctv), sl⟩ : Obj) := by
 obtain ⟨z, _, _⟩ := hok f _ e
 exact z
theorem inv_lam {F : LF} {t' : Nat} {pm ctv : Value} (I : Inv X pins σ H s) :
  Inv X pins σ (upd H s.heap.objs.size (LamO s.heap.objs.size F)) { s with heap := s.heap.push { cls := .type "function", data := .func (F.fd pm ctv) }, toks := t' } := by
 have e : (s.heap.push ({ cls := .type "function", data := .func (F.fd pm ctv) } : Obj)).get? s.heap.objs.size = some ({ cls := .type "function", data := .func (F.fd pm ctv) } : Obj) := Heap.get?_push_size _ rfl
 refine I.laid (a := s.heap.objs.size) (fun b u e => Heap.get?_push_of_some _ e) (Nat.le_refl _) ?_
 exact ⟨⟨_, _, pm, ctv, e⟩, ⟨_, e⟩, fun h1 h2 ⟨od, sl, p, t, z⟩ st => ⟨od, sl, p, t, st _ z⟩⟩
theorem tab_next {T : List (Addr × Str)} {P c' : Addr} {q : Str} {ps : Array Value} {pos : Pos} (hP : H P = some (.tbl ps)) (ht : TriplesOk ps.toList) (ha : ∀ (pos : Pos) (cv : Value), codeAmong pos ps.toList = some cv → ∃ c, cv = .ref c ∧ H c = some (LamX.CodeO c q)) (nC : H c' = none)
  (hT : LamX.Tabs T H) (hu : ∀ p ∈ T, p.1 = P → p.2 = q) :
  LamX.ExtN H (upd (upd H P (.tbl (ps ++ #[rawInt pos.line, rawInt pos.col, .ref c']))) c' (LamX.CodeO c' q)) ∧ LamX.Tabs T (upd (upd H P (.tbl (ps ++ #[rawInt pos.line, rawInt pos.col, .ref c']))) c' (LamX.CodeO c' q)) ∧
   ∀ b, (H b).isSome = true → (upd (upd H P (.tbl (ps ++ #[rawInt pos.line, rawInt pos.col, .ref c']))) c' (LamX.CodeO c' q) b).isSome = true := by
 have eL : (ps ++ #[rawInt pos.line, rawInt pos.col, .ref c']).toList = ps.toList ++ [rawInt pos.line, rawInt pos.col, .ref c'] := by simp
 have ext : LamX.ExtN H (upd (upd H P (.tbl (ps ++ #[rawInt pos.line, rawInt pos.col, .ref c']))) c' (LamX.CodeO c' q)) := fun b o e n => by
  have h1 : b ≠ c' := ne_of_none e nC
  have h2 : b ≠ P := fun z => by rw [z, hP] at e; cases e; exact n _ rfl
  rw [upd_ne h1, upd_ne h2]
  exact e
 refine ⟨ext, fun p hp => ?_, fun b hb => ?_⟩
 ·by_cases hb : p.1 = P
  ·rw [hu p hp hb, hb]
   refine ⟨_, by rw [upd_ne (ne_of_none hP nC), upd_same], by rw [eL]; exact PySem.TriplesOk_snoc _ _ _ _ ht, fun p' cv hcv => ?_⟩
   rw [eL] at hcv
   rcases LamX.among_app _ ht hcv with z | z
   ·obtain ⟨c0, e1, e2⟩ := ha p' cv z
    exact ⟨c0, e1, ext _ _ e2 codeO_nt⟩
   ·exact ⟨c', z, upd_same⟩
  ·obtain ⟨ps', a1, a2, a3⟩ := hT p hp
   refine ⟨ps', by rw [upd_ne (ne_of_none a1 nC), upd_ne hb]; exact a1, a2, fun p' cv hcv => ?_⟩
   obtain ⟨c0, e1, e2⟩ := a3 p' cv hcv
   exact ⟨c0, e1, ext _ _ e2 codeO_nt⟩
 ·by_cases h1 : b = c'
  ·rw [h1, upd_same]; rfl
  ·rw [upd_ne h1]
   by_cases h2 : b = P
   ·rw [h2, upd_same]; rfl
   ·rw [upd_ne h2]; exact hb
theorem ext_new {H1 : Hp} {f : Addr} {o : HO} (h : H1 f = none) : ∀ b u, H1 b = some u → upd H1 f o b = some u := fun b u e => (upd_ne (ne_of_none e h)).trans e
theorem lam_make {T : List (Addr × Str)} {c P : Addr} {params : Arguments} {body : Expr} {scope : Scope} {pos : Pos} {E : Value → Shared → Prop} {Q : Value → Shared → Prop} (I : Inv X pins σ H s) (TB : LamX.TabB X.base X.mg c P) (hcode : X.env.code = .ref c)
  (hm : (P, X.env.qual ++ "<lambda>") ∈ T) (hu : ∀ p ∈ T, p.1 = P → p.2 = X.env.qual ++ "<lambda>") (hT : LamX.Tabs T H) (hdef : defaultsOf params X.env = ([], [])) (hfree : ∀ y ∈ scope.names, y.2 = .free → ∃ c, X.env.cells.lookup y.1 = some c)
  (h : ∀ (f c' : Addr) (H1 : Hp) (s' : Shared), Inv X pins σ H1 s' → LamX.ExtN H H1 → (∀ b, (H b).isSome = true → (H1 b).isSome = true) → LamX.Tabs T H1 → H f = none → H1 f = some (LamO f ⟨X.env.qual ++ "<lambda>", params, body, scope, cloFrom X.env.cells scope.names [], c'⟩) →
   H1 c' = some (LamX.CodeO c' (X.env.qual ++ "<lambda>")) → Q (.ref f) s') : wpAny (model X.prog X.w) X.A (eval (.Lambda params body scope pos) X.env) Q E s := by
 obtain ⟨ps, hP, ht, ha⟩ := hT _ hm
 have bP : s.heap.BuiltinsAt X.mg P := TB.bm.keeps I.bk
 have hP' : s.heap.get? P = some { cls := .none, data := .fields ps } := I.hok P _ hP
 have last : ∀ {H1 : Hp} {s1 : Shared} {c' : Addr} {tk : Nat} {pm ctv : Value}, Inv X pins σ H1 s1 → LamX.ExtN H H1 → (∀ b, (H b).isSome = true → (H1 b).isSome = true) → LamX.Tabs T H1 → H1 c' = some (LamX.CodeO c' (X.env.qual ++ "<lambda>")) →
   Q (.ref s1.heap.objs.size) { s1 with heap := s1.heap.push (PySem.W.kla_obj "<lambda>" (X.env.qual ++ "<lambda>") params body scope (cloFrom X.env.cells scope.names []) pm c' ctv), toks := tk } := fun {H1 s1 c' tk pm ctv} J ex th tb hc => by
  have nF : H1 s1.heap.objs.size = none := J.hok.fresh (Nat.le_refl _)
  refine h _ c' _ _ (inv_lam (F := ⟨X.env.qual ++ "<lambda>", params, body, scope, cloFrom X.env.cells scope.names [], c'⟩) J) (ex.trans (.of (ext_new nF))) (fun b hb => ?_) (tb.ext (ext_new nF)) ?_ upd_same (ext_new nF _ _ hc)
  ·obtain ⟨u, hu⟩ := Option.isSome_iff_exists.mp (th b hb)
   rw [ext_new nF b u hu]; rfl
  ·cases q : H s1.heap.objs.size with
   | none => rfl
   | some u =>
    have := th _ (by rw [q]; rfl)
    rw [nF] at this
    cases this
 refine PySem.W.kla_eval hdef ?_
 cases hc : codeAmong pos ps.toList with
 | none =>
  refine PySem.W.kla_makeFunction (mg := X.mg) (c := c) (P := P) (ps := ps) (closure_ok hfree) I.ok.glob (I.mod.glob.keeps I.bk) hcode (TB.code.keeps I.bk) hP' ht hc TB.gP bP fun c' ctv h' tk hx hge hlt hrec htb => ?_
  obtain ⟨c2, oc, vs, t, e2, hoc, hd, hv⟩ := hrec
  cases e2
  obtain ⟨t1, t2, t3⟩ := tab_next (pos := pos) hP ht ha (I.hok.fresh hge) hT hu
  exact last (LamX.inv_table (t' := tk) (more := #[rawInt pos.line, rawInt pos.col, .ref c']) (h' := h') I hP (fun b o hb e => hx b o hb e) htb hge ⟨oc, vs, t, hoc, hd, hv⟩) t1 t3 t2 upd_same
 | some cv =>
  obtain ⟨c', e, hco⟩ := ha pos cv hc
  subst e
  refine PySem.W.kla_makeFunctionHit (mg := X.mg) (c := c) (P := P) (ps := ps) (closure_ok hfree) I.ok.glob (I.mod.glob.keeps I.bk) hcode (TB.code.keeps I.bk) hP' ht hc bP fun ctv h' tk hx hsz => ?_
  exact last (s1 := { s with heap := h', toks := tk }) (I.kept fun b o e => hx b o e) (LamX.ExtN.refl H) (fun _ z => z) hT hco
end
end Y
namespace Y
open PySem PySem.Spec PyProof.Rows L2
abbrev LF.nf (F : LF) : NdefX.NF := ⟨"<lambda>", F.qual, F.params, [], F.scope, F.cl, F.c⟩
structure NOkL (P : Program) (w : World) (K : PySem.W.Frag) (mg : Str → Option Value) (base : Heap) (CX : CXT) (k : Nat) (f : Addr) (F : LF) (ps fr : List Str) (sp : List (Option V) → Sp) : Prop where
 len : ∀ ws vs H Q E, sp ws vs H Q E → vs.length = ps.length
 run : ∀ (A : Around), A.guards = some [] → ∀ (outer : List Env) (s : Shared) (H : Hp) (us : List Value) (vs : List V) (ws : List (Option V)) (Q : VK) (E : XK), Room k A → Env0 P w K mg base A outer s H → H f = some (LamO f F) → H F.c = some (LamX.CodeO F.c F.qual) →
  NdefX.CellsAt F.cl fr ws s.heap H → Vals vs us → sp ws vs H Q E → codeAny (model P w) A (.call (.ref f) ⟨us, []⟩) (CR CX outer P w H s Q E) s
section
variable {CX : CXT} {P : Program} {w : World} {K : PySem.W.Frag} {mg : Str → Option Value} {base : Heap} {N ps fr : List Str} {F : LF} {f : Addr} {k j : Nat} {sp : List (Option V) → Sp}
theorem nokL_of (S : NdefX.NScope N ps fr F.scope) (hb : ∀ (pm ctv : Value) (us : List Value), us.length = ps.length → bindArgs (F.fd pm ctv) ⟨us, []⟩ = pure (ps.zip us)) (len : ∀ ws vs H Q E, sp ws vs H Q E → vs.length = ps.length)
  (hbody : ∀ (A : Around), A.guards = some [] → ∀ (outer : List Env) (s : Shared) (H : Hp) (vs : List V) (ws : List (Option V)) (Q : VK) (E : XK), Room k (A.deeper (NdefX.envF F.nf f s.heap.objs.size)) → ws.length = fr.length → sp ws vs H Q E →
   ∃ t : TE, PE (NdefX.ncx CX P w K mg base N F.nf f A outer s H E) F.body t ∧ t (NdefX.startF N vs ws) H Q) :
  NOkL P w K mg base CX (k + 1) f F ps fr sp := by
 refine ⟨len, fun A gd outer s H us vs ws Q E hr e0 hf hc C r hsp => ?_⟩
 have hl := len _ _ _ _ _ hsp
 have lim : s.heap.NoLimit := e0.mod.nolimit.keeps fun b o e => (e0.bs b o e).1
 obtain ⟨od, sl, pm, ctv, ho⟩ := lamO_at e0.hok hf
 refine PySem.W.kla_callFunE hr.depth ho rfl S.co S.gen rfl (NdefX.codeO_at e0.hok hc) ?_
 rw [hb pm ctv us (by rw [← r.length]; exact hl)]
 refine wpAny_pure (wpAny_newFunctionEnv S.nocell (fun ⟨n, _⟩ hy => S.par n (List.of_mem_zip hy).1) (fun h1 hns hsb => ⟨lim.fresh _ hsb, ?_⟩) S.kind)
 show codeAny _ _ (.expr F.body (NdefX.envF F.nf f s.heap.objs.size)) _ _
 have kp : ∀ b o, s.heap.get? b = some o → h1.get? b = some o := fun b o e => hsb.extBut b o (Nat.ne_of_lt (Heap.lt_size e)) (Heap.get?_push_of_some _ e)
 obtain ⟨t, ht, hq⟩ := hbody A gd outer s H vs ws Q E (hr.deeper _) C.len hsp
 have I : Inv (NdefX.ncx CX P w K mg base N F.nf f A outer s H E) [] (NdefX.startF N vs ws) H { s with heap := h1, toks := s.toks + (ps.zip us).length } := NdefX.inv_startN S hr.hd e0 hl r C hns kp
 refine PySem.W.kla_codeExpr (wpAny_mono (ht.run [] _ (NdefX.startF N vs ws) H Q I hq) (fun u s2 hs => ?_) fun e s2 hs => hs)
 obtain ⟨v, H2, J, rv, q⟩ := hs
 exact ⟨v, H2, J.os, J.bare, J.base, J.hok, rv, q⟩
end
end Y
namespace Y
open PySem PySem.Spec PyProof.Rows L2
abbrev rn : Str := "runner"
end Y
namespace Y
open PySem PySem.Spec PyProof.Rows L2
def semC (c : C) (E : Ev) : Fn := fun ds => M.bnd (evE E c (ent none 0 ds)) fun (s, _) => some (.ok (s, none))
def spC (K : PySem.W.Frag) (sem : Fn) (ws : List (Option V)) : Sp := fun vs H Q E => ∃ F d ds v vs', vs = [v] ∧ ws = vs'.map some ∧ Same F H ∧ Tb K F H ∧ At K F v d ∧ Paired (At K F) vs' ds ∧
 wp (sem (d :: ds)) (fun (r, _) => ∀ v F' H', CallPost K F H F' H' none v r none → Q v H') (fun c => ∀ dd F' H', XdOk K F' H' c dd → Same F F' → Same F' H' → Tb K F' H' → (∀ b, F b = none → (H b).isSome = true → F' b = none) →
  (∀ b u, H b = some u → nt u → H' b = some u) → (∀ b, (H b).isSome = true → (H' b).isSome = true) → E (.ref (He.ga K c.c)) dd H')
theorem argAt_data {K : PySem.W.Frag} {F H : Hp} : ∀ {vs : List V} {ds : List D} (j : Nat), Paired (At K F) vs ds → ArgAt K F H none j vs ds
 | [], _, j, h => by cases h; exact .nil
 | v :: vs, _, j, h => by
  cases h with
  | cons h1 h2 => exact .val (by simp) h1 (argAt_data (j + 1) h2)
section
variable {P : Program} {w : World} {K : PySem.W.Frag} {mg : Str → Option Value} {base : Heap} {st : Ev} {blt exB : Str → Bool} {a b : Nat → Fn} {k : Nat} {f : Addr} {F : LF} {x : Str} {fr : List Str} {c : C}
theorem bg_lam (M : Md P w K mg st blt exB) (L : LvAll P w K mg base (mkE st a b) k) (S : NdefX.NScope (x :: fr) [x] fr F.scope) {A : Around} {outer : List Env} {s : Shared} {H : Hp} {W : XK} {R : Fr} (hR : R.K = K) (gd : A.guards = some [])
  (hr : Room k (A.deeper (NdefX.envF F.nf f s.heap.objs.size))) : Bg ⟨mkE st a b, x :: fr, blt, exB, true⟩ k (NdefX.ncx (RX.CX P w) P w K mg base (x :: fr) F.nf f A outer s H W) R W F.scope (fun _ => false) where
 hK := hR.symm
 hN := rfl
 nd := S.nd
 calm := rfl
 gd := gd
 room := hr
 tk := RX.takes_of rfl rfl rfl rfl
 L := by rw [hR]; exact L _ rfl rfl rfl rfl rfl
 att := by rw [hR]; exact M.att
 isi := by rw [hR]; exact ⟨M.isi.is_, M.isi.xc, M.isi.cl⟩
 con := fun x d e => by
  obtain ⟨u, v, h1, h2, h3⟩ := M.con x d e
  exact ⟨u, v, h1, h2, by rw [hR]; exact h3⟩
 kd := by rw [hR]; exact M.kd
 blt := M.blt
 cl := by rw [hR]; exact M.cl
 exc := by rw [hR]; exact M.exc
 hsc := rfl
 kind := S.kind
 fn := fun _ h => by cases h
 top := fun _ => ⟨rfl, rfl⟩
theorem lam_okC (M : Md P w K mg st blt exB) (L : LvAll P w K mg base (mkE st a b) k) (S : NdefX.NScope (x :: fr) [x] fr F.scope) (hbind : ∀ (pm ctv : Value) (us : List Value), us.length = 1 → bindArgs (F.fd pm ctv) ⟨us, []⟩ = pure ([x].zip us))
  (hc : chk ⟨mkE st a b, x :: fr, blt, exB, true⟩ 60 F.scope F.body c = true) : NOkL P w K mg base (RX.CX P w) (k + 1) f F [x] fr (spC K (semC c (mkE st a b))) := by
 refine nokL_of S hbind (fun ws vs H Q E ⟨_, _, _, _, _, h, _⟩ => by rw [h]; rfl) fun A gd outer s H vs ws Q Ex hr hws ⟨F0, d, ds, v, vs', hvs, hw, eF, tF, hd, hp, q⟩ => ?_
 subst hvs hw
 have hlen : vs'.length = fr.length := by rw [← hws, List.length_map]
 have hdl : ds.length = fr.length := by rw [← hp.length, hlen]
 have B := bg_lam (R := ⟨K, H, F0, []⟩) M L S (W := Ex) (s := s) (outer := outer) (H := H) rfl gd hr
 refine ⟨_, (chk_ok _ k 60 _ c B hc).te, F0, ent none 0 (d :: ds), ?_, ?_⟩
 ·have r := rel_start (N := x :: fr) (io := none) eF tF (argAt_data 0 (.cons hd hp)) (by simp; omega)
  have e1 : ent none 0 (d :: ds) ++ List.replicate ((x :: fr).length - (d :: ds).length) none = ent none 0 (d :: ds) := by simp [hdl]
  have e2 : start (x :: fr) (v :: vs') = NdefX.startF (x :: fr) [v] (vs'.map some) := by simp [L2.start, NdefX.startF, hlen]
  rw [e1, e2] at r
  exact r.rel
 ·have r := rel_start (N := x :: fr) (io := none) eF tF (argAt_data 0 (.cons hd hp)) (by simp; omega)
  have e1 : ent none 0 (d :: ds) ++ List.replicate ((x :: fr).length - (d :: ds).length) none = ent none 0 (d :: ds) := by simp [hdl]
  have e2 : start (x :: fr) (v :: vs') = NdefX.startF (x :: fr) [v] (vs'.map some) := by simp [L2.start, NdefX.startF, hlen]
  rw [e1, e2] at r
  refine wp_mono (wp_bnd q) (fun (sl, g') q2 u F' H' r' st' h => ?_) fun c hw d F' H' xd eF eH tb nF fr th => hw d F' H' xd eF eH tb nF (fun b u h1 ht => fr b u h1 ht fun q hq => by cases hq) th
  exact q2 u F' H' (post_of (io := none) (vs := v :: vs') (g := g') (σ := NdefX.startF (x :: fr) [v] (vs'.map some)) (fun p hp => by cases hp) (r.step r' st') h rfl)
end
end Y
namespace Y
open PySem PySem.Spec PyProof.Rows L2
abbrev nA : Str := "ask"
abbrev nF : Str := "found"
abbrev nE : Str := "error"
end Y
namespace Y
open PySem PySem.Spec PyProof.Rows L2
def IsEnd (b : List Stmt) : Prop := ∃ (p1 p2 p3 p4 p5 p6 p7 p8 p9 p10 p11 p12 p13 p14 p15 p16 p17 p18 p19 p20 p21 p22 p23 p24 p25 p26 p27 p28 p29 p30 : Pos) (j1 j2 j3 j4 j5 j6 k1 k2 k3 : Nat),
 b = [.Try [.Assign [.Name nF p1] (.Call (.Name nA p2) [.Name rn p3] [] p4) p5] [.ExceptHandler (some (.Name "Halt" p6)) (some nE) [.Return (some (.IfExp (.Compare (.Attribute (.Name nE p7) "number" p8) [.IsNot] [.Constant .none j1 p9] p10)
    (.Tuple [.Constant (.str "failed") j2 p11, .Attribute (.Name nE p12) "number" p13, .Attribute (.Name nE p14) "chain" p15] k1 p16) (.Tuple [.Constant (.str "spent") j3 p17, .Constant .none j4 p18, .Constant .none j5 p19] k2 p20) p21)) p22] p23]
   [.Return (some (.Tuple [.Constant (.str "worth") j6 p24, .Name nF p25, .Attribute (.Name rn p26) "done" p27] k3 p28)) p29] [] p30]
def capD (g : G) : List Nat → Option (List D)
 | [] => some []
 | j :: js => match g.get j, capD g js with
  | some ⟨d, .fr, _⟩, some ds => some (d :: ds)
  | _, _ => none
section
variable {R : Fr} {F H F' H' F0 H0 : Hp} {g g0 : G} {σ : L2.St}
theorem Rel.calledX {io : Option Addr} (rl : Rel R F g σ H) (exF : Same F F') (ex : Same F' H') (tb : Tb R.K F' H') (fr : ∀ b u, H b = some u → nt u → io ≠ some b → H' b = some u) (nF : ∀ b, F b = none → (H b).isSome = true → F' b = none) (th : ∀ b, (H b).isSome = true → (H' b).isSome = true)
  (st : Step g0 σ F0 H0 g F H) (r0 : Rel R F0 g0 σ H0) (hio : ∀ a, io = some a → ¬ Own g σ a ∧ H0 a = none) : Rel R F' g σ H' ∧ Step g0 σ F0 H0 g F' H' := by
 refine ⟨⟨rl.len, fun i s hi => ?_, rl.dis, ex, fun b u h hnt n => fr b u (rl.keep b u h hnt n) hnt fun e => ?_, fun b h => th b (rl.there b h), rl.ios, rl.iog, rl.f0.trans exF, fun b q1 q2 => nF b (rl.fn b q1 q2) (rl.there b q2), tb⟩,
  ⟨st.exF.trans exF, fun b u h hnt n => fr b u (st.fr b u h hnt n) hnt fun e => ?_, fun b h1 h2 n => nF b (st.nF b h1 h2 n) (st.there b h2), st.own, fun b h => th b (st.there b h)⟩⟩
 ·obtain ⟨w, h1, h2⟩ := rl.at_ i s hi
  refine ⟨w, h1, slAt_mono h2 exF (fun hm q e z => ?_) fun hm q e => ?_⟩
  ·subst e
   obtain ⟨_, u, hu⟩ := rl.own_some (b := q) ⟨i, s, hi, hm, h1⟩
   exact nF q z (by rw [hu]; rfl)
  ·subst e
   have ow : Own g σ q := ⟨i, s, hi, hm, h1⟩
   obtain ⟨_, u, hu, nu⟩ := rl.own_someN ow
   rw [hu]
   exact fr q u hu nu fun e => (hio q e).1 ow
 ·rw [(r0.fresh (hio b e).2).2.1] at h; cases h
 ·rw [(hio b e).2] at h; cases h
theorem Rel.lam {H1 : Hp} (rl : Rel R F g σ H) (ex : LamX.ExtN H H1) (th : ∀ b, (H b).isSome = true → (H1 b).isSome = true) (tb : LamX.Tabs (lamT R.K) H1) (st : Step g0 σ F0 H0 g F H) (r0 : Rel R F0 g0 σ H0) : Rel R F g σ H1 ∧ Step g0 σ F0 H0 g F H1 :=
 rl.calledX (io := none) (Same.refl F) (fun b o z => ex b o (rl.ex b o z) (rl.tb.fnt b o z)) ⟨tb, rl.tb.fnt⟩ (fun b u z n _ => ex b u z n) (fun _ z _ => z) th st r0 fun a z => by cases z
theorem cap_ok (rl : Rel R F g σ H) : ∀ {js : List Nat} {ds : List D}, capD g js = some ds → Paired (fun (w : Option V) d => ∃ v, w = some v ∧ At R.K F v d) (js.map (NdefX.slotAt σ)) ds
 | [], ds, h => by
  cases h
  exact .nil
 | j :: js, ds, h => by
  unfold capD at h
  split at h
  ·rename_i d n ds' e1 e2
   cases h
   obtain ⟨v, h1, h2⟩ := rl.at_ j _ e1
   exact .cons ⟨v, NdefX.slotAt_of h1, At.mono FN_le _ _ h2⟩ (cap_ok rl e2)
  ·cases h
end
section
variable {X : Cx}
def tLamE (T : List (Addr × Str)) (mk : Addr → LF) : TE := fun σ H Q => LamX.Tabs T H ∧ ∀ (f c' : Addr) (H1 : Hp), LamX.ExtN H H1 → (∀ b, (H b).isSome = true → (H1 b).isSome = true) → LamX.Tabs T H1 → H f = none → H1 f = some (LamO f (mk c')) → H1 c' = some (LamX.CodeO c' (mk c').qual) → Q (.ref f) H1
theorem pe_lam {T : List (Addr × Str)} {c P : Addr} {params : Arguments} {body : Expr} {scope : Scope} {pos : Pos} (TB : LamX.TabB X.base X.mg c P) (hcode : X.env.code = .ref c) (hm : (P, X.env.qual ++ "<lambda>") ∈ T) (hu : ∀ p ∈ T, p.1 = P → p.2 = X.env.qual ++ "<lambda>") (hdef : defaultsOf params X.env = ([], []))
  (hfree : ∀ y ∈ scope.names, y.2 = .free → X.env.scope.names.lookup y.1 = some .cell ∨ X.env.scope.names.lookup y.1 = some .free) :
  PE X (.Lambda params body scope pos) (tLamE T fun c' => ⟨X.env.qual ++ "<lambda>", params, body, scope, cloFrom X.env.cells scope.names [], c'⟩) := by
 refine ⟨fun pins s σ H Q I ⟨hT, h⟩ => ?_⟩
 exact lam_make I TB hcode hm hu hT hdef (fun y hy e => (hfree y hy e).elim (fun z => I.ok.has _ (.inl z)) fun z => I.ok.has _ (.inr z)) fun f c' H1 s' I1 e1 e2 e3 e4 e5 e6 => ⟨.ref f, H1, I1, rfl, h f c' H1 e1 e2 e3 e4 e5 e6⟩
end
end Y
namespace Y
open PySem PySem.Spec PyProof.Rows L2
theorem no_cx {P : Program} {w : World} {l : List Env} {H : Hp} {s s1 : Shared} {e : Value} (z : RX.CX P w l H s (fun _ _ _ => False) e s1) : False := by
 obtain ⟨_, _, _, _, _, _, _, _, _, _, _, _, z⟩ := z
 exact z
structure EndF (K : PySem.W.Frag) (mg : Str → Option Value) (fE : Addr) (fdE : FuncData) : Prop where
 ex : ∃ (pE : Arguments) (bE : List Stmt) (sE : Scope), FunD K "end_of" "end_of" pE bE sE [] [] fE fdE ∧ IsEnd bE ∧ FnScope [rn, nA, nF, nE] [rn, nA] sE ∧ sE.names.lookup rn = some .local ∧ sE.names.lookup nA = some .local ∧ sE.names.lookup nF = some .local ∧ sE.names.lookup nE = some .local ∧ sE.names.lookup ("Halt" : Str) = some .globalImplicit
 bind : Binds K fdE [rn, nA] []
 gl : mg "end_of" = some (.ref fE)
 kp : PySem.W.keepIn K (.ref fE) = true
 halt : mg "Halt" = some (.ref (He.ga K "Halt"))
 hx : HaltX K
end Y
namespace Y
open PySem PySem.Spec PyProof.Rows L2
def addH (C H : Hp) : Hp := fun b => match C b with
 | some o => some o
 | none => H b
def subH (C H : Hp) : Hp := fun b => match C b with
 | some _ => none
 | none => H b
theorem addH_in {C H : Hp} {b : Addr} {o : HO} (h : C b = some o) : addH C H b = some o := by unfold addH; rw [h]
theorem addH_out {C H : Hp} {b : Addr} (h : C b = none) : addH C H b = H b := by unfold addH; rw [h]
theorem subH_in {C H : Hp} {b : Addr} {o : HO} (h : C b = some o) : subH C H b = none := by unfold subH; rw [h]
theorem subH_out {C H : Hp} {b : Addr} (h : C b = none) : subH C H b = H b := by unfold subH; rw [h]
def Kn (C : Hp) : Prop := ∀ b o, C b = some o → ∃ ob, o = KnO ob
section
variable {P : Program} {w : World} {K : PySem.W.Frag} {mg : Str → Option Value} {base : Heap} {A : Around} {outer : List Env} {s s' : Shared} {C H H' : Hp} {h B : Heap}
theorem hok_add (hC : Kn C) (ok : HOk P w H h) (no : ∀ b o, C b = some o → H b = none) (ge : ∀ b ob, C b = some (KnO ob) → h.get? b = some ob) : HOk P w (addH C H) h := fun b u e => by
 cases q : C b with
 | some o =>
  rw [addH_in q] at e
  cases e
  obtain ⟨ob, rfl⟩ := hC b _ q
  exact ⟨ge b ob q, ob, ge b ob q⟩
 | none =>
  rw [addH_out q] at e
  have keep : ∀ c x, H c = some x → addH C H c = some x := fun c x z => by
   rw [addH_out]
   ·exact z
   ·cases q2 : C c with
    | none => rfl
    | some o => rw [no c o q2] at z; cases z
  exact (ok b u e).stay (fun _ _ _ z => z) (fun c z => keep c _ z) fun c xs z => keep c _ z
theorem hok_sub (hC : Kn C) (ok : HOk P w H h) (ins : ∀ b o, C b = some o → H b = some o) : HOk P w (subH C H) h := fun b u e => by
 cases q : C b with
 | some o => rw [subH_in q] at e; cases e
 | none =>
  rw [subH_out q] at e
  have keep : ∀ c x, H c = some x → (∀ ob, x ≠ KnO ob) → subH C H c = some x := fun c x z n => by
   rw [subH_out]
   ·exact z
   ·cases q2 : C c with
    | none => rfl
    | some o =>
     rw [ins c o q2] at z
     cases z
     obtain ⟨ob, e⟩ := hC c _ q2
     exact absurd e (n ob)
  exact (ok b u e).stay (fun _ _ _ z => z) (fun c z => keep c _ z fun ob z => by cases z) fun c xs z => keep c _ z fun ob z => by cases z
structure KnAt (base : Heap) (outer : List Env) (C : Hp) (h : Heap) : Prop where
 kn : Kn C
 ge : ∀ b ob, C b = some (KnO ob) → h.get? b = some ob
 nf : ∀ b o, C b = some o → b ∉ frs outer
 nb : ∀ b o, C b = some o → base.get? b = none
theorem env0_add (e : Env0 P w K mg base A outer s H) (hC : KnAt base outer C s.heap) (no : ∀ b o, C b = some o → H b = none) : Env0 P w K mg base A outer s (addH C H) where
 frames := e.frames
 mod := e.mod
 bs := fun b o z => ⟨(e.bs b o z).1, by
  rw [addH_out]
  ·exact (e.bs b o z).2
  ·cases q : C b with
   | none => rfl
   | some u => rw [hC.nb b u q] at z; cases z⟩
 bsz := e.bsz
 funs := e.funs
 frf := fun b hb => by
  rw [addH_out]
  ·exact e.frf b hb
  ·cases q : C b with
   | none => rfl
   | some u => exact absurd hb (hC.nf b u q)
 hok := hok_add hC.kn e.hok no hC.ge
 bare := e.bare
theorem env0_sub (e : Env0 P w K mg base A outer s H) (hC : Kn C) (ins : ∀ b o, C b = some o → H b = some o) : Env0 P w K mg base A outer s (subH C H) where
 frames := e.frames
 mod := e.mod
 bs := fun b o z => ⟨(e.bs b o z).1, by
  cases q : C b with
  | none => rw [subH_out q]; exact (e.bs b o z).2
  | some u => exact subH_in q⟩
 bsz := e.bsz
 funs := e.funs
 frf := fun b hb => by
  cases q : C b with
  | none => rw [subH_out q]; exact e.frf b hb
  | some u => exact subH_in q
 hok := hok_sub hC e.hok ins
 bare := e.bare
theorem kc_sub (hC : Kn C) (ins : ∀ b o, C b = some o → H b = some o) : ∀ {n : Nat} {x : Addr}, RX.KC H n x → RX.KC (subH C H) n x := by
 have keep : ∀ c x v, H c = some (RX.chn x v) → subH C H c = some (RX.chn x v) := fun c x v z => by
  rw [subH_out]
  ·exact z
  ·cases q2 : C c with
   | none => rfl
   | some o =>
    rw [ins c o q2] at z
    cases z
    obtain ⟨ob, e⟩ := hC c _ q2
    cases e
 intro n
 induction n with
 | zero => exact fun {x} h => keep x x .none h
 | succ n ih => exact fun {x} ⟨y, h1, h2⟩ => ⟨y, keep x x _ h1, ih h2⟩
theorem flying_imp {l : List Env} {a : Addr} {Z Z' : Obj → Prop} (h : PySem.HandSPX.FlyingZ B l a Z s'.heap) (hz : ∀ o, Z o → Z' o) : PySem.HandSPX.FlyingZ B l a Z' s'.heap := by
 obtain ⟨h1, h2, h3, oe, vs, T, oT, ts, g1, g2, g3⟩ := h
 exact ⟨h1, h2, h3, oe, vs, T, oT, ts, g1, hz _ g2, g3⟩
theorem zk_imp {cls : Value} {d : Option Addr} (h : ∀ {n : Nat} {x : Addr}, RX.KC H n x → RX.KC H' n x) (o : Obj) (z : RX.Zk H cls d o) : RX.Zk H' cls d o :=
 ⟨z.1, z.2.1, fun vs e => (z.2.2 vs e).imp id fun ⟨n, x, h1, h2⟩ => ⟨n, x, h1, h h2⟩⟩
theorem cr_add {Q Q' : VK} {E E' : XK} {r : Result} (hC : KnAt base outer C s.heap) (no : ∀ b o, C b = some o → H b = none) (h : CR (RX.CX P w) outer P w (addH C H) s Q' E' r s')
  (hQ : ∀ v H', (∀ b o, C b = some o → H' b = some o) → Q' v H' → Q v (subH C H')) (hE : ∀ c d H', (∀ b o, C b = some o → H' b = some o) → E' c d H' → E c d (subH C H')) : CR (RX.CX P w) outer P w H s Q E r s' := by
 have ret : ∀ u, CE outer P w (addH C H) s Q' u s' → CE outer P w H s Q u s' := fun u ⟨v, H', os, bare, un, ok, rv, q⟩ => by
  have ins : ∀ b o, C b = some o → H' b = some o := fun b o z => by
   obtain ⟨ob, rfl⟩ := hC.kn b o z
   exact un.frzs b ob _ (addH_in z)
  refine ⟨v, subH C H', os, bare, ⟨fun b o e n hb hx => ?_, fun b o e n hb hx => ?_, fun b o e n hx => ?_, fun b o e hx => un.there b o e hx, fun b xs e => ?_, fun b o u e => ?_, fun b ps e => ?_⟩, hok_sub hC.kn ok ins, rv, hQ v H' ins q⟩
  ·cases z : C b with
   | none => exact un.keep b o e (by rw [addH_out z]; exact n) hb hx
   | some u =>
    obtain ⟨ob, rfl⟩ := hC.kn b u z
    rw [hC.ge b ob z] at e
    cases e
    exact (ok b _ (ins b _ z)).1
  ·cases z : C b with
   | none => exact un.slot b o e (by rw [addH_out z]; exact n) hb hx
   | some u => exact absurd hb (hC.nf b u z)
  ·cases z : C b with
   | none => rw [subH_out z]; exact un.free b o e (by rw [addH_out z]; exact n) hx
   | some u => exact subH_in z
  ·have z : C b = none := by
    cases z : C b with
    | none => rfl
    | some u => rw [no b u z] at e; cases e
   rw [subH_out z]
   exact un.tups b xs (by rw [addH_out z]; exact e)
  ·have z : C b = none := by
    cases z : C b with
    | none => rfl
    | some u => rw [no b u z] at e; cases e
   rw [subH_out z]
   exact un.frzs b o u (by rw [addH_out z]; exact e)
  ·have z : C b = none := by
    cases z : C b with
    | none => rfl
    | some u => rw [no b u z] at e; cases e
   rw [subH_out z]
   exact un.tbls b ps (by rw [addH_out z]; exact e)
 match r, h with
 | .ok (.ret u), h => exact ret u h
 | .ok .next, h => exact h.elim
 | .ok .brk, h => exact h.elim
 | .ok .cont, h => exact h.elim
 | .error e, h =>
  obtain ⟨a, B, H', cls, d, rfl, fl, ok, ub, na, os, ag, q⟩ := h
  have ins : ∀ b o, C b = some o → H' b = some o := fun b o z => by
   obtain ⟨ob, rfl⟩ := hC.kn b o z
   exact ub.frzs b ob _ (addH_in z)
  refine ⟨a, B, subH C H', cls, d, rfl, flying_imp fl (zk_imp (kc_sub hC.kn ins)), hok_sub hC.kn ok ins, ⟨fun b o e n hb => ?_, ub.slot, fun b o e n => ?_, ub.there, fun b xs e => ?_, fun b o u e => ?_, fun b ps e => ?_⟩, ?_, os, ag, hE _ _ _ ins q⟩
  ·cases z : C b with
   | none => exact ub.keep b o e (by rw [addH_out z]; exact n) hb
   | some u =>
    obtain ⟨ob, rfl⟩ := hC.kn b u z
    rw [hC.ge b ob z] at e
    cases e
    exact (ok b _ (ins b _ z)).1
  ·cases z : C b with
   | none => rw [subH_out z]; exact ub.free b o e (by rw [addH_out z]; exact n)
   | some u => exact subH_in z
  ·have z : C b = none := by
    cases z : C b with
    | none => rfl
    | some u => rw [no b u z] at e; cases e
   rw [subH_out z]
   exact ub.tups b xs (by rw [addH_out z]; exact e)
  ·have z : C b = none := by
    cases z : C b with
    | none => rfl
    | some u => rw [no b u z] at e; cases e
   rw [subH_out z]
   exact ub.frzs b o u (by rw [addH_out z]; exact e)
  ·have z : C b = none := by
    cases z : C b with
    | none => rfl
    | some u => rw [no b u z] at e; cases e
   rw [subH_out z]
   exact ub.tbls b ps (by rw [addH_out z]; exact e)
  ·cases z : C a with
   | none => rw [subH_out z]; exact na
   | some u => exact subH_in z
theorem cr_sub {Q Q' : VK} {E E' : XK} {r : Result} (hC : KnAt base outer C s.heap) (ins : ∀ b o, C b = some o → H b = some o) (h : CR (RX.CX P w) outer P w (subH C H) s Q' E' r s')
  (hQ : ∀ v H', (∀ b o, C b = some o → H' b = none) → Q' v H' → Q v (addH C H')) (hE : ∀ c d H', (∀ b o, C b = some o → H' b = none) → E' c d H' → E c d (addH C H')) : CR (RX.CX P w) outer P w H s Q E r s' := by
 have sub0 : ∀ {b x}, H b = some x → (∀ ob, x ≠ KnO ob) → C b = none := fun {b x} e n => by
  cases z : C b with
  | none => rfl
  | some u =>
   rw [ins b u z] at e
   cases e
   obtain ⟨ob, rfl⟩ := hC.kn b _ z
   exact absurd rfl (n ob)
 have ret : ∀ u, CE outer P w (subH C H) s Q' u s' → CE outer P w H s Q u s' := fun u ⟨v, H', os, bare, un, ok, rv, q⟩ => by
  have no : ∀ b o, C b = some o → H' b = none := fun b o z => by
   obtain ⟨ob, rfl⟩ := hC.kn b o z
   exact un.free b ob (hC.ge b ob z) (subH_in z) (by simp)
  have ge : ∀ b ob, C b = some (KnO ob) → s'.heap.get? b = some ob := fun b ob z => un.keep b ob (hC.ge b ob z) (subH_in z) (hC.nf b _ z) (by simp)
  refine ⟨v, addH C H', os, bare, ⟨fun b o e n hb hx => un.keep b o e ?_ hb hx, fun b o e n hb hx => un.slot b o e ?_ hb hx, fun b o e n hx => ?_, fun b o e hx => un.there b o e hx, fun b xs e => ?_, fun b o u e => ?_, fun b ps e => ?_⟩, hok_add hC.kn ok no ge, rv, hQ v H' no q⟩
  ·cases z : C b with
   | none => rw [subH_out z]; exact n
   | some u => exact subH_in z
  ·cases z : C b with
   | none => rw [subH_out z]; exact n
   | some u => exact subH_in z
  ·cases z : C b with
   | none => rw [addH_out z]; exact un.free b o e (by rw [subH_out z]; exact n) hx
   | some u => rw [ins b u z] at n; cases n
  ·have z := sub0 e fun ob z => by cases z
   rw [addH_out z]
   exact un.tups b xs (by rw [subH_out z]; exact e)
  ·cases z : C b with
   | none => rw [addH_out z]; exact un.frzs b o u (by rw [subH_out z]; exact e)
   | some x => rw [ins b x z] at e; cases e; exact addH_in z
  ·have z := sub0 e fun ob z => by cases z
   rw [addH_out z]
   exact un.tbls b ps (by rw [subH_out z]; exact e)
 match r, h with
 | .ok (.ret u), h => exact ret u h
 | .ok .next, h => exact h.elim
 | .ok .brk, h => exact h.elim
 | .ok .cont, h => exact h.elim
 | .error e, h =>
  obtain ⟨a, B, H', cls, d, rfl, fl, ok, ub, na, os, ag, q⟩ := h
  have no : ∀ b o, C b = some o → H' b = none := fun b o z => by
   obtain ⟨ob, rfl⟩ := hC.kn b o z
   exact ub.free b ob (hC.ge b ob z) (subH_in z)
  have ge : ∀ b ob, C b = some (KnO ob) → B.get? b = some ob := fun b ob z => ub.keep b ob (hC.ge b ob z) (subH_in z) (hC.nf b _ z)
  have up : ∀ b o, H' b = some o → addH C H' b = some o := fun b o e => by
   rw [addH_out]
   ·exact e
   ·cases z : C b with
    | none => rfl
    | some u => rw [no b u z] at e; cases e
  refine ⟨a, B, addH C H', cls, d, rfl, flying_imp fl (zk_imp (RX.KC.mono up)), hok_add hC.kn ok no ge, ⟨fun b o e n hb => ub.keep b o e ?_ hb, ub.slot, fun b o e n => ?_, ub.there, fun b xs e => ?_, fun b o u e => ?_, fun b ps e => ?_⟩, ?_, os, ag, hE _ _ _ no q⟩
  ·cases z : C b with
   | none => rw [subH_out z]; exact n
   | some u => exact subH_in z
  ·cases z : C b with
   | none => rw [addH_out z]; exact ub.free b o e (by rw [subH_out z]; exact n)
   | some u => rw [ins b u z] at n; cases n
  ·have z := sub0 e fun ob z => by cases z
   rw [addH_out z]
   exact ub.tups b xs (by rw [subH_out z]; exact e)
  ·cases z : C b with
   | none => rw [addH_out z]; exact ub.frzs b o u (by rw [subH_out z]; exact e)
   | some x => rw [ins b x z] at e; cases e; exact addH_in z
  ·have z := sub0 e fun ob z => by cases z
   rw [addH_out z]
   exact ub.tbls b ps (by rw [subH_out z]; exact e)
  ·cases z : C a with
   | none => rw [addH_out z]; exact na
   | some u =>
    obtain ⟨ob, rfl⟩ := hC.kn a u z
    have h1 := ge a ob z
    rw [fl.2.1] at h1
    cases h1
end
end Y
namespace Y
open PySem PySem.Spec PyProof.Rows L2
def TryOkX (K : PySem.W.Frag) (C : Str) (hs : Str → Bool) : Prop := ∀ c, hs c = true → PySem.W.exmOne K (.ref (He.ga K c)) (.ref (He.ga K C)) = some true
theorem tryXB_ok {K : PySem.W.Frag} {C : Str} {l : List Str} (h : tryXB K C l = true) : TryOkX K C (fun c => l.contains c) := fun c hc => by
 have := List.all_eq_true.mp h c (List.contains_iff_mem.mp hc)
 simpa using this
end Y
namespace Y
open PySem PySem.Spec PyProof.Rows L2
section
variable {X : Cx} {k : Nat} {f : Addr} {fd : FuncData} {ps : List Str} {sp : Sp} {dvs : List V} {ds : List Value} {E0 E' : XK} {C : Hp}
theorem run_fnA {pins : List (Addr × Obj)} {σ : L2.St} {H : Hp} {s : Shared} {Q Q' : VK} {us : List Value} {vs : List V} (F : FnG X.prog X.w X.K X.mg X.base (RX.CX X.prog X.w) k f fd ps sp) (gd : X.A.guards = some []) (rm : Room k X.A) (bi : Binds X.K fd ps ds) (vd : Vals dvs ds)
  (xp : ∀ (u : Value) (s1 : Shared), RX.CX X.prog X.w X.stack H s E0 u s1 → X.xe u s1) (I : Inv X pins σ H s) (vr : Vals vs us) (hC : KnAt X.base X.stack C s.heap) (no : ∀ b o, C b = some o → H b = none) (q : sp (vs ++ dvs) (addH C H) Q' E')
  (hQ : ∀ v H', (∀ b o, C b = some o → H' b = some o) → Q' v H' → Q v (subH C H')) (hE : ∀ c d H', (∀ b o, C b = some o → H' b = some o) → E' c d H' → E0 c d (subH C H')) : wpAny (model X.prog X.w) X.A (call (.ref f) us) (EP X pins σ Q) X.xe s := by
 have both := vr.append vd
 have len : (us ++ ds).length = ps.length := both.length.symm.trans (F.long _ _ _ _ q)
 refine wpAny_call (codeAny_mono (F.go X.A gd X.stack s (addH C H) ⟨us, []⟩ _ _ Q' E' rm (env0_add I.env0 hC no) (bi s us I.kIn len) both q) ?_)
 intro r1 s1 z
 have z := cr_add hC no z hQ hE
 match r1, z with
 | .error u, z => exact xp u s1 z
 | .ok (.ret u), z => exact I.after z
 | .ok .next, z => exact z.elim
 | .ok .brk, z => exact z.elim
 | .ok .cont, z => exact z.elim
end
mutual
def D.plain : D → Bool
 | .clo _ _ => false
 | .xcp _ => false
 | .lst xs => plainL xs
 | .tup xs => plainL xs
 | .dct _ xs => plainL xs
 | .dctT _ xs => plainL xs
 | .obj _ _ xs => plainL xs
 | _ => true
def plainL : List D → Bool
 | [] => true
 | d :: ds => D.plain d && plainL ds
end
section
variable {K : PySem.W.Frag} {F G : Hp}
mutual
theorem At.kn (e : ∀ b o, F b = some o → (∀ ob, o ≠ KnO ob) → G b = some o) : ∀ (d : D) (v : V), At K F v d → d.plain = true → At K G v d
 | .non, _, h, _ => by cases h; exact .non
 | .bl b, _, h, _ => by cases h; exact .bl b
 | .int i, _, h, _ => by cases h; exact .int i
 | .str s, _, h, _ => by cases h; exact .str s
 | .scr ns, _, h, _ => by
  cases h with
  | scr h1 =>
   refine .scr ?_
   unfold SqL at *
   rcases h1 with (h1 | ⟨o, h1⟩) | h1
   ·exact .inl (.inl (e _ _ h1 fun ob z => by cases z))
   ·exact .inl (.inr ⟨o, e _ _ h1 fun ob z => by cases z⟩)
   ·exact .inr h1
 | .ktup xs, _, h, _ => by cases h with | ktup h1 => exact .ktup h1
 | .opq, v, _, _ => .opq v
 | .clo _ _, _, _, p => by cases p
 | .xcp _, _, _, p => by cases p
 | .lst xs, _, h, p => by cases h with | lst h1 h2 => exact .lst (e _ _ h1 fun ob z => by cases z) (atL_kn e xs _ h2 p)
 | .tup xs, _, h, p => by cases h with | tup h1 h2 => exact .tup (e _ _ h1 fun ob z => by cases z) (atL_kn e xs _ h2 p)
 | .dct ks xs, _, h, p => by
  cases h with
  | dct h1 h2 h3 =>
   refine .dct ?_ h2 (atL_kn e xs _ h3 p)
   rcases h1 with h1 | ⟨o, h1⟩
   ·exact .inl (e _ _ h1 fun ob z => by cases z)
   ·exact .inr ⟨o, e _ _ h1 fun ob z => by cases z⟩
 | .dctT ks xs, _, h, p => by cases h with | dctT h1 h2 h3 => exact .dctT (e _ _ h1 fun ob z => by cases z) h2 (atL_kn e xs _ h3 p)
 | .obj c fs xs, _, h, p => by cases h with | obj h1 h2 h3 => exact .obj (e _ _ h1 fun ob z => by cases z) h2 (atL_kn e xs _ h3 p)
theorem atL_kn (e : ∀ b o, F b = some o → (∀ ob, o ≠ KnO ob) → G b = some o) : ∀ (ds : List D) (vs : List V), Paired (At K F) vs ds → plainL ds = true → Paired (At K G) vs ds
 | [], _, h, _ => by cases h; exact .nil
 | d :: ds, _, h, p => by
  unfold plainL at p
  rw [Bool.and_eq_true] at p
  cases h with | cons h1 h2 => exact .cons (At.kn e d _ h1 p.1) (atL_kn e ds _ h2 p.2)
end
end
section
variable {K : PySem.W.Frag} {F F' H H' C : Hp}
theorem tb_sub (t : Tb K F H) (hC : Kn C) (iH : ∀ b o, C b = some o → H b = some o) : Tb K (subH C F) (subH C H) := by
 have keep : ∀ b o, H b = some o → (∀ ob, o ≠ KnO ob) → subH C H b = some o := fun b o h n => by
  cases z : C b with
  | none => rw [subH_out z]; exact h
  | some u =>
   rw [iH b u z] at h
   cases h
   obtain ⟨ob, e⟩ := hC b _ z
   exact absurd e (n ob)
 refine ⟨fun q hq => ?_, fun b o z => ?_⟩
 ·obtain ⟨ps, h3, h4, h5⟩ := t.tab q hq
  refine ⟨ps, keep _ _ h3 (fun ob z => by cases z), h4, fun pos cv hc => ?_⟩
  obtain ⟨c, e1, e2⟩ := h5 pos cv hc
  exact ⟨c, e1, keep _ _ e2 (fun ob z => by cases z)⟩
 ·cases q : C b with
  | none => rw [subH_out q] at z; exact t.fnt b o z
  | some u => rw [subH_in q] at z; cases z
theorem nt_kn {ob : Obj} : nt (KnO ob) := fun _ z => by cases z
theorem tb_add (t : Tb K F H) (hC : Kn C) (no : ∀ b o, C b = some o → H b = none) : Tb K (addH C F) (addH C H) := by
 have up : ∀ b o, H b = some o → addH C H b = some o := fun b o e => by
  cases z : C b with
  | none => rw [addH_out z]; exact e
  | some u => rw [no b u z] at e; cases e
 refine ⟨t.tab.ext up, fun b o z => ?_⟩
 cases q : C b with
 | none => rw [addH_out q] at z; exact t.fnt b o z
 | some u =>
  rw [addH_in q] at z
  cases z
  obtain ⟨ob, rfl⟩ := hC b _ q
  exact nt_kn
end
theorem knAt_of {P : Program} {w : World} {K : PySem.W.Frag} {mg : Str → Option Value} {base : Heap} {A : Around} {outer : List Env} {s : Shared} {H C : Hp} (e0 : Env0 P w K mg base A outer s H) (hC : Kn C) (iH : ∀ b o, C b = some o → H b = some o) : KnAt base outer C s.heap where
 kn := hC
 ge := fun b ob z => (e0.hok b _ (iH b _ z)).1
 nf := fun b o z hb => by
  have := e0.frf b hb
  rw [iH b o z] at this
  cases this
 nb := fun b o z => by
  cases q : base.get? b with
  | none => rfl
  | some u =>
   have := (e0.bs b u q).2
   rw [iH b o z] at this
   cases this
end Y
namespace Y
open PySem PySem.Spec PyProof.Rows L2
structure HaltF (K : PySem.W.Frag) (mg : Str → Option Value) (C CM fI : Addr) (mc : Value) : Prop where
 T : OexC K C
 iC : PySem.W.findIn K (.ref C) "__init__" = some (some (.ref fI))
 tI : PySem.W.typeIn K (.ref fI) = some (.type "function")
 hm : mg "Halt" = some (.ref C)
 n1 : PySem.W.findIn K (.ref C) "number" = some none
 n2 : PySem.W.findIn K (.ref C) "chain" = some none
 mM : mg "MakingError" = some (.ref CM)
 rM : PySem.W.readsIn K CM mc = true
 gM : PySem.W.specialIn K (.ref CM) "__getattribute__" = some (some (.builtin "type.__getattribute__"))
 cM : PySem.W.findCls K (.ref CM) mc "__init__" = some (.val (.builtin "ValueError.__init__"))
end Y
namespace Y
open PySem PySem.Spec PyProof.Rows L2
theorem law_runT {P : Program} {w : World} {K : PySem.W.Frag} {mg mb : Str → Option Value} {k : Nat} {fa a : Addr} {cs : List (Addr × Addr)} {fd : FuncData} {x : Str} {sp : Sp} {s1 : Shared} {vs : List Value} {ns : List Int}
  (KX : K.In s1.heap) (nsm : s1.heap.Ns mainGlobals mg) (nsb : s1.heap.Ns builtinsNs mb) (bt : ∀ x : Str, x ≠ "__name__" → mb x = bootBuiltins x) (nl : s1.heap.NoLimit) (gn : s1.gens = #[])
  (hT : ∀ p ∈ cs, s1.heap.get? p.2 = some { cls := .none, data := .fields #[] }) (nT : ∀ p ∈ cs, K.lookup p.2 = none) (hC : ∀ p ∈ cs, PySem.W.CodeHd s1.heap p.1 p.2)
  (hbm : ∃ (bm : Addr) (ob : Obj), mg "__builtins__" = some (.ref bm) ∧ bm ≠ builtinsNs ∧ s1.heap.get? bm = some ob ∧ ob.cls = .type "module" ∧ ob.dict = some builtinsNs ∧ ob.data = .plain)
  (ha : s1.heap.get? a = some { cls := .type "list", data := .seq vs.toArray }) (hi : IntsAre vs ns) (hl : ns.length ≤ sizeLine) (rm : Room k callerA)
  (F : ∀ base : Heap, K.In base → base.Ns mainGlobals mg → (∀ p ∈ cs, LamX.TabB base mg p.1 p.2) → FnG P w K mg base (RX.CX P w) k fa fd [x] sp) (bi : ∀ (s : Shared) (u : Value), BindsTo s fd ⟨[u], []⟩ [(x, u)])
  (q : ∀ H : Hp, (∀ p ∈ cs, H p.2 = some (.tbl #[])) → SqL K H a (ns.map V.int) → sp [.ref a] H (fun v _ => v = .bl true) fun _ _ _ => False) :
  codeAny (model P w) callerA (.call (.ref fa) ⟨[.ref a], []⟩) (fun r s2 => r = .ok (.ret (.bool true)) ∧ OldK s1.heap s2.heap ∧ s2.os = s1.os ∧ AllBare s2.gens) s1 := by
 have len := hi.length
 have rv := vals_ints hi
 have isT : ∀ b : Addr, b ∈ cs.map (·.2) → s1.heap.get? b = some { cls := .none, data := .fields #[] } := fun b hb => by
  obtain ⟨p, hp, e⟩ := List.mem_map.mp hb
  rw [← e]
  exact hT p hp
 have aT : a ∉ cs.map (·.2) := fun z => by
  have e := isT a z
  rw [ha] at e
  cases e
 have memT : ∀ p ∈ cs, p.2 ∈ cs.map (·.2) := fun p hp => List.mem_map.mpr ⟨p, hp, rfl⟩
 have go : ∀ H : Hp, (∀ p ∈ cs, H p.2 = some (.tbl #[])) → (∀ b, H b = none ∨ b ∈ cs.map (·.2) ∨ ∃ o xs, H b = some (.frz o (.lst xs))) → SqL K H a (ns.map V.int) → HOk P w H s1.heap → (∀ b, H b ≠ none → b = a ∨ b ∈ cs.map (·.2)) → (H a ≠ none → K.lookup a = none) →
   codeAny (model P w) callerA (.call (.ref fa) ⟨[.ref a], []⟩) (fun r s2 => r = .ok (.ret (.bool true)) ∧ OldK s1.heap s2.heap ∧ s2.os = s1.os ∧ AllBare s2.gens) s1 := by
  intro H hH only sq hok isA notK
  have free : ∀ {b : Addr} {o : Obj}, s1.heap.get? b = some o → (∀ n, o.data ≠ .seq vs.toArray n) → o.data ≠ .fields #[] → H b = none := by
   intro b o e n1 n2
   by_cases z : H b = none
   ·exact z
   ·rcases isA b z with eb | eb
    ·subst eb
     rw [ha] at e
     cases e
     exact absurd rfl (n1 _)
    ·rw [isT b eb] at e
     cases e
     exact absurd rfl n2
  have names : ∀ {b : Addr} {m : Str → Option Value}, s1.heap.Ns b m → (hidT s1.heap H).Ns b m := by
   rintro b m ⟨o, es, ep, e, d, r⟩
   exact ⟨o, es, ep, hidT_get e (free e (fun n z => by rw [d] at z; cases z) fun z => by rw [d] at z; cases z), d, r⟩
  have KB : K.In (hidT s1.heap H) := by
   intro b o e
   refine hidT_get (KX b o e) ?_
   by_cases z : H b = none
   ·exact z
   ·rcases isA b z with eb | eb
    ·subst eb
     rw [notK z] at e
     cases e
    ·obtain ⟨p, hp, ep⟩ := List.mem_map.mp eb
     rw [← ep, nT p hp] at e
     cases e
  have md : Mod K mg (hidT s1.heap H) := ⟨KB, names nsm, ⟨mb, names nsb, bt⟩, let ⟨mc, z1, z2⟩ := nl; ⟨mc, names z1, z2⟩⟩
  have glob : ∀ {b : Addr} {o : Obj}, s1.heap.get? b = some o → o.data ≠ .fields #[] → (∀ n, o.data ≠ .seq vs.toArray n) → (hidT s1.heap H).get? b = some o := fun e n1 n2 => hidT_get e (free e n2 n1)
  have TB : ∀ p ∈ cs, LamX.TabB (hidT s1.heap H) mg p.1 p.2 := fun p hp => by
   refine ⟨?_, ?_, fun z => ?_⟩
   ·obtain ⟨o, us, file, tf, flags, tg, inF, text, tt, e1, r1, r2, r3, r4, r5, r6, r7, r8, hne⟩ := hC p hp
    refine ⟨o, us, file, tf, flags, tg, inF, text, tt, glob e1 (fun z => ?_) (fun n z => ?_), r1, r2, r3, r4, r5, r6, r7, r8, hne⟩
    ·rw [r2] at z
     cases z
     simp at r3
    ·rw [r2] at z
     cases z
   ·obtain ⟨bm, ob, b1, b2, b3, b4, b5, b6⟩ := hbm
    refine ⟨bm, ob, b1, b2, fun e => ?_, fun e => ?_, glob b3 (fun z => by rw [b6] at z; cases z) (fun n z => by rw [b6] at z; cases z), b4, b5, b6⟩
    ·obtain ⟨o, es, ep, e1, hd, _⟩ := nsm
     rw [e, e1] at b3
     cases b3
     rw [hd] at b6
     cases b6
    ·rw [e, hT p hp] at b3
     cases b3
     cases b6
   ·obtain ⟨o, es, ep, e, hd, _⟩ := nsm
    rw [z, hT p hp] at e
    cases e
    cases hd
  have env : Env0 P w K mg (hidT s1.heap H) callerA [] s1 H := ⟨rfl, md, fun b o e => of_hidT e, Nat.le_of_eq (hidT_size _ _), trivial, fun b (z : b ∈ ([] : List Addr)) => by simp at z, hok, .of_eq gn⟩
  have run := (F _ KB (names nsm) TB).go callerA rfl [] s1 H ⟨[.ref a], []⟩ [.ref a] [.ref a] _ _ rm env (bi s1 (.ref a)) (.cons rfl .nil) (q H hH sq)
  refine codeAny_mono run ?_
  intro r s2 z
  match r, z with
  | .error e, z => exact (no_x z).elim
  | .ok .next, z => exact z.elim
  | .ok .brk, z => exact z.elim
  | .ok .cont, z => exact z.elim
  | .ok (.ret u), ⟨v, H2, os, bare, un, hok2, rv, z⟩ =>
   have z' : v = .bl true := z
   subst z'
   obtain rfl : u = Value.bool true := rv
   have stay : ∀ b o, b ∉ cs.map (·.2) → s1.heap.get? b = some o → s2.heap.get? b = some o := fun b o nb e => by
    by_cases hb : H b = none
    ·exact un.keep b o e hb (fun y => by simp [frs] at y) (by simp)
    ·rcases only b with y | y | ⟨ob, xs, y⟩
     ·exact absurd y hb
     ·exact absurd y nb
     ·obtain ⟨e1, _⟩ := hok b _ y
      obtain ⟨e2, _⟩ := hok2 b _ (un.frzs b ob _ y)
      rw [e] at e1
      cases e1
      exact e2
   have grown : ∀ p ∈ cs, ∃ more : Array Value, s2.heap.get? p.2 = some { cls := .none, data := .fields more } := fun p hp => by
    obtain ⟨more, z⟩ := un.tbls p.2 #[] (hH p hp)
    exact ⟨_, hok2 p.2 _ z⟩
   refine ⟨rfl, ⟨fun b o e => ?_, fun b o e => ?_⟩, os, bare⟩
   ·by_cases hb : b ∈ cs.map (·.2)
    ·obtain ⟨p, hp, ep⟩ := List.mem_map.mp hb
     obtain ⟨more, hm⟩ := grown p hp
     rw [← ep] at e ⊢
     rw [hT p hp] at e
     cases e
     exact .inr (.inl ⟨((hC p hp).tab (hT p hp)).isCodeTable, rfl, #[], more, rfl, by rw [Array.empty_append]; exact hm⟩)
    ·exact .inl (stay b o hb e)
   ·by_cases hb : b ∈ cs.map (·.2)
    ·obtain ⟨p, hp, ep⟩ := List.mem_map.mp hb
     obtain ⟨more, hm⟩ := grown p hp
     rw [← ep]
     exact ⟨_, hm⟩
    ·exact ⟨o, stay b o hb e⟩
 let T0 : Hp := fun b => if b ∈ cs.map (·.2) then some (.tbl #[]) else none
 have T0t : ∀ {b : Addr}, b ∈ cs.map (·.2) → T0 b = some (.tbl #[]) := fun h => if_pos h
 have T0n : ∀ {b : Addr}, b ∉ cs.map (·.2) → T0 b = none := fun h => if_neg h
 have T0k : HOk P w T0 s1.heap := fun b u z => by
  by_cases hb : b ∈ cs.map (·.2)
  ·rw [T0t hb] at z
   cases z
   exact isT b hb
  ·rw [T0n hb] at z
   cases z
 cases hk : K.lookup a with
 | some o =>
  have e := KX a o hk
  rw [ha] at e
  cases e
  refine go T0 (fun p hp => T0t (memT p hp)) (fun b => ?_) (.inr ⟨_, vs.toArray, _, hk, rfl, rfl, rfl, by rw [List.size_toArray, len]; exact hl, by simpa using rv⟩) T0k (fun b z => ?_) fun z => absurd (T0n aT) z
  ·by_cases hb : b ∈ cs.map (·.2)
   ·exact .inr (.inl hb)
   ·exact .inl (T0n hb)
  ·by_cases hb : b ∈ cs.map (·.2)
   ·exact .inr hb
   ·exact absurd (T0n hb) z
 | none =>
  have ne : ∀ p ∈ cs, p.2 ≠ a := fun p hp e => aT (by rw [← e]; exact memT p hp)
  refine go (upd T0 a (.frz { cls := .type "list", data := .seq vs.toArray } (.lst (ns.map V.int)))) (fun p hp => (upd_ne (ne p hp)).trans (T0t (memT p hp))) (fun b => ?_) (.inl (.inr ⟨{ cls := .type "list", data := .seq vs.toArray }, upd_same⟩)) (fun b u y => ?_) (fun b z => ?_) fun _ => hk
  ·by_cases hb : b = a
   ·rw [hb]
    exact .inr (.inr ⟨_, _, upd_same⟩)
   ·by_cases h2 : b ∈ cs.map (·.2)
    ·exact .inr (.inl h2)
    ·exact .inl ((upd_ne hb).trans (T0n h2))
  ·by_cases hb : b = a
   ·subst hb
    rw [upd_same] at y
    cases y
    exact ⟨ha, by rw [List.length_map]; exact hl, vs, _, rv, ha⟩
   ·rw [upd_ne hb] at y
    by_cases h2 : b ∈ cs.map (·.2)
    ·rw [T0t h2] at y
     cases y
     exact isT b h2
    ·rw [T0n h2] at y
     cases y
  ·by_cases hb : b = a
   ·exact .inl hb
   ·by_cases h2 : b ∈ cs.map (·.2)
    ·exact .inr h2
    ·exact absurd ((upd_ne hb).trans (T0n h2)) z
theorem law_endT {l : PySem.W.OpenLaw} {n k : Nat} {q : Program} {loose : List Str} {XP : (Str → Option Value) → Heap → Prop} {YP : World → Heap → Prop} {d : DefRec} {x : Str}
  (most : l.most = some n) (le : n ≤ sizeLine) (nd : d.params.defaults = []) (rm : Room k callerA)
  (F : ∀ (w : World) (mg : Str → Option Value) (fa : Addr) (h : Heap), YP w h → h.Ns mainGlobals mg → mg d.name = some (.ref fa) → ∃ (K : PySem.W.Frag) (fd : FuncData) (cs : List (Addr × Addr)) (sp : Sp), K.In h ∧ (∀ p ∈ cs, h.get? p.2 = some { cls := .none, data := .fields #[] }) ∧ (∀ p ∈ cs, K.lookup p.2 = none) ∧ (∀ p ∈ cs, PySem.W.CodeHd h p.1 p.2) ∧
   (∀ (s : Shared) (u : Value), BindsTo s fd ⟨[u], []⟩ [(x, u)]) ∧
   (∀ (H : Hp) (a : Addr) (ns : List Int), ns.length ≤ n → (∀ z ∈ ns, Builtin.Int.intBits z ≤ 1048576) → (∀ p ∈ cs, H p.2 = some (.tbl #[])) → SqL K H a (ns.map V.int) → sp [.ref a] H (fun v _ => v = .bl true) fun _ _ _ => False) ∧
   ∀ base : Heap, K.In base → base.Ns mainGlobals mg → (∀ p ∈ cs, LamX.TabB base mg p.1 p.2) → FnG l.prog w K mg base (RX.CX l.prog w) k fa fd [x] sp) :
  PySem.W.WalkO q loose XP YP l.row.toRowW d [] (fun f vs => PySem.call f vs) := by
 refine Att.attach_callB most nd ?_
 intro w s0 s1 mg mb fa o pm cd doc a vs ns G Y1 ho hd hcd hmg hobj hints hlen bits gn
 obtain ⟨K, fd, cs, sp, KX, hT, nT, hC, bi, z, hF⟩ := F w mg fa _ Y1 G.T.g hmg
 exact law_runT KX G.T.g G.T.b G.T.builtins G.T.nolimit gn hT nT hC G.T.bmain hobj hints (Nat.le_trans hlen le) rm hF bi fun H hH sq => z H a ns hlen bits hH sq
theorem tb_start {K : PySem.W.Frag} {F H : Hp} {cs : List (Addr × Addr)} (hF : ∀ b o, F b = some o → nt o) (hH : ∀ p ∈ cs, H p.2 = some (.tbl #[])) (hc : ∀ q ∈ lamT K, ∃ p ∈ cs, p.2 = q.1) : Tb K F H :=
 ⟨fun q hq => by
  obtain ⟨p, hp, e⟩ := hc q hq
  exact LamX.TabS.nil (by rw [← e]; exact hH p hp), hF⟩
end Y
namespace Y
open PySem PySem.Spec PyProof.Rows L2
theorem scr_NT {K : PySem.W.Frag} {H : Hp} {a : Addr} {ns : List Int} (h : SqL K H a (ns.map V.int)) : SqL K (NT H) a (ns.map V.int) := by
 rcases h with (h | ⟨o, h⟩) | h
 ·exact .inl (.inl (NT_in h nt_lst))
 ·exact .inl (.inr ⟨o, NT_in h fun _ z => by cases z⟩)
 ·exact .inr h
end Y
namespace Y
open PySem PySem.Spec PyProof.Rows L2
theorem isGl_ok {sc : Scope} {x : Str} (h : glB sc x = true) : sc.names.lookup x = some .globalImplicit := by
 unfold glB at h
 split at h
 ·assumption
 ·cases h
end Y
namespace Y
open PySem PySem.Spec PyProof.Rows L2
theorem run_quiet {CX : CXT} {P : Program} {w : World} {K : PySem.W.Frag} {mg : Str → Option Value} {base : Heap} {f : Addr} {name qual : Str} {params : Arguments} {body : List Stmt} {scope : Scope} {dV kV doc pm cdv ct oc : Value} {an od : Option Addr}
  {osl : Array (Option Value)} {N ps : List Str} (lk : K.lookup f = some ⟨oc, od, .func (PySem.W.fnOf name qual params body scope dV kV doc pm an cdv ct), osl⟩) (hcd : PySem.W.codeIn K cdv qual = true) (S : FnScope N ps scope)
  {A : Around} {outer : List Env} {s : Shared} {H : Hp} {us : List Value} {vs : List V} {Q : VK} {E : XK} (hr : A.depth < recursionLimit) (e0 : Env0 P w K mg base A outer s H) (hb : BindsTo s (PySem.W.fnOf name qual params body scope dV kV doc pm an cdv ct) ⟨us, []⟩ (ps.zip us)) (hl : vs.length = ps.length) (r : Vals vs us)
  (hbody : ∀ p, ∃ t, PSs (L2H.cxH CX P w K mg base N qual scope f cdv A outer s H E p) body t ∧ t { nx := fun _ H' => Q .non H', rt := Q } (L2.start N vs) H) :
  codeAny (model P w) A (.call (.ref f) ⟨us, []⟩) (CR CX outer P w H s Q E) s := by
 have KX : K.In s.heap := e0.mod.kin.keeps fun b o e => (e0.bs b o e).1
 have lim : s.heap.NoLimit := e0.mod.nolimit.keeps fun b o e => (e0.bs b o e).1
 have hkind : ∀ y ∈ ps.zip us, scope.names.lookup y.1 = some .local ∨ (scope.names.lookup y.1 = some .cell ∧ ((cellsFrom (s.heap.objs.size + 1) scope.names []).lookup y.1).isSome = true) := fun ⟨n, v⟩ hy => by
  rcases S.par n (List.of_mem_zip hy).1 with q | q
  ·exact .inl q
  ·exact .inr ⟨q, PySem.W.cellsFrom_some _ _ _ (.inl q)⟩
 have hb0 := e0.bs f _ (e0.mod.kin _ _ lk)
 have hnf : f ∉ frs outer := fun hm => by
  have := (e0.funs.mem hm).1
  rw [e0.mod.kin _ _ lk] at this
  cases this
 have hpin : L2H.PinOk outer H s (f, ⟨oc, od, .func (PySem.W.fnOf name qual params body scope dV kV doc pm an cdv ct), osl⟩) := ⟨hb0.1, hb0.2, hnf, fun v z => by cases z⟩
 refine codeAny_call_function hr (KX _ _ lk) rfl S.co S.gen rfl (PySem.W.codeRec_of KX hcd) (hb _ _ _ _ ?_)
 refine wpAny_newFunctionEnv_cells S.kind hkind fun env he s1 x => ?_
 subst he
 refine ⟨lim.keeps x.toInCall.keep, codeAny_func ?_⟩
 obtain ⟨t, ht, hq⟩ := hbody (f, ⟨oc, od, .func (PySem.W.fnOf name qual params body scope dV kV doc pm an cdv ct), osl⟩)
 have I : Inv (L2H.cxH CX P w K mg base N qual scope f cdv A outer s H E (f, ⟨oc, od, .func (PySem.W.fnOf name qual params body scope dV kV doc pm an cdv ct), osl⟩)) [] (L2.start N vs) H s1 := L2H.inv_startH S hpin e0 hl r x
 refine wpAny_mono (ht.run [] s1 (L2.start N vs) H _ I hq) (fun fl s' hs => ?_) fun e s' hs => hs
 have fin : ∀ {σ' : L2.St} {H' : Hp} {v : V} {u : Value}, Inv (L2H.cxH CX P w K mg base N qual scope f cdv A outer s H E (f, ⟨oc, od, .func (PySem.W.fnOf name qual params body scope dV kV doc pm an cdv ct), osl⟩)) [] σ' H' s' → RelV v u → Q v H' → CE outer P w H s Q u s' :=
  fun {σ' H' v u} J rv q => ⟨v, H', J.os, J.bare, J.base, J.hok, rv, q⟩
 cases fl with
 | ret u =>
  obtain ⟨v, σ', H', J, rv, q⟩ := hs
  exact fin J rv q
 | next =>
  obtain ⟨σ', H', J, q⟩ := hs
  exact fin (v := V.non) (u := Value.none) J rfl q
 | brk =>
  obtain ⟨_, _, _, q⟩ := hs
  exact False.elim q
 | cont =>
  obtain ⟨_, _, _, q⟩ := hs
  exact False.elim q
structure BgQ (q : Q) (X : Cx) (R : Fr) (sc : Scope) : Prop where
 hK : X.K = R.K
 hN : X.N = q.N
 nd : X.N.Nodup
 isi : IsiOk R.K q.E
 blt : ∀ x, q.blt x = true → X.mg x = none
 cl : ∀ c, q.E.cl c = true → X.mg c = some (.ref (He.ga R.K c))
 hsc : X.env.scope = sc
def tyQ (sc : Scope) (q : Q) (b : Expr) (t : Ty) : Bool := match b with
 | .Name x _ => glB sc x && okN x && (match t with
  | .ty n => q.blt x && (match bootBuiltins x with | some (.type m) => m == n | _ => false)
  | .cls c => decide (x = c) && q.E.cl c)
 | _ => false
def chkQ (q : Q) (sc : Scope) : Nat → Expr → C → Bool
 | 0, _, _ => false
 | n + 1, e, c => match c with
  | .var i => (match e with | .Name x _ => decide (q.N[i]? = some x) && isLoc sc x && okN x | _ => false)
  | .lst cs => (match e with | .List es _ => all2 (chkQ q sc n) es cs | _ => false)
  | .bin op ca cb => (match e with | .BinOp a o b _ => decide (o = op.py) && chkQ q sc n a ca && chkQ q sc n b cb | _ => false)
  | .isi ca t => (match e with | .Call (.Name x _) [a, b] [] _ => decide (x = "isinstance") && glB sc x && q.blt x && chkQ q sc n a ca && tyQ sc q b t | _ => false)
  | _ => false
section
variable {q : Q} {X : Cx} {R : Fr} {W : XK} {sc : Scope}
theorem BgQ.gl (b : BgQ q X R sc) {x : Str} (h : glB sc x = true) : Gl X x := by
 have := isGl_ok h
 rw [← b.hsc] at this
 exact this
theorem tyQ_ok (b : BgQ q X R sc) {e : Expr} {t : Ty} (h : tyQ sc q e t = true) : PE X e (tC (t.v R.K)) ∧ isStar e = false := by
 unfold tyQ at h
 split at h
 ·rename_i x pos
  simp only [Bool.and_eq_true] at h
  obtain ⟨⟨hg, ho⟩, h⟩ := h
  obtain ⟨o1, o2, o3⟩ := okN_ok ho
  refine ⟨?_, rfl⟩
  cases t with
  | ty n =>
   dsimp only at h
   simp only [Bool.and_eq_true] at h
   obtain ⟨h1, h2⟩ := h
   split at h2
   ·rename_i m hb
    have e2 : m = n := by simpa using h2
    subst e2
    exact pe_bltn (b.gl hg) (b.blt x h1) hb rfl o3 o1
   ·cases h2
  | cls c =>
   dsimp only at h
   simp only [Bool.and_eq_true, decide_eq_true_eq] at h
   obtain ⟨rfl, h2⟩ := h
   exact pe_glob (b.gl hg) (b.cl x h2) rfl o1
 ·cases h
theorem chkQ_ok (b : BgQ q X R sc) : ∀ (n : Nat) (e : Expr) (c : C), chkQ q sc n e c = true → Good X R W q.E e c := by
 intro n
 induction n with
 | zero => intro e c h; cases h
 | succ n ih =>
  intro e c h
  unfold chkQ at h
  cases c with
  | var i =>
   dsimp only at h
   split at h
   ·rename_i x p
    simp only [Bool.and_eq_true, decide_eq_true_eq] at h
    obtain ⟨⟨h1, h2⟩, h3⟩ := h
    obtain ⟨o1, o2, _⟩ := okN_ok h3
    have hv : PE X (.Name x p) (tVar i) := pe_var (by rw [b.hN]; exact h1) (.inl (by rw [b.hsc]; exact isLoc_ok h2)) o1 o2
    exact ⟨pe_var_ hv, pe_slot hv, fun _ => pt_plain (pe_slot hv) b.hK (true_ok rfl), rfl, fun _ _ _ z => by cases z⟩
   ·cases h
  | lst cs =>
   dsimp only at h
   split at h
   ·exact .mk' b.hK (pe_lst_ (pv_of (goods (fun e c z => ih e c z) h))) (fun i z => by cases z) rfl rfl
   ·cases h
  | bin op ca cb =>
   dsimp only at h
   split at h
   ·simp only [Bool.and_eq_true, decide_eq_true_eq] at h
    exact .mk' b.hK (pe_bin_ h.1.1 b.hK (ih _ _ h.1.2).to (ih _ _ h.2).to) (fun i z => by cases z) rfl rfl
   ·cases h
  | isi ca t =>
   dsimp only at h
   split at h
   ·simp only [Bool.and_eq_true, decide_eq_true_eq] at h
    obtain ⟨⟨⟨⟨rfl, h2⟩, h3⟩, h4⟩, h5⟩ := h
    obtain ⟨t1, t2⟩ := tyQ_ok b h5
    have g := ih _ _ h4
    exact .mk' b.hK (pe_isi_ b.isi b.hK (b.gl h2) (b.blt _ h3) g.to t1 (star_ok g.st) (star_ok t2) (any_ok (by simp [t2]))) (fun i z => by cases z) rfl rfl
   ·cases h
  | _ => cases h
def chkSQ (q : Q) (sc : Scope) (n : Nat) (st : Stmt) (s : S) : Bool := match s with
 | .asg i c => (match st with | .Assign [.Name x _] e _ => decide (q.N[i]? = some x) && isLoc sc x && chkQ q sc n e c && notComp e | _ => false)
 | .ret c => (match st with | .Return (some e) _ => chkQ q sc n e c && (match c with | .var _ => false | _ => true) | _ => false)
 | _ => false
theorem chkSQ_ok (b : BgQ q X R sc) (n : Nat) (st : Stmt) (s : S) (h : chkSQ q sc n st s = true) : PS X st (TS_ R W (evS q.E s)) := by
 unfold chkSQ at h
 split at h
 ·split at h
  ·rename_i x p e pos
   simp only [Bool.and_eq_true, decide_eq_true_eq] at h
   obtain ⟨⟨⟨h1, h2⟩, h3⟩, h4⟩ := h
   have hl : X.env.scope.names.lookup x = some .local := by rw [b.hsc]; exact isLoc_ok h2
   exact ps_asg_ b.nd (by rw [b.hN]; exact h1) (.inl hl) (chkQ_ok b n _ _ h3).te (sw_ok h4) (.inr hl)
  ·cases h
 ·rename_i c
  split at h
  ·simp only [Bool.and_eq_true] at h
   refine ps_ret_ (fun i z => ?_) (chkQ_ok b n _ _ h.1).te
   subst z
   cases h.2
  ·cases h
 ·cases h
end
end Y
namespace RX
open PySem PySem.Spec PyProof.Rows L2 PySem.HandSPX
section
variable {X : Cx} {x n : Str} {c : Value} {i : Nat} {body orelse suite : List Stmt} {b0 : Stmt} {np pos pos' : Pos} {tb : WX → TS} {ts : Addr → Value → Option Addr → TS} {u : TS}
theorem ps_try_asN (hs : X.stack = X.env :: X.outer) (hf : X.env.frame = some X.env.locals) (hN : X.N.Nodup) (hi : X.N[i]? = some n) (hln : X.env.kindOf n = some .local) (hc : Names X x c)
  (hb : ∀ (W : WX) (pn : List (Addr × Obj)) (xe : Value → Shared → Prop), Takes (X.tr pn xe) W → PassesOwn (model X.prog X.w) X.A X.env xe → PSs (X.tr pn xe) body (tb W))
  (hsu : ∀ (a : Addr) (oe : Obj) (cls : Value) (d : Option Addr) (pn : List (Addr × Obj)), Zc cls d oe → (∃ vs, oe.data = .fields vs) → X.base.get? a = none → PSs (X.suite a ((a, oe) :: pn)) (b0 :: suite) (ts a cls d)) :
  PS X (.Try body [.ExceptHandler (some (.Name x np)) (some n) (b0 :: suite) pos'] [] [] pos)
   (fun D σ H => tb (fun cls d σ' H' => PySem.W.exmOne X.K cls c = some true ∧ ∀ a, H' a = none → ts a cls d { nx := fun σ' H' => D.nx (σ'.set i none) H', rt := D.rt, bk := fun σ' H' => D.bk (σ'.set i none) H', ct := fun σ' H' => D.ct (σ'.set i none) H' } (σ'.set i (some (.ref a))) H') D σ H) := by
 refine ⟨fun pins s σ H D I h => ?_⟩
 have ok := I.ok
 have hfr : X.A.frames = some (X.env :: X.outer) := by rw [ok.frames, hs]
 refine wpAny_Try_except ?_
 refine wpAny_mono ((hb _ (X.pn ++ pins) (fun e t1 => wpAny (model X.prog X.w) X.A (noteFrame e X.env) (fun _ t2 => wpAny (model X.prog X.w) X.A (setFlight e none) (fun _ t3 =>
  wpAny (model X.prog X.w) X.A (handleBy e X.env [.ExceptHandler (some (.Name x np)) (some n) (b0 :: suite) pos']) (SP X pins D) X.xe t3) X.xe t2) X.xe t1) (fun u1 s' xx => ?_) PassesOwn.looking).run [] s σ H D (I.toTry _) h) (fun f s1 hsp => ?_) fun _ _ he => he
 ·obtain ⟨a, B, t0, pins', σ', H', cls, d, rfl, J', nb, up, sky, na, os, ag, ht, hyes⟩ := xx
  have J : L2.Inv X pins σ' H' t0 := J'.ofTry ok
  show wpAny (model X.prog X.w) X.A (noteFrame (.ref a) X.env) _ _ _
  refine land Zk.steady hfr hf (by rw [← hs]; exact sky) fun h3 fl3 up3 => ?_
  have J3 : L2.Inv X pins σ' H' { s' with heap := h3 } := J.landed nb fl3.1 (up.trans up3) os ag
  obtain ⟨oe3, vs3, he3, hz3, hd3⟩ := fl3.there
  have nfr := not_frame fl3.2.2.1 he3 hd3
  have nL : a ≠ X.env.locals := fun z => nfr (List.mem_filterMap.mpr ⟨X.env, List.mem_cons_self, by rw [hf, z]⟩)
  have nF : a ∉ X.fs := fun hm => by
   obtain ⟨e, he, q⟩ := List.mem_filterMap.mp hm
   exact nfr (List.mem_filterMap.mpr ⟨e, List.mem_cons_of_mem _ he, q⟩)
  have S3 := J3.suite he3 hd3 na nL nF
  have nB : X.base.get? a = none := by
   cases q : X.base.get? a with
   | none => rfl
   | some o =>
    have z := nb a o (J.bs a o q).1 (by rw [hs]; exact nfr)
    rw [fl3.2.1] at z
    cases z
  refine wpAny_handleBy_cons (codeAny_handlers_test ?_) (by intro q; cases q)
  have LT : PySem.W.Looks (model X.prog X.w) h3 (typeOf (.ref a)) cls := fun A Q E s k q => wpAny_typeOf_ref (k _ _ he3) (by rw [hz3.1]; exact q)
  have LM := PySem.W.exm_one (M := model X.prog X.w) (J3.kIn) LT ht
  have test : ∀ {Q : Value → Shared → Prop} {E : Value → Shared → Prop}, Q c { s' with heap := h3 } → wpAny (model X.prog X.w) (X.A.mark (some (.ref a))) (eval (.Name x np) X.env) Q E { s' with heap := h3 } := fun {Q E} q => by
   obtain ⟨hg, hdbg, hm | ⟨hm, hv, hnn⟩⟩ := hc
   ·exact ld_glob (X := X.suite a ((a, oe3) :: (X.pn ++ pins))) S3 hg hm q hdbg
   ·exact ld_blt (X := X.suite a ((a, oe3) :: (X.pn ++ pins))) S3 hg hm hv q hnn hdbg
  refine test (LM.here (codeAny_handlers_suite_as (lands_againZ fl3 fun h4 fl4 up4 => ?_)))
  have J4 : L2.Inv X pins σ' H' { s' with heap := h4 } := J.landed nb fl4.1 ((up.trans up3).trans up4) os ag
  obtain ⟨oe4, vs4, he4, hz4, hd4⟩ := fl4.there
  refine store_ok (X := X.suite a ((a, oe4) :: (X.pn ++ pins))) (v := .ref a) (J4.suite he4 hd4 na nL nF) hN hi (.inl hln) rfl (fun s5 S5 => ?_) (.inr hln)
  refine wpAny_mono ((hsu a oe4 cls d (X.pn ++ pins) hz4.zc ⟨_, hd4⟩ nB).run [] s5 _ H' _ S5 (hyes a na)) (fun f s6 hsp => ?_) (fun _ _ z => False.elim z)
  match f, hsp with
  | .next, ⟨_, _, S6, z⟩ => exact gone_ok (S6.unsuite ok) hN hi hln fun s7 J7 => ⟨_, _, J7, z⟩
  | .brk, ⟨_, _, S6, z⟩ => exact gone_ok (S6.unsuite ok) hN hi hln fun s7 J7 => ⟨_, _, J7, z⟩
  | .cont, ⟨_, _, S6, z⟩ => exact gone_ok (S6.unsuite ok) hN hi hln fun s7 J7 => ⟨_, _, J7, z⟩
  | .ret _, ⟨_, _, _, S6, r6, z⟩ => exact gone_ok (S6.unsuite ok) hN hi hln fun s7 J7 => ⟨_, _, _, J7, r6, z⟩
 ·match f, hsp with
  | .next, ⟨_, _, J', z⟩ => exact wpAny_execs_nil ⟨_, _, J'.ofTry ok, z⟩
  | .brk, ⟨_, _, J', z⟩ => exact ⟨_, _, J'.ofTry ok, z⟩
  | .cont, ⟨_, _, J', z⟩ => exact ⟨_, _, J'.ofTry ok, z⟩
  | .ret _, ⟨_, _, _, J', r, z⟩ => exact ⟨_, _, _, J'.ofTry ok, r, z⟩
end
end RX
namespace Y
open PySem PySem.Spec PyProof.Rows L2
section
variable {R : Fr} {F H : Hp} {g : G} {σ : L2.St} {i : Nat} {x : Option V}
theorem Rel.setσ (r : Rel R F g σ H) (hi : g.get i = none) : Rel R F g (σ.set i x) H := by
 have ne : ∀ j s, g.get j = some s → j ≠ i := fun j s h e => by rw [e, hi] at h; cases h
 have get : ∀ j s, g.get j = some s → (σ.set i x)[j]? = σ[j]? := fun j s h => List.getElem?_set_ne (Ne.symm (ne j s h))
 refine ⟨by rw [List.length_set]; exact r.len, fun j s hj => ?_, fun j1 j2 s t p h1 h2 h3 h4 h5 h6 => ?_, r.ex, r.keep, r.there, r.ios, fun q hq => ?_, r.f0, r.fn, r.tb⟩
 ·rw [get j s hj]; exact r.at_ j s hj
 ·rw [get _ _ h1] at h5
  rw [get _ _ h2] at h6
  exact r.dis j1 j2 s t p h1 h2 h3 h4 h5 h6
 ·obtain ⟨s, h1, h2, h3⟩ := r.iog q hq
  exact ⟨s, h1, h2, by rw [get _ _ h1]; exact h3⟩
theorem RelS.setσ (r : RelS R F g σ H) (hi : g.get i = none) : RelS R F g (σ.set i x) H := ⟨r.rel.setσ hi, r.exF, r.nF⟩
end
def TClo (R : Fr) (Wx : WX) (E : Ev) (fl : Nat → Option Nat) (iA iT : Nat) : TE := fun σ H Q => ∃ F g i caps nA d nT f, Rel R F g σ H ∧ g.get iA = some ⟨.clo i caps, .fr, nA⟩ ∧ g.get iT = some ⟨d, .fr, nT⟩ ∧ D.plain d = true ∧ plainL caps = true ∧ fl i = some f ∧
 wp (E.fn f (d :: caps)) (fun _ => ∀ v F' H', Rel R F' g σ H' → Same F F' → Q v H') (fun c => c.fs = [] ∧ ∀ F' H', Rel R F' g σ H' → Same F F' → Wx (.ref (He.ga R.K c.c)) none σ H')
section
variable {X : Cx} {R : Fr} {E : Ev} {k iA iT : Nat} {fl : Nat → Option Nat} {a t : Str} {p1 p2 p3 : Pos} {Wx : WX}
theorem pe_clo (hK : X.K = R.K) (tk : RX.Takes X Wx) (gd : X.A.guards = some []) (hr : Room k X.A) (hl : ∀ i f, fl i = some f → ∃ x, ∀ fa L, LamIs i L → NOkL X.prog X.w X.K X.mg X.base (RX.CX X.prog X.w) k fa L [x] (lamFr i) (spC X.K (E.fn f)))
  (hA : X.N[iA]? = some a) (vA : Vis X.env.scope a) (oA : okN a = true) (hT : X.N[iT]? = some t) (vT : Vis X.env.scope t) (oT : okN t = true) : PE X (.Call (.Name a p1) [.Name t p2] [] p3) (TClo R Wx E fl iA iT) := by
 obtain ⟨a1, a2, _⟩ := okN_ok oA
 obtain ⟨t1, t2, _⟩ := okN_ok oT
 refine ⟨fun pins s σ H Q I ⟨F, g, i, caps, nA, d, nT, f, rl, gA, gT, pd, pc, hf, q⟩ => ?_⟩
 obtain ⟨va, ea, ha⟩ := rl.at_ iA _ gA
 obtain ⟨vt, et, ht⟩ := rl.at_ iT _ gT
 have ha : At R.K F va (.clo i caps) := At.mono FN_le _ _ ha
 have ht : At R.K F vt d := At.mono FN_le _ _ ht
 cases ha with
 | @clo fa _ L vs' _ hL hF hC hcl hcap =>
 let C : Hp := fun b => haveI := Classical.propDecidable (∃ y, L.cl.lookup y = some b); if ∃ y, L.cl.lookup y = some b then F b else none
 have cIn : ∀ b, (∃ y, L.cl.lookup y = some b) → ∃ (ob : Obj) (j : Nat) (v : V) (u : Value), F b = some (KnO ob) ∧ vs'[j]? = some v ∧ ob.data = .cell (some u) ∧ RelV v u ∧ ∃ y, L.cl.lookup y = some b ∧ (lamFr i)[j]? = some y := fun b ⟨y, hy⟩ => by
  obtain ⟨j, hj⟩ := List.mem_iff_getElem?.mp (hcl.sub y b hy)
  obtain ⟨c, v, h1, h2, o, h3, ob, u, rfl, h5, h6⟩ := hcl.has j y hj
  rw [hy] at h1
  cases h1
  exact ⟨ob, j, v, u, h3, h2, h5, h6, y, hy, hj⟩
 have C1 : ∀ b, (∃ y, L.cl.lookup y = some b) → C b = F b := fun b h => by
  show (haveI := Classical.propDecidable (∃ y, L.cl.lookup y = some b); if ∃ y, L.cl.lookup y = some b then F b else none) = F b
  rw [if_pos h]
 have C0 : ∀ b o, C b = some o → (∃ y, L.cl.lookup y = some b) ∧ F b = some o := fun b o h => by
  have h : (haveI := Classical.propDecidable (∃ y, L.cl.lookup y = some b); if ∃ y, L.cl.lookup y = some b then F b else none) = some o := h
  split at h
  ·rename_i z; exact ⟨z, h⟩
  ·cases h
 have hKn : Kn C := fun b o h => by
  obtain ⟨z, h2⟩ := C0 b o h
  obtain ⟨ob, _, _, _, h3, _⟩ := cIn b z
  rw [h2] at h3
  cases h3
  exact ⟨ob, rfl⟩
 have iF : ∀ b o, C b = some o → F b = some o := fun b o h => (C0 b o h).2
 have iH : ∀ b o, C b = some o → H b = some o := fun b o h => rl.ex _ _ (iF b o h)
 have keep : ∀ {G : Hp} {b o}, (∀ b o, C b = some o → G b = some o) → G b = some o → (∀ ob, o ≠ KnO ob) → subH C G b = some o := fun {G b o} hG h n => by
  cases z : C b with
  | none => rw [subH_out z]; exact h
  | some u =>
   rw [hG b u z] at h
   cases h
   obtain ⟨ob, e⟩ := hKn b _ z
   exact absurd e (n ob)
 obtain ⟨xp, hN⟩ := hl i f hf
 have hN := hN fa L hL
 have HfF : H fa = some (LamO fa L) := rl.ex _ _ hF
 have HfC : H L.c = some (LamX.CodeO L.c L.qual) := rl.ex _ _ hC
 refine wpAny_Call_Name_kw (thn ((pe_var (pos := p1) (i := iA) hA vA a1 a2).run pins s σ H (fun v H1 => v = .ref fa ∧ H1 = H) I ⟨.ref fa, ea, rfl, rfl⟩) fun u s1 ⟨v, H1, I1, r1, ev, eH⟩ => ?_)
 subst ev
 rw [eH] at I1
 obtain rfl : u = Value.ref fa := r1
 have at_ : ∀ {s2 : Shared} {H2 : Hp}, Inv X pins σ H2 s2 → H2 fa = some (LamO fa L) → PySem.W.FnAt fa s2.heap := fun J e => by
  obtain ⟨od, sl, pm, ctv, ho⟩ := lamO_at J.hok e
  exact ⟨_, od, _, sl, ho⟩
 refine PySem.W.callWith_F (first := []) (at_ I1 HfF) (thn ((pa_cons (pe_var (pos := p2) (i := iT) hT vT t1 t2) pa_nil rfl).run p3 pins s1 σ H (fun vs H2 => vs = [vt] ∧ H2 = H) I1 ⟨vt, et, rfl, rfl⟩) fun us s2 ⟨vs, H2, I2, r, h1, h2⟩ => ?_) rfl rfl
 subst h1
 rw [h2] at I2
 refine ⟨at_ I2 HfF, ?_⟩
 show wpAny _ _ (call (.ref fa) us) _ _ _
 have e0 := I2.env0
 have kn := knAt_of e0 hKn iH
 have CA : NdefX.CellsAt L.cl (lamFr i) (vs'.map some) s2.heap (subH C H) := by
  refine ⟨by rw [List.length_map]; exact hcl.len, fun y c e => ?_, hcl.inj, fun j y e => ?_⟩
  ·obtain ⟨ob, j, v, u, h3, h4, h5, h6, _⟩ := cIn c ⟨y, e⟩
   refine ⟨subH_in (C1 c ⟨y, e⟩ ▸ h3), some u, ob, (I2.hok c _ (rl.ex _ _ h3)).1, h5⟩
  ·obtain ⟨c, v, h1, h2, o, h3, ob, u, rfl, h5, h6⟩ := hcl.has j y e
   refine ⟨c, h1, fun v' e' => ?_⟩
   rw [List.getElem?_map, h2] at e'
   cases e'
   exact ⟨u, h6, ob, (I2.hok c _ (rl.ex _ _ h3)).1, h5⟩
 have sp : spC X.K (E.fn f) (vs'.map some) [vt] (subH C H) (fun v H' => (∀ b o, C b = some o → H' b = none) → Q v (addH C H')) (fun cls dd H' => (∀ b o, C b = some o → H' b = none) → Wx cls dd σ (addH C H')) := by
  have back : ∀ {F' H' : Hp}, (∀ b o, C b = some o → H' b = none) → Same (subH C F) F' → Same F' H' → Tb R.K F' H' → (∀ b u, subH C H b = some u → nt u → H' b = some u) → (∀ b, subH C F b = none → (subH C H b).isSome = true → F' b = none) → (∀ b, (subH C H b).isSome = true → (H' b).isSome = true) →
    Rel R (addH C F') g σ (addH C H') ∧ Same F (addH C F') := fun {F' H'} no e1 e2 tb fr nF th => by
   have no' : ∀ b o, C b = some o → F' b = none := fun b o z => by
    cases q : F' b with
    | none => rfl
    | some u => have := e2 b u q; rw [no b o z] at this; cases this
   have sF : Same F (addH C F') := fun b o h => by
    cases z : C b with
    | some u => rw [addH_in z, ← iF b u z]; exact h
    | none => rw [addH_out z]; exact e1 b o (by rw [subH_out z]; exact h)
   refine ⟨(rl.calledX (io := none) sF (fun b o h => ?_) (tb_add tb hKn no) (fun b u h hn _ => ?_) (fun b h1 h2 => ?_) (fun b h => ?_) (Step.refl g σ F H) rl (fun a z => by cases z)).1, sF⟩
   ·cases z : C b with
    | some u => rw [addH_in z] at h ⊢; exact h
    | none => rw [addH_out z] at h ⊢; exact e2 b o h
   ·cases z : C b with
    | some x => rw [addH_in z, ← iH b x z]; exact h
    | none => rw [addH_out z]; exact fr b u (by rw [subH_out z]; exact h) hn
   ·cases z : C b with
    | some x => rw [iF b x z] at h1; cases h1
    | none => rw [addH_out z]; exact nF b (by rw [subH_out z]; exact h1) (by rw [subH_out z]; exact h2)
   ·cases z : C b with
    | some x => rw [addH_in z]; rfl
    | none => rw [addH_out z]; exact th b (by rw [subH_out z]; exact h)
  have kF : ∀ b o, F b = some o → (∀ ob, o ≠ KnO ob) → subH C F b = some o := fun b o h n => keep iF h n
  refine ⟨subH C F, d, caps, vt, vs', rfl, rfl, fun b o h => ?_, by rw [hK]; exact tb_sub rl.tb hKn iH, by rw [hK]; exact At.kn kF d _ ht pd, by rw [hK]; exact atL_kn kF caps _ hcap pc, wp_mono q (fun (r, o) q1 v F' H' post no => ?_) fun c ⟨q0, q1⟩ dd F' H' xd e1 e2 tb nF fr th no => ?_⟩
  ·cases z : C b with
   | some u => rw [subH_in z] at h; cases h
   | none => rw [subH_out z] at h ⊢; exact rl.ex _ _ h
  ·rw [hK] at post
   obtain ⟨b1, b2⟩ := back no post.exF post.ex post.tb (fun b u h hn => post.fr b u h hn (fun z => by cases z)) post.nF post.there
   exact q1 v _ _ b1 b2
  ·rw [hK] at xd tb
   obtain ⟨b1, b2⟩ := back no e1 e2 tb fr nF th
   have := xd.1 q0
   subst this
   rw [hK]
   exact q1 _ _ b1 b2
 refine wpAny_call (codeAny_mono (hN.run X.A gd X.stack s2 (subH C H) us [vt] (vs'.map some) _ _ hr (env0_sub e0 hKn iH) (keep iH HfF fun ob z => by cases z) (keep iH HfC fun ob z => by cases z) CA r sp) fun r s' hq => ?_)
 have hq := cr_sub (Q := Q) (E := fun cls dd H' => Wx cls dd σ H') kn iH hq (fun v H' no q => q no) (fun c dd H' no q => q no)
 match r, hq with
 | .error e, hq => exact tk e s' (RX.XE.of_call I2 (fun cls d H' h => h) hq)
 | .ok (.ret u), hq => exact I2.after hq
 | .ok .next, hq => exact hq.elim
 | .ok .brk, hq => exact hq.elim
 | .ok .cont, hq => exact hq.elim
end
end Y
namespace Y
open PySem PySem.Spec PyProof.Rows L2
structure KdF (K : PySem.W.Frag) (mg : Str → Option Value) (st : Ev) (blt : Str → Bool) (nm : Str) (fK : Addr) (fdK : FuncData) (bK : List S) (nN : Nat) : Prop where
 ex : ∃ (pE : Arguments) (bE : List Stmt) (sE : Scope) (NE : List Str) (xE : Str) (exB : Str → Bool), FunD K nm nm pE bE sE [] [] fK fdK ∧ FnScope NE [xE] sE ∧ NE.length = nN ∧ (∀ a b, all2 (chkSQ ⟨mkE st a b, NE, blt, exB, true⟩ sE 60) bE bK = true) ∧ Binds K fdK [xE] []
 gl : mg nm = some (.ref fK)
 kp : PySem.W.keepIn K (.ref fK) = true
def TKd (R : Fr) (kd : Fn) (a : Addr) (c : Str) (iE : Nat) : TE := fun σ H Q => σ[iE]? = some (some (.ref a)) ∧ ∃ F g bs n, Rel R F g σ H ∧ kd [.xcp c] = some (.ok (⟨.lst bs, .ow, n⟩, none)) ∧ bs.all D.atom = true ∧
 ∀ v F' H', Rel R F' g σ H' → Step g σ F H g F' H' → ResAt R g σ H F' H' v ⟨.lst bs, .ow, true⟩ → Q v H'
section
variable {X : Cx} {R : Fr} {st : Ev} {fa fb : Nat → Fn} {k nN iE : Nat} {blt : Str → Bool} {nm en c : Str} {fK : Addr} {fdK : FuncData} {bK : List S} {p1 p2 p3 : Pos} {a : Addr} {oe : Obj} {pn : List (Addr × Obj)}
theorem pe_kd (hK : X.K = R.K) (isi : IsiOk R.K st) (hblt : ∀ x, blt x = true → X.mg x = none) (hcl : ∀ c, st.cl c = true → X.mg c = some (.ref (He.ga R.K c))) (hr : Room k X.A) (KD : KdF X.K X.mg st blt nm fK fdK bK nN) (hg : Gl X nm) (hd : (nm == ("__debug__" : Str)) = false)
  (hz : Zc (.ref (He.ga R.K c)) none oe) (hv : ∃ vs, oe.data = .fields vs) (hB : X.base.get? a = none) (hE : X.N[iE]? = some en) (vE : Vis X.env.scope en) (oE : okN en = true) :
  PE (X.suite a ((a, oe) :: pn)) (.Call (.Name nm p1) [.Name en p2] [] p3) (TKd R (runF (mkE st fa fb) none nN 1 bK) a c iE) := by
 obtain ⟨t1, t2, _⟩ := okN_ok oE
 obtain ⟨pE, bE, sE, NE, xE, exB, Fd, Sc, hN, hc, hbd⟩ := KD.ex
 obtain ⟨oc, od, dV, kV, doc, pm, an, cdv, ct, osl, hfd, lk, cd, _, _⟩ := Fd.ex
 refine ⟨fun pins s σ H Q I ⟨hσ, F, g, bs, n, rl, hkd, hbs, q⟩ => ?_⟩
 refine wpAny_Call_Name_kw (ld_glob I hg KD.gl ?_ hd)
 refine PySem.W.callWith_K (first := []) (h₀ := X.base) I.ok.mod.kin KD.kp (thn ((pa_cons (pe_var (X := X.suite a ((a, oe) :: pn)) (pos := p2) (i := iE) hE vE t1 t2) pa_nil rfl).run p3 pins s σ H (fun vs H2 => vs = [.ref a] ∧ H2 = H) I ⟨_, hσ, rfl, rfl⟩) fun us s2 ⟨vs, H2, I2, rv, h1, h2⟩ => ⟨I2.kIn, ?_⟩) rfl rfl
 subst h1
 rw [h2] at I2
 have P1 := I2.pin (a, oe) (List.mem_append.mpr (.inl List.mem_cons_self))
 let C : Hp := fun b => if b = a then some (KnO oe) else none
 have Ca : C a = some (KnO oe) := if_pos rfl
 have Cn : ∀ b, b ≠ a → C b = none := fun b h => if_neg h
 have C0 : ∀ b o, C b = some o → b = a ∧ o = KnO oe := fun b o h => by
  by_cases e : b = a
  ·subst e
   rw [Ca] at h
   cases h
   exact ⟨rfl, rfl⟩
  ·rw [Cn b e] at h; cases h
 have hKn : Kn C := fun b o h => ⟨oe, (C0 b o h).2⟩
 have no : ∀ b o, C b = some o → H b = none := fun b o h => by rw [(C0 b o h).1]; exact P1.2.1
 have noF : ∀ b o, C b = some o → F b = none := fun b o h => by
  cases e : F b with
  | none => rfl
  | some u => have := rl.ex b u e; rw [no b o h] at this; cases this
 have kn : KnAt X.base (X.suite a ((a, oe) :: pn)).stack C s2.heap := ⟨hKn, fun b ob h => by
   obtain ⟨rfl, e⟩ := C0 b _ h
   cases e
   exact P1.1, fun b o h hm => by
   rw [(C0 b o h).1] at hm
   exact (List.mem_cons.mp (I2.stkSub a hm)).elim P1.2.2.1 P1.2.2.2.1, fun b o h => by rw [(C0 b o h).1]; exact hB⟩
 show wpAny _ _ (call (.ref fK) us) _ _ _
 have hl1 : us.length = 1 := rv.length.symm
 have bb := hbd s2 us I2.kIn (by rw [List.append_nil, hl1]; rfl)
 rw [List.append_nil] at bb
 rw [hfd] at bb lk
 have e0 := env0_add I2.env0 kn no
 have hdep : (X.suite a ((a, oe) :: pn)).A.depth < recursionLimit := by
  have := hr.dp
  show X.A.depth < recursionLimit
  omega
 refine wpAny_call (codeAny_mono (run_quiet (CX := RX.CX X.prog X.w) (E := fun _ _ _ => False) (Q := fun v H' => (∀ b o, C b = some o → H' b = some o) → Q v (subH C H')) (N := NE) lk cd Sc hdep e0 bb (vs := [.ref a]) rfl rv fun p => ?_) fun r s' hq => ?_)
 ·have B : BgQ ⟨mkE st fa fb, NE, blt, exB, true⟩ (L2H.cxH (RX.CX X.prog X.w) X.prog X.w X.K X.mg X.base NE nm sE fK cdv (X.suite a ((a, oe) :: pn)).A (X.suite a ((a, oe) :: pn)).stack s2 (addH C H) (fun _ _ _ => False) p) ⟨X.K, addH C H, addH C F, []⟩ sE :=
   ⟨rfl, rfl, Sc.nd, by show IsiOk X.K _; rw [hK]; exact ⟨isi.is_, isi.xc, isi.cl⟩, hblt, by show ∀ c, _ → X.mg c = some (.ref (He.ga X.K c)); rw [hK]; exact hcl, rfl⟩
  refine ⟨_, pss_of (W := fun _ _ _ => False) (R := ⟨X.K, addH C H, addH C F, []⟩) (fun st' s' h => chkSQ_ok B 60 st' s' h) (hc fa fb), addH C F, ent none 0 [.xcp c] ++ List.replicate (NE.length - 1) none, ?_, ?_⟩
  ·refine rel_start (io := none) (fun b o h => ?_) (by rw [hK]; exact tb_add rl.tb hKn no) (argAt_data 0 (.cons ?_ .nil)) (by
    have := congrArg List.length Sc.pre
    rw [List.length_take] at this
    simp at this ⊢
    omega)
   ·cases z : C b with
    | some u => rw [addH_in z] at h ⊢; exact h
    | none => rw [addH_out z] at h ⊢; exact rl.ex b o h
   ·exact .xcp (addH_in Ca) (by rw [hK]; exact hz) hv
  ·have hkd' : runG none nN 1 (evSs (mkE st fa fb) bK) [.xcp c] = some (.ok (⟨.lst bs, .ow, n⟩, none)) := hkd
   unfold runG at hkd'
   rw [if_pos (by simp)] at hkd'
   rw [hN]
   cases hev : evSs (mkE st fa fb) bK (ent none 0 [.xcp c] ++ List.replicate (nN - 1) none) with
   | none => rw [hev] at hkd'; cases hkd'
   | some o =>
    rw [hev] at hkd'
    cases o with
    | ex x => cases hkd'
    | ok fg =>
     obtain ⟨fl, g1⟩ := fg
     cases fl with
     | nx => cases hkd'
     | bk => cases hkd'
     | ct => cases hkd'
     | rt sl =>
      cases hkd'
      intro v σ' F' H' _ r' hres inC
      have post := post_of (K := X.K) (F := addH C F) (H := addH C H) (io := none) (vs := [.ref a]) (fun p hp => by cases hp) r' hres rfl
      have sF : Same F (subH C F') := fun b o h => by
       have z : C b = none := by
        cases z : C b with
        | none => rfl
        | some u => rw [noF b u z] at h; cases h
       rw [subH_out z]
       exact post.exF b o (by rw [addH_out z]; exact h)
      have calm : ∀ {b}, (H b).isSome = true → C b = none := fun {b} h => by
       cases z : C b with
       | none => rfl
       | some u => rw [no b u z] at h; cases h
      obtain ⟨rr, ss⟩ := rl.calledX (H' := subH C H') (io := none) sF (fun b o h => by
       cases z : C b with
       | some u => rw [subH_in z] at h; cases h
       | none => rw [subH_out z] at h ⊢; exact post.ex b o h) (by rw [← hK]; exact tb_sub post.tb hKn inC) (fun b u h hn _ => by
       have z := calm (b := b) (by rw [h]; rfl)
       rw [subH_out z]
       exact post.fr b u (by rw [addH_out z]; exact h) hn (fun z => by cases z)) (fun b h1 h2 => by
       have z := calm h2
       rw [subH_out z]
       exact post.nF b (by rw [addH_out z]; exact h1) (by rw [addH_out z]; exact h2)) (fun b h => by
       have z := calm h
       rw [subH_out z]
       exact post.there b (by rw [addH_out z]; exact h)) (Step.refl g σ F H) rl (fun a z => by cases z)
      refine q v _ _ rr ss ?_
      obtain ⟨pp, e, h3, h4, h5⟩ := post.res
      subst e
      have z : C pp = none := by
       cases z : C pp with
       | none => rfl
       | some u => rw [addH_in z] at h3; cases h3
      rw [addH_out z] at h3
      refine ⟨pp, rfl, h3, by rw [subH_out z]; exact h4, (rl.fresh h3).2.2, ?_⟩
      rw [← hK]
      exact (h5.atoms (G := FN R.H0 (subH C F') true) hbs).mono (Same.refl _) (subH_out z)
 ·have hq := cr_add (Q := Q) (E := fun _ _ _ => False) kn no hq (fun v H' inC q => q inC) (fun c d H' _ q => q)
  match r, hq with
  | .error e, ⟨_, _, _, _, _, _, _, _, _, _, _, _, z⟩ => exact z.elim
  | .ok (.ret u), hq => exact I2.after hq
  | .ok .next, hq => exact hq.elim
  | .ok .brk, hq => exact hq.elim
  | .ok .cont, hq => exact hq.elim
end
end Y
namespace Y
open PySem PySem.Spec PyProof.Rows L2
def evCatch (E : Ev) (fl : Nat → Option Nat) (kd : Fn) (iA iT iS iE : Nat) (hs : Str → Bool) : G → M (Fl × G) := fun g => match g.get iA, g.get iT with
 | some ⟨.clo i caps, .fr, _⟩, some ⟨d, .fr, _⟩ => if D.plain d = true ∧ plainL caps = true ∧ (g.get iE).isNone = true ∧ iE < g.length then (match fl i with
   | some f => (match E.fn f (d :: caps) with
     | some (.ok _) => some (.ok (.nx, g))
     | some (.ex ⟨c, []⟩) => if hs c = true then (match kd [.xcp c] with
       | some (.ok (⟨.lst bs, .ow, _⟩, none)) => if bs.all D.atom = true then (match setSlot g iS ⟨.lst bs, .ow, true⟩ with
         | some g3 => if (g3.get iE).isNone = true then some (.ok (.nx, g3)) else none
         | none => none) else none
       | _ => none) else none
     | _ => none)
   | none => none) else none
 | _, _ => none
section
variable {X : Cx} {R : Fr} {W : XK} {q : Q} {k nN iA iT iS iE : Nat} {sc : Scope} {fl : Nat → Option Nat} {st : Ev} {fa fb : Nat → Fn} {fK : Addr} {fdK : FuncData} {bK : List S} {hs' : Str → Bool}
theorem ps_catch {Cn a t n sn nm : Str} {p1 p2 p3 p4 p5 p6 p7 p8 p9 p10 p11 p12 : Pos} (b : Bg q k X R W sc (fun _ => true)) (hE : q.E = mkE st fa fb) (isi : IsiOk R.K st) (hcl : ∀ c, st.cl c = true → X.mg c = some (.ref (He.ga R.K c)))
  (hs : X.stack = X.env :: X.outer) (hf : X.env.frame = some X.env.locals) (KD : KdF X.K X.mg st q.blt nm fK fdK bK nN)
  (hl : ∀ i f, fl i = some f → ∃ x, ∀ fa L, LamIs i L → NOkL X.prog X.w X.K X.mg X.base (RX.CX X.prog X.w) k fa L [x] (lamFr i) (spC X.K (q.E.fn f)))
  (hA : q.N[iA]? = some a) (vA : visB sc a = true) (oA : okN a = true) (hT : q.N[iT]? = some t) (vT : visB sc t = true) (oT : okN t = true) (hS : q.N[iS]? = some sn) (lS : isLoc sc sn = true) (hN : q.N[iE]? = some n) (lN : isLoc sc n = true) (oN : okN n = true)
  (hC : glB sc Cn = true) (hCo : okN Cn = true) (hCc : q.E.cl Cn = true) (hg : glB sc nm = true) (ho : okN nm = true) (ok : TryOkX R.K Cn hs') :
  PS X (.Try [.Expr (.Call (.Name a p1) [.Name t p2] [] p3) p4] [.ExceptHandler (some (.Name Cn p5)) (some n) [.Assign [.Name sn p6] (.Call (.Name nm p7) [.Name n p8] [] p9) p10] p11] [] [] p12)
   (TS_ R W (evCatch q.E fl (runF (mkE st fa fb) none nN 1 bK) iA iT iS iE hs')) := by
 obtain ⟨c1, _, _⟩ := okN_ok hCo
 obtain ⟨m1, _, _⟩ := okN_ok ho
 have hN2 : X.N[iE]? = some n := by rw [b.hN]; exact hN
 have hS2 : X.N[iS]? = some sn := by rw [b.hN]; exact hS
 have lN2 : X.env.scope.names.lookup n = some .local := by rw [b.hsc]; exact isLoc_ok lN
 have lS2 : X.env.scope.names.lookup sn = some .local := by rw [b.hsc]; exact isLoc_ok lS
 have hsu : ∀ (aa : Addr) (oe : Obj) (cls : Value) (d : Option Addr) (pn : List (Addr × Obj)), Zc cls d oe → (∃ vs, oe.data = .fields vs) → X.base.get? aa = none →
   PSs (X.suite aa ((aa, oe) :: pn)) [.Assign [.Name sn p6] (.Call (.Name nm p7) [.Name n p8] [] p9) p10] (fun D σ H => ∃ c, cls = .ref (He.ga R.K c) ∧ d = none ∧ tAsg (TKd R (runF (mkE st fa fb) none nN 1 bK) aa c iE) (gName iS) D σ H) :=
  fun aa oe cls d pn hz hv hB => ⟨fun pins s σ H D I ⟨c, e1, e2, h⟩ => by
   subst e1 e2
   exact (pss_one (X := X.suite aa ((aa, oe) :: pn)) (ps_set (X := X.suite aa ((aa, oe) :: pn)) b.nd hS2 (.inl lS2) (pe_kd b.hK isi b.blt hcl b.room KD (b.gl hg) m1 hz hv hB hN2 (.inl lN2) oN) (sw_ok rfl) (.inr lS2))).run pins s σ H D I h⟩
 refine PS.imp (RX.ps_try_asN (i := iE) hs hf b.nd hN2 lN2 ⟨b.gl hC, c1, .inl (b.cl Cn hCc)⟩ (tb := fun W' => tDrop (TClo R W' q.E fl iA iT))
  (ts := fun aa cls d D σ H => ∃ c, cls = .ref (He.ga R.K c) ∧ d = none ∧ tAsg (TKd R (runF (mkE st fa fb) none nN 1 bK) aa c iE) (gName iS) D σ H)
  (fun W' pn xe tk po => pss_one (X := X.tr pn xe) (ps_expr (X := X.tr pn xe) (pe_clo (X := X.tr pn xe) b.hK tk b.gd b.room hl (by rw [show (X.tr pn xe).N = X.N from rfl, b.hN]; exact hA) (b.vis vA) oA (by rw [show (X.tr pn xe).N = X.N from rfl, b.hN]; exact hT) (b.vis vT) oT))) hsu) fun D σ H ⟨F, g, r, q0⟩ => ?_
 unfold evCatch at q0
 split at q0
 rotate_left
 ·exact q0.elim
 rename_i i caps nA d nT gA gT
 split at q0
 rotate_left
 ·exact q0.elim
 rename_i hcond
 obtain ⟨pd, pc, hnE, hlg⟩ := hcond
 have hnE : g.get iE = none := Option.isNone_iff_eq_none.mp hnE
 split at q0
 rotate_left
 ·exact q0.elim
 rename_i f hfl
 refine ⟨F, g, i, caps, nA, d, nT, f, r.rel, gA, gT, pd, pc, hfl, ?_⟩
 cases hres : q.E.fn f (d :: caps) with
 | none => rw [hres] at q0; exact q0.elim
 | some o =>
  rw [hres] at q0
  cases o with
  | ok ro =>
   have q0 : FlC R F D (.nx, g) := q0
   exact fun v F' H' r' e => q0 σ F' H' e ⟨r', r'.f0, r'.fn⟩
  | ex x =>
   obtain ⟨c, fs⟩ := x
   cases fs with
   | cons _ _ => exact q0.elim
   | nil =>
    dsimp only at q0
    by_cases hc : hs' c = true
    rotate_left
    ·rw [if_neg hc] at q0; exact q0.elim
    rw [if_pos hc] at q0
    refine ⟨rfl, fun F' H' r' e => ⟨by rw [b.hK]; exact ok c hc, fun aa ha => ⟨c, rfl, rfl, ?_⟩⟩⟩
    split at q0
    rotate_left
    ·exact q0.elim
    rename_i bs n' hk
    by_cases hbs : bs.all Y.D.atom = true
    rotate_left
    ·rw [if_neg hbs] at q0; exact q0.elim
    rw [if_pos hbs] at q0
    have hlen : iE < σ.length := by rw [r.rel.len]; exact hlg
    cases hs2 : setSlot g iS ⟨.lst bs, .ow, true⟩ with
    | none => rw [hs2] at q0; exact q0.elim
    | some g3 =>
     rw [hs2] at q0
     dsimp only at q0
     by_cases hn3 : (g3.get iE).isNone = true
     rotate_left
     ·rw [if_neg hn3] at q0; exact q0.elim
     rw [if_pos hn3] at q0
     have hn3 : g3.get iE = none := Option.isNone_iff_eq_none.mp hn3
     have q0 : FlC R F D (.nx, g3) := q0
     have R1 : RelS R F' g (σ.set iE (some (.ref aa))) H' := RelS.setσ ⟨r', r'.f0, r'.fn⟩ hnE
     refine ⟨List.getElem?_set_self hlen, F', g, bs, n', R1.rel, hk, hbs, fun v F2 H2 r2 st2 h2 => ?_⟩
     have R2 := (R1.step r2 st2).set hs2 (h2.base R1.rel)
     exact q0 _ F2 H2 (e.trans st2.exF) (R2.1.setσ hn3)
end
end Y
namespace Y
open PySem PySem.Spec PyProof.Rows L2
def evRef (s0 s2 : S) (flT : List Nat) (bK : List S) (nK iA iT iS iE : Nat) (hs : List Str) (E : Ev) : G → M (Fl × G) :=
 seqM (evS E s0) (seqM (evCatch E (fun i => flT[i]?) (runF E none nK 1 bK) iA iT iS iE (fun c => hs.contains c)) (evSs E [s2]))
def refC (q : Q) (n : Nat) (sc : Scope) (Cn nm : Str) (s0 s2 : S) (iA iT iS iE : Nat) : List Stmt → Bool
 | [st0, .Try [.Expr (.Call (.Name a _) [.Name t _] [] _) _] [.ExceptHandler (some (.Name C' _)) (some n') [.Assign [.Name sn _] (.Call (.Name kn _) [.Name en _] [] _) _] _] [] [] _, st2] =>
  chkS q n sc (fun _ => true) st0 s0 && chkS q n sc (fun _ => true) st2 s2 && decide (C' = Cn) && decide (kn = nm) && decide (en = n') && decide (q.N[iA]? = some a) && visB sc a && okN a && decide (q.N[iT]? = some t) && visB sc t && okN t && decide (q.N[iS]? = some sn) && isLoc sc sn &&
   decide (q.N[iE]? = some n') && isLoc sc n' && okN n' && glB sc Cn && okN Cn && q.E.cl Cn && glB sc nm && okN nm
 | _ => false
theorem refC_ok {X : Cx} {R : Fr} {W : XK} {q : Q} {k n nK iA iT iS iE : Nat} {sc : Scope} {flT : List Nat} {st : Ev} {fa fb : Nat → Fn} {fK : Addr} {fdK : FuncData} {bK : List S} {hs : List Str} {Cn nm : Str} {s0 s2 : S} {sts : List Stmt} (b : Bg q k X R W sc (fun _ => true)) (hE : q.E = mkE st fa fb) (isi : IsiOk R.K st) (hcl : ∀ c, st.cl c = true → X.mg c = some (.ref (He.ga R.K c)))
  (h1 : X.stack = X.env :: X.outer) (h2 : X.env.frame = some X.env.locals) (KD : KdF X.K X.mg st q.blt nm fK fdK bK nK) (hl : ∀ (i f : Nat), flT[i]? = some f → ∃ x, ∀ fa L, LamIs i L → NOkL X.prog X.w X.K X.mg X.base (RX.CX X.prog X.w) k fa L [x] (lamFr i) (spC X.K (q.E.fn f)))
  (ok : TryOkX R.K Cn fun c => hs.contains c) (h : refC q n sc Cn nm s0 s2 iA iT iS iE sts = true) : PSs X sts (TS_ R W (evRef s0 s2 flT bK nK iA iT iS iE hs q.E)) := by
 unfold refC at h
 split at h
 ·simp only [Bool.and_eq_true, decide_eq_true_eq] at h
  obtain ⟨⟨⟨⟨⟨⟨⟨⟨⟨⟨⟨⟨⟨⟨⟨⟨⟨⟨⟨⟨c1, c2⟩, rfl⟩, rfl⟩, rfl⟩, a1⟩, a2⟩, a3⟩, a4⟩, a5⟩, a6⟩, a7⟩, a8⟩, a9⟩, a10⟩, a11⟩, a12⟩, a13⟩, a14⟩, a15⟩, a16⟩ := h
  have kd : runF q.E none nK 1 bK = runF (mkE st fa fb) none nK 1 bK := by rw [hE]
  unfold evRef
  rw [kd]
  exact pss_seq (chkS_ok q k n _ _ b c1) (pss_seq (ps_catch (fa := fa) (fb := fb) b hE isi hcl h1 h2 KD hl a1 a2 a3 a4 a5 a6 a7 a8 a9 a10 a11 a12 a13 a14 a15 a16 ok) (pss_of (fun st' s' z => chkS_ok q k n st' s' b z) (sts := [_]) (ss := [s2]) (by unfold all2; rw [c2]; rfl)))
 ·cases h
def lamB (st : Ev) (blt exB : Str → Bool) (t : LT) (x : Str) (c : C) : Prop := NdefX.nscB (x :: t.fr) [x] t.fr t.scope = true ∧ (∀ (q : Str) (b : Expr) (sc : Scope) (cl : List (Str × Addr)) (c' : Addr) (pm ctv : Value) (us : List Value), us.length = 1 → bindArgs (LF.fd ⟨q, t.params, b, sc, cl, c'⟩ pm ctv) ⟨us, []⟩ = pure ([x].zip us)) ∧ ∀ a b, chk ⟨mkE st a b, x :: t.fr, blt, exB, true⟩ 60 t.scope t.body c = true
section
variable {P : Program} {w : World} {K : PySem.W.Frag} {mg : Str → Option Value} {base : Heap} {st : Ev} {step : Ev → Nat → Fn} {blt exB : Str → Bool}
theorem spC_none {fn : Fn} (h : ∀ ds, fn ds = none) {ws : List (Option V)} {vs : List V} {H : Hp} {Q : VK} {E : XK} : ¬ spC K fn ws vs H Q E := fun ⟨_, d, ds, _, _, _, _, _, _, _, _, q⟩ => by
 rw [h] at q
 exact q
theorem lams_ok (M : Md P w K mg st blt exB) {flT : List Nat} (hlam : ∀ (i f : Nat), flT[i]? = some f → ∃ t x c, lamTab[i]? = some t ∧ (∀ E, step E f = semC c E) ∧ lamB st blt exB t x c) : ∀ k, (∀ j, j ≤ k → LvAll P w K mg base (mkE st (sem st step (j + 1)) (sem st step j)) (j + 1)) → ∀ (i f : Nat), flT[i]? = some f →
  ∃ x, ∀ fa L, LamIs i L → NOkL P w K mg base (RX.CX P w) (k + 1) fa L [x] (lamFr i) (spC K (sem st step (k + 1) f)) := by
 intro k L i f hf
 obtain ⟨t, x, c, ht, hs, hb⟩ := hlam i f hf
 refine ⟨x, fun fa Lf ⟨t', ht', e1, e2, e3, e4⟩ => ?_⟩
 rw [ht] at ht'
 cases ht'
 have efr : lamFr i = t.fr := by unfold lamFr; rw [ht]; rfl
 rw [efr]
 cases k with
 | zero => exact ⟨fun ws vs H Q E h => (spC_none (fun _ => rfl) h).elim, fun A _ outer s H us vs ws Q E _ _ _ _ _ _ h => (spC_none (fun _ => rfl) h).elim⟩
 | succ k =>
  have e : sem st step (k + 1 + 1) f = semC c (mkE st (sem st step (k + 1)) (sem st step k)) := by
   show step (mkE st (sem st step (k + 1)) (sem st step k)) f = _
   rw [hs]
  rw [e]
  obtain ⟨b1, b2, b3⟩ := hb
  obtain ⟨q1, q2, q3, q4, q5, q6⟩ := Lf
  simp only at e1 e2 e3 e4
  subst e2 e3 e4
  exact lam_okC M (L k (Nat.le_succ k)) (NdefX.nscope_by b1) (fun pm ctv us hu => b2 _ _ _ _ _ _ _ us hu) (b3 _ _)
theorem df_ref (M : Md P w K mg st blt exB) {fid nN : Nat} {x qual : Str} {params : Arguments} {body : List Stmt} {scope : Scope} {dvs : List V} {kws : List (Str × V)} {p : Pl} {N : List Str}
  (Fd : FunD K x qual params body scope dvs kws p.f p.fd) (Sc : FnScope N p.ps scope) (hl : p.ps.length = st.np fid) (hN : N.length = nN)
  (hb : ∀ n, n + (moreOf st fid n).length = st.np fid → ∃ (ds : List Value) (dvs : List V), Binds K p.fd p.ps ds ∧ Vals dvs ds ∧ Paired (At K (fun _ => none)) dvs (moreOf st fid n))
  {s0 s2 : S} {flT : List Nat} {bK : List S} {nK iA iT iS iE : Nat} {hs : List Str} {Cn nm : Str} {fK : Addr} {fdK : FuncData}
  (hst : ∀ E, step E fid = runG (st.io fid) nN (st.np fid) (evRef s0 s2 flT bK nK iA iT iS iE hs E)) (KD : KdF K mg st blt nm fK fdK bK nK) (ok : TryOkX K Cn fun c => hs.contains c)
  (hlam : ∀ (i f : Nat), flT[i]? = some f → ∃ t x c, lamTab[i]? = some t ∧ (∀ E, step E f = semC c E) ∧ lamB st blt exB t x c)
  (hc : ∀ a b, refC ⟨mkE st a b, N, blt, exB, true⟩ 60 scope Cn nm s0 s2 iA iT iS iE body = true) : Df P w K mg base st step fid p where
 len := hl
 binds := hb
 step := fun k L => by
  rw [hst]
  refine fnD Fd Sc hl hN fun cdv _ A gd outer s H W R hR hr => ?_
  have b := bg_of M (L k (Nat.le_refl _)) Sc (N := N) (ps := p.ps) (qual := qual) (f := p.f) (cdv := cdv) (outer := outer) (s := s) (H := H) (W := W) hR gd hr
  exact refC_ok b rfl (by rw [hR]; exact M.isi) (by rw [hR]; exact M.cl) rfl rfl KD (lams_ok M hlam k L) (by rw [hR]; exact ok) (hc _ _)
end
end Y
namespace Y
open PySem PySem.Spec PyProof.Rows L2
def mkLm (X : Cx) (t : LT) (c' : Addr) : LF := ⟨X.env.qual ++ "<lambda>", t.params, t.body, t.scope, cloFrom X.env.cells t.scope.names [], c'⟩
structure LamX1 (X : Cx) (i : Nat) (js : List Nat) (t : LT) : Prop where
 tab : lamTab[i]? = some t
 qual : t.qual = X.env.qual ++ "<lambda>"
 dfl : defaultsOf t.params X.env = ([], [])
 free : ∀ y ∈ t.scope.names, y.2 = .free → X.env.scope.names.lookup y.1 = some .cell ∨ X.env.scope.names.lookup y.1 = some .free
 fr : ∀ y ∈ t.fr, (y, NameKind.free) ∈ t.scope.names
 fr2 : ∀ y ∈ t.scope.names, y.2 = .free → y.1 ∈ t.fr
 js : js.map (fun j => X.N[j]?) = t.fr.map some
def LamsAt (X : Cx) (H : Hp) : List (Nat × List Nat) → List (Addr × Addr) → Prop := Paired fun p f => ∃ t, LamX1 X p.1 p.2 t ∧ H f.1 = some (LamO f.1 (mkLm X t f.2)) ∧ H f.2 = some (LamX.CodeO f.2 (X.env.qual ++ "<lambda>"))
theorem lamsAt_mono {X : Cx} {H H' : Hp} (e : LamX.ExtN H H') : ∀ {ls : List (Nat × List Nat)} {fs : List (Addr × Addr)}, LamsAt X H ls fs → LamsAt X H' ls fs
 | [], _, h => by cases h; exact .nil
 | l :: ls, _, h => by
  cases h with
  | cons h1 h2 =>
   obtain ⟨t, a, b, c⟩ := h1
   exact .cons ⟨t, a, e _ _ b lamO_nt, e _ _ c codeO_nt⟩ (lamsAt_mono e h2)
def LamEs (X : Cx) : List (Nat × List Nat) → List Expr → Prop := Paired fun p e => ∃ t pos, LamX1 X p.1 p.2 t ∧ e = .Lambda t.params t.body t.scope pos
def tLams (X : Cx) (ls : List (Nat × List Nat)) : TA := fun σ H Q => LamX.Tabs (lamT X.K) H ∧ ∀ fs H1, LamX.ExtN H H1 → (∀ b, (H b).isSome = true → (H1 b).isSome = true) → LamX.Tabs (lamT X.K) H1 → LamsAt X H1 ls fs → Q (fs.map fun x => .ref x.1) H1
section
variable {X : Cx} {c P : Addr}
theorem pa_lams (TB : LamX.TabB X.base X.mg c P) (hcode : X.env.code = .ref c) (hm : (P, X.env.qual ++ "<lambda>") ∈ lamT X.K) (hu : ∀ p ∈ lamT X.K, p.1 = P → p.2 = X.env.qual ++ "<lambda>") : ∀ {ls : List (Nat × List Nat)} {es : List Expr}, LamEs X ls es → PA X es (tLams X ls)
 | [], _, h => by
  cases h
  exact PA.imp pa_nil fun σ H Q ⟨hT, q⟩ => q [] H (LamX.ExtN.refl H) (fun _ z => z) hT .nil
 | l :: ls, _, h => by
  cases h with
  | cons h1 h2 =>
   obtain ⟨t, pos, hl, rfl⟩ := h1
   refine PA.imp (pa_cons (pe_lam (T := lamT X.K) (pos := pos) TB hcode hm hu hl.dfl hl.free) (pa_lams TB hcode hm hu h2) rfl) fun σ H Q ⟨hT, q⟩ => ⟨hT, fun f c' H1 e1 e2 e3 e4 e5 e6 => ⟨e3, fun fs H2 g1 g2 g3 g4 => ?_⟩⟩
   exact q ((f, c') :: fs) H2 (e1.trans g1) (fun b z => g2 b (e2 b z)) g3 (.cons ⟨t, hl, g1 _ _ e5 lamO_nt, g1 _ _ e6 codeO_nt⟩ g4)
end
def closD (g : G) : List (Nat × List Nat) → Option (List D)
 | [] => some []
 | (i, js) :: ls => match capD g js, closD g ls with
  | some ds, some cs => some (.clo i ds :: cs)
  | _, _ => none
def evEv (E : Ev) (fid : Nat) (ls : List (Nat × List Nat)) (cs : List C) : G → M (Bool × G) := fun g => if E.io fid = none ∧ E.np fid = cs.length + 1 ∧ (moreOf E fid (cs.length + 1)).isEmpty = true then (match evA E none 1 cs g with
 | some (.ok (as, g1)) => (match arsD g1 as, closD g1 ls with
  | some ds, some cl => (match E.fn fid (.lst cl :: ds) with
   | some (.ok (⟨.bl b, .fr, _⟩, none)) => some (.ok (b, g1))
   | _ => none)
  | _, _ => none)
 | _ => none) else none
end Y
namespace Y
open PySem PySem.Spec PyProof.Rows L2
section
variable {X : Cx} {R : Fr} {E : Ev} {F H : Hp} {g : G} {σ : L2.St}
theorem cells_kn {pins : List (Addr × Obj)} {s : Shared} (I : Inv X pins σ H s) (hfn : ∀ x, X.fn x = true) : ∃ C : Hp, KnAt X.base X.stack C s.heap ∧ (∀ b o, C b = some o → H b = none) ∧ ∀ y c, X.env.cells.lookup y = some c → ∃ ob, C c = some (KnO ob) ∧ s.heap.get? c = some ob := by
 let C : Hp := fun b => haveI := Classical.propDecidable (∃ y, X.env.cells.lookup y = some b); if ∃ y, X.env.cells.lookup y = some b then (s.heap.get? b).map KnO else none
 have C1 : ∀ b, (∃ y, X.env.cells.lookup y = some b) → C b = (s.heap.get? b).map KnO := fun b h => by
  show (haveI := Classical.propDecidable (∃ y, X.env.cells.lookup y = some b); if ∃ y, X.env.cells.lookup y = some b then (s.heap.get? b).map KnO else none) = _
  rw [if_pos h]
 have C0 : ∀ b o, C b = some o → (∃ y, X.env.cells.lookup y = some b) ∧ ∃ ob, s.heap.get? b = some ob ∧ o = KnO ob := fun b o h => by
  have h : (haveI := Classical.propDecidable (∃ y, X.env.cells.lookup y = some b); if ∃ y, X.env.cells.lookup y = some b then (s.heap.get? b).map KnO else none) = some o := h
  split at h
  ·rename_i z
   cases e : s.heap.get? b with
   | none => rw [e] at h; cases h
   | some ob => rw [e] at h; cases h; exact ⟨z, ob, rfl, rfl⟩
  ·cases h
 have big : ∀ b o, C b = some o → X.s_0.heap.objs.size ≤ b := fun b o h => by
  obtain ⟨⟨y, hy⟩, _⟩ := C0 b o h
  exact I.ok.cab y b (hfn y) hy
 refine ⟨C, ⟨fun b o h => ?_, fun b ob h => ?_, fun b o h hm => ?_, fun b o h => ?_⟩, fun b o h => ?_, fun y c hy => ?_⟩
 ·obtain ⟨_, ob, _, e⟩ := C0 b o h
  exact ⟨ob, e⟩
 ·obtain ⟨_, ob', e1, e2⟩ := C0 b _ h
  cases e2
  exact e1
 ·obtain ⟨⟨y, hy⟩, _⟩ := C0 b o h
  rcases List.mem_cons.mp (I.stkSub b hm) with z | z
  ·exact I.cne y b hy z
  ·obtain ⟨_, ob, e, _⟩ := I.ok.funs.mem z
   exact absurd (Nat.lt_of_lt_of_le (Heap.lt_size e) (big b o h)) (Nat.lt_irrefl _)
 ·exact Heap.get?_none_of_le (Nat.le_trans I.ok.bsz (big b o h))
 ·obtain ⟨⟨y, hy⟩, _⟩ := C0 b o h
  exact I.freeC y b hy
 ·obtain ⟨v, ob, e, _⟩ := I.cell y c hy
  exact ⟨ob, by rw [C1 c ⟨y, hy⟩, e]; rfl, e⟩
theorem clos_at {pins : List (Addr × Obj)} {s : Shared} {C G : Hp} (I : Inv X pins σ H s) (rl : Rel R F g σ H) (hC : ∀ y c, X.env.cells.lookup y = some c → ∃ ob, C c = some (KnO ob) ∧ s.heap.get? c = some ob) (hG : ∀ b o, C b = some o → G b = some o) (eF : Same F G) :
  ∀ {ls : List (Nat × List Nat)} {fs : List (Addr × Addr)} {cl : List D}, LamsAt X H ls fs → (∀ x ∈ fs, ∀ o, (H x.1 = some o → G x.1 = some o) ∧ (H x.2 = some o → G x.2 = some o)) → closD g ls = some cl → Paired (At R.K G) (fs.map fun x => V.ref x.1) cl
 | [], _, cl, h, _, e => by
  cases h
  cases e
  exact .nil
 | (i, js) :: ls, _, cl, h, hx, e => by
  cases h with
  | @cons _ x _ fs h1 h2 =>
   obtain ⟨t, lx, hf, hc⟩ := h1
   unfold closD at e
   split at e
   ·rename_i ds cs e1 e2
    cases e
    refine .cons ?_ (clos_at I rl hC hG eF h2 (fun y hy => hx y (List.mem_cons_of_mem _ hy)) e2)
    have efr : lamFr i = t.fr := by unfold lamFr; rw [lx.tab]; rfl
    have caps : NdefX.Caps X (cloFrom X.env.cells t.scope.names []) t.fr js := NdefX.Caps.made I.ok lx.free lx.fr lx.js
    have CA := NdefX.cells_of I caps
    have hp := cap_ok rl e1
    obtain ⟨vs, hv, hat⟩ : ∃ vs : List V, js.map (NdefX.slotAt σ) = vs.map some ∧ Paired (At R.K G) vs ds := by
     have go : ∀ {ws : List (Option V)} {ds : List D}, Paired (fun (w : Option V) d => ∃ v, w = some v ∧ At R.K F v d) ws ds → ∃ vs : List V, ws = vs.map some ∧ Paired (At R.K G) vs ds := by
      intro ws
      induction ws with
      | nil => intro ds h; cases h; exact ⟨[], rfl, .nil⟩
      | cons w ws ih =>
       intro ds h
       cases h with
       | cons a b =>
        obtain ⟨v, rfl, z⟩ := a
        obtain ⟨vs, rfl, z2⟩ := ih b
        exact ⟨v :: vs, rfl, .cons (At.mono eF _ _ z) z2⟩
     exact go hp
    rw [hv] at CA
    have hcl : ∀ y c, (cloFrom X.env.cells t.scope.names []).lookup y = some c → X.env.cells.lookup y = some c := caps.sub
    refine .clo ⟨t, lx.tab, lx.qual.symm, rfl, rfl, rfl⟩ ((hx x List.mem_cons_self _).1 hf) ((hx x List.mem_cons_self _).2 hc) ⟨by rw [efr, ← CA.len, List.length_map], fun y c z => ?_, CA.inj, fun j y z => ?_⟩ hat
    ·rw [efr]
     rcases cloFrom_mem (PySem.mem_of_lookup z) with m | ⟨m, _⟩
     ·cases m
     ·exact lx.fr2 _ m rfl
    ·rw [efr] at z
     obtain ⟨c, z1, z2⟩ := CA.has j y z
     have hj : j < vs.length := by
      have := CA.len
      rw [List.length_map] at this
      rw [this]
      exact (List.getElem?_eq_some_iff.mp z).1
     obtain ⟨u, ru, ob, e3, e4⟩ := z2 vs[j] (by rw [List.getElem?_map, List.getElem?_eq_getElem hj]; rfl)
     obtain ⟨ob', e5, e6⟩ := hC y c (hcl y c z1)
     rw [e3] at e6
     cases e6
     exact ⟨c, vs[j], z1, List.getElem?_eq_getElem hj, _, hG _ _ e5, ob, u, rfl, e4, ru⟩
   ·cases e
theorem call_ev {pins : List (Addr × Obj)} {s : Shared} {k np fid : Nat} {f p : Addr} {fd : FuncData} {ps : List Str} {us : List Value} {vs : List V} {ds cl : List D} {ls : List (Nat × List Nat)} {fs : List (Addr × Addr)} {b n : Bool} {Q : VK} (hK : X.K = R.K) (gd : X.A.guards = some []) (hr : Room k X.A) (hfn : ∀ x, X.fn x = true)
  (Fn : FnG X.prog X.w X.K X.mg X.base (RX.CX X.prog X.w) k f fd ps (spD R.K none np (E.fn fid))) (bi : Binds X.K fd ps []) (I : Inv X pins σ H s) (rl : Rel R F g σ H) (hp : H p = some (.lst (fs.map fun x => V.ref x.1))) (hl : LamsAt X H ls fs) (hcl : closD g ls = some cl) (vr : Vals (.ref p :: vs) us)
  (hA : Paired (At R.K F) vs ds) (hlen : vs.length + 1 = np) (hres : E.fn fid (.lst cl :: ds) = some (.ok (⟨.bl b, .fr, n⟩, none))) (q : ∀ F' H', Rel R F' g σ H' → Step g σ F H g F' H' → Q (.bl b) H') : wpAny (model X.prog X.w) X.A (call (.ref f) us) (EP X pins σ Q) X.xe s := by
 obtain ⟨C, kn, no, hC⟩ := cells_kn I hfn
 have hKn := kn.kn
 let S : Addr → Prop := fun b => b = p ∨ ∃ x ∈ fs, b = x.1 ∨ b = x.2
 let G : Hp := fun b => haveI := Classical.propDecidable (S b); if S b then H b else addH C F b
 have G1 : ∀ b, S b → G b = H b := fun b h => by
  show (haveI := Classical.propDecidable (S b); if S b then H b else addH C F b) = _
  rw [if_pos h]
 have G2 : ∀ b, ¬ S b → G b = addH C F b := fun b h => by
  show (haveI := Classical.propDecidable (S b); if S b then H b else addH C F b) = _
  rw [if_neg h]
 have noF : ∀ b o, C b = some o → F b = none := fun b o h => by
  cases e : F b with
  | none => rfl
  | some u => have := rl.ex b u e; rw [no b o h] at this; cases this
 have nC : ∀ b o, H b = some o → C b = none := fun b o h => by
  cases e : C b with
  | none => rfl
  | some u => rw [no b u e] at h; cases h
 have hlS : ∀ {ls : List (Nat × List Nat)} {fs : List (Addr × Addr)}, LamsAt X H ls fs → ∀ x ∈ fs, (∃ L, H x.1 = some (LamO x.1 L)) ∧ ∃ q, H x.2 = some (LamX.CodeO x.2 q) := by
  intro ls
  induction ls with
  | nil => intro fs h; cases h; intro x hx; cases hx
  | cons l ls ih =>
   intro fs h
   cases h with
   | cons a b =>
    obtain ⟨t, _, h1, h2⟩ := a
    intro x hx
    rcases List.mem_cons.mp hx with rfl | hx
    ·exact ⟨⟨_, h1⟩, _, h2⟩
    ·exact ih b x hx
 have hS : ∀ b, S b → ∃ o, H b = some o ∧ nt o := fun b h => by
  rcases h with rfl | ⟨x, hx, h⟩
  ·exact ⟨_, hp, nt_lst⟩
  ·obtain ⟨⟨L, h1⟩, q, h2⟩ := hlS hl x hx
   rcases h with rfl | rfl
   ·exact ⟨_, h1, lamO_nt⟩
   ·exact ⟨_, h2, codeO_nt⟩
 have sFG : Same F G := fun b o h => by
  by_cases z : S b
  ·rw [G1 b z]; exact rl.ex b o h
  ·rw [G2 b z, addH_out]
   ·exact h
   ·exact nC b o (rl.ex b o h)
 have hGC : ∀ b o, C b = some o → G b = some o := fun b o h => by
  have z : ¬ S b := fun z => by
   obtain ⟨u, hu, _⟩ := hS b z
   rw [no b o h] at hu
   cases hu
  rw [G2 b z]
  exact addH_in h
 have sGH : Same G (addH C H) := fun b o h => by
  by_cases z : S b
  ·rw [G1 b z] at h
   rw [addH_out (nC b o h)]
   exact h
  ·rw [G2 b z] at h
   cases e : C b with
   | some u => rw [addH_in e] at h ⊢; exact h
   | none => rw [addH_out e] at h ⊢; exact rl.ex b o h
 have tG : Tb R.K G (addH C H) := ⟨(tb_add rl.tb hKn no).tab, fun b o h => by
  by_cases z : S b
  ·rw [G1 b z] at h
   obtain ⟨u, hu, hn⟩ := hS b z
   rw [h] at hu
   cases hu
   exact hn
  ·rw [G2 b z] at h
   exact (tb_add rl.tb hKn no).fnt b o h⟩
 have hclo := clos_at I rl hC hGC sFG hl (fun x hx o => ⟨fun z => by rw [G1 _ (.inr ⟨x, hx, .inl rfl⟩)]; exact z, fun z => by rw [G1 _ (.inr ⟨x, hx, .inr rfl⟩)]; exact z⟩) hcl
 have hat : Paired (At R.K G) (.ref p :: vs) (.lst cl :: ds) := .cons (.lst (by rw [G1 p (.inl rfl)]; exact hp) hclo) (atL_mono sFG _ _ hA)
 have sp : spD R.K none np (E.fn fid) ((.ref p :: vs) ++ []) (addH C H) (fun v H' => (∀ b o, C b = some o → H' b = some o) → Q v (subH C H')) (fun _ _ _ => False) := by
  rw [List.append_nil, spD_old (by simp)]
  refine ⟨G, .lst cl :: ds, sGH, tG, by simpa using hlen, argAt_data 0 hat, ?_⟩
  rw [hres]
  intro v F' H' post inC
  have hb : v = .bl b := by
   have h := post.res
   cases h
   rfl
  subst hb
  let Z : Addr → Prop := fun a => (G a).isSome = true ∧ F a = none
  let F2 : Hp := fun a => haveI := Classical.propDecidable (Z a); if Z a then none else F' a
  have Z1 : ∀ a, Z a → F2 a = none := fun a h => by
   show (haveI := Classical.propDecidable (Z a); if Z a then none else F' a) = _
   rw [if_pos h]
  have Z2 : ∀ a, ¬ Z a → F2 a = F' a := fun a h => by
   show (haveI := Classical.propDecidable (Z a); if Z a then none else F' a) = _
   rw [if_neg h]
  have le2 : ∀ a o, F2 a = some o → F' a = some o ∧ ¬ Z a := fun a o h => by
   by_cases z : Z a
   ·rw [Z1 a z] at h; cases h
   ·rw [Z2 a z] at h; exact ⟨h, z⟩
  have cn : ∀ a, (H a).isSome = true → C a = none := fun a h => by
   obtain ⟨o, ho⟩ := Option.isSome_iff_exists.mp h
   exact nC a o ho
  obtain ⟨rr, ss⟩ := rl.calledX (F' := F2) (H' := subH C H') (io := none) (fun a o h => by
    rw [Z2 a fun z => by rw [z.2] at h; cases h]
    exact post.exF a o (sFG a o h)) (fun a o h => by
    obtain ⟨h1, h2⟩ := le2 a o h
    have z : C a = none := by
     cases e : C a with
     | none => rfl
     | some u => exact absurd ⟨by rw [hGC a u e]; rfl, noF a u e⟩ h2
    rw [subH_out z]
    exact post.ex a o h1) ⟨(tb_sub post.tb hKn inC).tab, fun a o h => post.tb.fnt a o (le2 a o h).1⟩ (fun a u h hn _ => by
    have z := nC a u h
    rw [subH_out z]
    exact post.fr a u (by rw [addH_out z]; exact h) hn (fun z => by cases z)) (fun a h1 h2 => by
    by_cases z : Z a
    ·exact Z1 a z
    ·rw [Z2 a z]
     have hg : G a = none := by
      cases e : G a with
      | none => rfl
      | some o => exact absurd ⟨by rw [e]; rfl, h1⟩ z
     exact post.nF a hg (by rw [addH_out (cn a h2)]; exact h2)) (fun a h => by
    rw [subH_out (cn a h)]
    exact post.there a (by rw [addH_out (cn a h)]; exact h)) (Step.refl g σ F H) rl (fun a z => by cases z)
  exact q _ _ rr ss
 exact run_fnA (E0 := fun _ _ _ => False) Fn gd hr bi .nil (fun u s1 z => (no_cx z).elim) I vr kn no sp (fun v H' inC z => z inC) (fun c d H' _ z => z)
end
end Y
namespace Y
open PySem PySem.Spec PyProof.Rows L2
theorem argAt_pl {K : PySem.W.Frag} {F H : Hp} : ∀ {j : Nat} {vs : List V} {ds : List D}, ArgAt K F H none j vs ds → Paired (At K F) vs ds
 | _, _, _, .nil => .nil
 | _, _, _, .val _ h t => .cons h (argAt_pl t)
 | _, _, _, .io h _ _ _ => by cases h
def EvFin (X : Cx) (R : Fr) (E : Ev) (fid np : Nat) (ls : List (Nat × List Nat)) (σ : L2.St) (Q : VK) (vs : List V) (H : Hp) : Prop := ∃ p ws F g fs cl ds b n, vs = .ref p :: ws ∧ Rel R F g σ H ∧ H p = some (.lst (fs.map fun x => V.ref x.1)) ∧ LamsAt X H ls fs ∧ closD g ls = some cl ∧ Paired (At R.K F) ws ds ∧ ws.length + 1 = np ∧
 E.fn fid (.lst cl :: ds) = some (.ok (⟨.bl b, .fr, n⟩, none)) ∧ ∀ F' H', Rel R F' g σ H' → Step g σ F H g F' H' → Q (.bl b) H'
def RdI (R : Fr) (E : Ev) (fid : Nat) (ls : List (Nat × List Nat)) (cs : List C) : TE := fun σ H Q => ∃ F g, Rel R F g σ H ∧ wp (evEv E fid ls cs g) (fun (b, g') => ∀ F' H', Rel R F' g' σ H' → Step g σ F H g' F' H' → Q (.bl b) H') fun _ => False
def RdV (X : Cx) (R : Fr) (E : Ev) (fid : Nat) (ls : List (Nat × List Nat)) (cs : List C) (j : Nat) : TE := fun σ H Q => ∃ F g p fs, Rel R F g σ H ∧ σ[j]? = some (some (.ref p)) ∧ H p = some (.lst (fs.map fun x => V.ref x.1)) ∧ ¬ Own g σ p ∧ LamsAt X H ls fs ∧
 wp (evEv E fid ls cs g) (fun (b, g') => ∀ F' H', Rel R F' g' σ H' → Step g σ F H g' F' H' → Q (.bl b) H') fun _ => False
section
variable {X : Cx} {R : Fr} {E : Ev} {k fid : Nat} {ls : List (Nat × List Nat)} {cs : List C}
theorem not_own_ext {F H : Hp} {g : G} {σ : L2.St} (rl : Rel R F g σ H) {b : Addr} {φ : Heap → Prop} (h : H b = some (.ext φ)) : ¬ Own g σ b := fun ⟨i, s, hi, hm, hv⟩ => by
 obtain ⟨v, e, z⟩ := rl.at_ i s hi
 rw [hv] at e
 cases e
 obtain ⟨d, m, n⟩ := s
 cases m with
 | fr => exact hm rfl
 | ow =>
  obtain ⟨q, e, _, _, t⟩ := z
  cases e
  exact t.nx _ h
 | io =>
  obtain ⟨q, e, _, _, t⟩ := z
  cases e
  exact t.nx _ h
theorem lamsAt_step {F H F' H' : Hp} {g g' : G} {σ : L2.St} (rl : Rel R F g σ H) (st : Step g σ F H g' F' H') : ∀ {ls : List (Nat × List Nat)} {fs : List (Addr × Addr)}, LamsAt X H ls fs → LamsAt X H' ls fs
 | [], _, h => by cases h; exact .nil
 | l :: ls, _, h => by
  cases h with
  | cons h1 h2 =>
   obtain ⟨t, a, b, c⟩ := h1
   exact .cons ⟨t, a, st.fr _ _ b lamO_nt (not_own_ext rl b), st.fr _ _ c codeO_nt (not_own_ext rl c)⟩ (lamsAt_step rl st h2)
theorem ev_tail {σ : L2.St} {H F : Hp} {g : G} {p : Addr} {fs : List (Addr × Addr)} {Q : VK} (rl : Rel R F g σ H) (hp : H p = some (.lst (fs.map fun x => V.ref x.1))) (no : ¬ Own g σ p) (hl : LamsAt X H ls fs)
  (q : wp (evEv E fid ls cs g) (fun (b, g') => ∀ F' H', Rel R F' g' σ H' → Step g σ F H g' F' H' → Q (.bl b) H') fun _ => False) :
  TA_ R WF none 1 (evA E none 1 cs) σ H fun ws H3 => EvFin X R E fid (E.np fid) ls σ Q (.ref p :: ws) H3 := by
 unfold evEv at q
 obtain ⟨⟨hio, hnp, hmo⟩, q⟩ := ifNone q
 refine ⟨F, g, rl, ?_⟩
 cases ha : evA E none 1 cs g with
 | none => rw [ha] at q; exact q.elim
 | some o =>
  rw [ha] at q
  cases o with
  | ex x => exact q.elim
  | ok ag =>
   obtain ⟨as, g1⟩ := ag
   have hlen := evA_len ha
   dsimp only at q
   intro ws F3 H3 r3 st3 hA
   cases hd : arsD g1 as with
   | none => rw [hd] at q; exact q.elim
   | some ds =>
    cases hc : closD g1 ls with
    | none => rw [hd, hc] at q; exact q.elim
    | some cl =>
     rw [hd, hc] at q
     dsimp only at q
     split at q
     ·rename_i b n hres
      have h1 := args_of r3 (dvs := []) (more := []) .nil hA (fun k z => by cases z) hd
      rw [List.append_nil, List.append_nil] at h1
      refine ⟨p, ws, F3, g1, fs, cl, ds, b, n, rfl, r3, st3.fr _ _ hp nt_lst no, lamsAt_step rl st3 hl, hc, argAt_pl h1, ?_, hres, fun F' H' r' st' => q F' H' r' (st3.trans st')⟩
      rw [hnp, ← hlen]
      have := (argAt_pl h1).length
      have h2 := ars_len hA
      omega
     ·exact q.elim
variable {x : Str} {c P : Addr} {es : List Expr} {p1 pos lpos : Pos}
theorem pe_evI (hK : X.K = R.K) (gd : X.A.guards = some []) (hr : Room k X.A) (hfn : ∀ x, X.fn x = true) (L : Lv X R.K E k) (hx : E.gl x = some fid) (hio : E.io fid = none) (hmo : (moreOf E fid (cs.length + 1)).isEmpty = true) (hnp : E.np fid = cs.length + 1) (hg : Gl X x) (hd : (x == ("__debug__" : Str)) = false)
  (TB : LamX.TabB X.base X.mg c P) (hcode : X.env.code = .ref c) (hm : (P, X.env.qual ++ "<lambda>") ∈ lamT X.K) (hu : ∀ p ∈ lamT X.K, p.1 = P → p.2 = X.env.qual ++ "<lambda>") {ees : List Expr} (hl : LamEs X ls ees) (hll : ls.length ≤ 100) (hgo : Paired (Good X R WF E) es cs)
  (hst : (backTo pos (starEach es X.env)).any (·.1) = false) :
  PE X (.Call (.Name x p1) (.List ees lpos :: es) [] pos) (RdI R E fid ls cs) := by
 obtain ⟨f, hmg, hk, fd, ps, hps, Fn, hb⟩ := L.gl x fid hx
 obtain ⟨dvl, dvs, b1, b2, b3⟩ := hb (cs.length + 1) (by rw [List.isEmpty_iff.mp hmo, hnp]; rfl)
 rw [List.isEmpty_iff.mp hmo] at b3
 cases b3
 cases b2
 refine ⟨fun pins s σ H Q I ⟨F, g, rl, q⟩ => ?_⟩
 refine wpAny_Call_Name_kw (ld_glob I hg hmg ?_ hd)
 refine PySem.W.callWith_K (first := []) (h₀ := X.base) I.ok.mod.kin hk (thn ((pa_cons (pe_lst (pa_lams TB hcode hm hu hl)) (pa_of (io := none) 1 hgo) rfl).run pos pins s σ H (EvFin X R E fid (E.np fid) ls σ Q) I ?_) fun us s1 ⟨vs, H1, I1, rr, p, ws, F1, g1, fs, cl, ds, b, n, e, r1, h1, h2, h3, h4, h5, h6, h7⟩ => ⟨I1.kIn, ?_⟩) rfl hst
 ·refine ⟨by rw [hK]; exact rl.tb.tab, fun fs H1 e1 e2 e3 e4 => ⟨?_, fun p hp => ?_⟩⟩
  ·rw [List.length_map]
   have : fs.length = ls.length := by
    have := Paired.length e4
    exact this.symm
   rw [this]
   exact Nat.le_trans hll (by decide)
  ·obtain ⟨r1, st1⟩ := rl.lam e1 e2 (by rw [← hK]; exact e3) (Step.refl g σ F H) rl
   have st2 := st1.trans (Step.alloc r1 hp (o := .lst (fs.map fun x => V.ref x.1)))
   refine ev_tail (r1.alloc hp) upd_same (r1.fresh hp).2.2 (lamsAt_mono (.of fun b o z => by rw [upd_ne (ne_of_none z hp)]; exact z) e4) (wp_mono q (fun (b, g') q1 F' H' r' st' => q1 F' H' r' (st2.trans st')) fun _ z => z)
 ·subst e
  rw [List.nil_append]
  rw [hio] at Fn
  exact call_ev hK gd hr hfn Fn b1 I1 r1 h1 h2 h3 rr h4 h5 h6 h7
theorem pe_evV (hK : X.K = R.K) (gd : X.A.guards = some []) (hr : Room k X.A) (hfn : ∀ x, X.fn x = true) (L : Lv X R.K E k) (hx : E.gl x = some fid) (hio : E.io fid = none) (hmo : (moreOf E fid (cs.length + 1)).isEmpty = true) (hnp : E.np fid = cs.length + 1) (hg : Gl X x) (hd : (x == ("__debug__" : Str)) = false)
  {j : Nat} {a : Str} {p2 : Pos} (hj : X.N[j]? = some a) (va : Vis X.env.scope a) (oa : okN a = true) (hgo : Paired (Good X R WF E) es cs) (hst : (backTo pos (starEach es X.env)).any (·.1) = false) :
  PE X (.Call (.Name x p1) (.Name a p2 :: es) [] pos) (RdV X R E fid ls cs j) := by
 obtain ⟨o1, o2, _⟩ := okN_ok oa
 obtain ⟨f, hmg, hk, fd, ps, hps, Fn, hb⟩ := L.gl x fid hx
 obtain ⟨dvl, dvs, b1, b2, b3⟩ := hb (cs.length + 1) (by rw [List.isEmpty_iff.mp hmo, hnp]; rfl)
 rw [List.isEmpty_iff.mp hmo] at b3
 cases b3
 cases b2
 refine ⟨fun pins s σ H Q I ⟨F, g, p, fs, rl, hσ, hp, no, hl, q⟩ => ?_⟩
 refine wpAny_Call_Name_kw (ld_glob I hg hmg ?_ hd)
 refine PySem.W.callWith_K (first := []) (h₀ := X.base) I.ok.mod.kin hk (thn ((pa_cons (pe_var (pos := p2) (i := j) hj va o1 o2) (pa_of (io := none) 1 hgo) rfl).run pos pins s σ H (EvFin X R E fid (E.np fid) ls σ Q) I ⟨_, hσ, ev_tail rl hp no hl q⟩) fun us s1 ⟨vs, H1, I1, rr, p, ws, F1, g1, fs, cl, ds, b, n, e, r1, h1, h2, h3, h4, h5, h6, h7⟩ => ⟨I1.kIn, ?_⟩) rfl hst
 subst e
 rw [List.nil_append]
 rw [hio] at Fn
 exact call_ev hK gd hr hfn Fn b1 I1 r1 h1 h2 h3 rr h4 h5 h6 h7
end
end Y
namespace Y
open PySem PySem.Spec PyProof.Rows L2
theorem evEv_nx {E : Ev} {fid : Nat} {ls : List (Nat × List Nat)} {cs : List C} {g : G} {x : Xc} : evEv E fid ls cs g ≠ some (.ex x) := fun h => by
 unfold evEv at h
 split at h
 ·split at h
  ·split at h
   ·split at h <;> cases h
   ·cases h
  ·cases h
 ·cases h
def evAll (E : Ev) (fid : Nat) : List (List (Nat × List Nat) × List C) → G → M (Bool × G)
 | [], g => some (.ok (true, g))
 | (ls, cs) :: es, g => M.bnd (evEv E fid ls cs g) fun (b, g1) => if b = true then evAll E fid es g1 else some (.ok (false, g1))
def evIfE (E : Ev) (fid : Nat) (es : List (List (Nat × List Nat) × List C)) : G → M (Fl × G) := fun g => M.bnd (evAll E fid es g) fun (b, g1) => some (.ok (if b = true then Fl.nx else .rt ⟨.bl false, .fr, true⟩, g1))
def evRtE (E : Ev) (fid : Nat) (es : List (List (Nat × List Nat) × List C)) : G → M (Fl × G) := fun g => M.bnd (evAll E fid es g) fun (b, g1) => some (.ok (Fl.rt ⟨.bl b, .fr, true⟩, g1))
section
variable {R : Fr} {F H : Hp} {g : G} {σ : L2.St} {j : Nat}
def dropG (g : G) (j : Nat) : G := List.set g j none
theorem get_setn : G.get (dropG g j) j = none := by
 unfold G.get dropG
 rw [List.getElem?_set]
 split
 ·split <;> rfl
 ·rename_i h
  exact absurd rfl h
theorem get_setn_some {i : Nat} {s : Sl} (h : G.get (dropG g j) i = some s) : g.get i = some s ∧ i ≠ j := by
 by_cases e : i = j
 ·subst e
  rw [get_setn] at h
  cases h
 ·refine ⟨?_, e⟩
  unfold G.get dropG at h
  unfold G.get
  rw [List.getElem?_set_ne (Ne.symm e)] at h
  exact h
theorem RelS.dropJ (r : RelS R F g σ H) (io : R.io = []) : RelS R F (dropG g j) σ H := by
 have rl := r.rel
 refine ⟨⟨by unfold dropG; rw [List.length_set]; exact rl.len, fun i s h => rl.at_ i s (get_setn_some h).1, fun i1 i2 s t p h1 h2 => rl.dis i1 i2 s t p (get_setn_some h1).1 (get_setn_some h2).1, rl.ex, rl.keep, rl.there, rl.ios, (fun q hq => by rw [io] at hq; cases hq), rl.f0, rl.fn, rl.tb⟩, r.exF, r.nF⟩
end
def tUse (X : Cx) (R : Fr) (W : XK) (j : Nat) (ls : List (Nat × List Nat)) (ev : G → M (Fl × G)) : TS := fun D σ H => ∃ F g p fs, RelS R F g σ H ∧ g.get j = none ∧ j < σ.length ∧ σ[j]? = some (some (.ref p)) ∧ H p = some (.lst (fs.map fun x => V.ref x.1)) ∧ ¬ Own g σ p ∧ LamsAt X H ls fs ∧ wp (ev g) (FlC R F D) (ExW R W)
def evDrop (j : Nat) (ev : G → M (Fl × G)) : G → M (Fl × G) := fun g => if j < g.length then ev (dropG g j) else none
section
variable {X : Cx} {R : Fr} {W : XK} {E : Ev} {fid j : Nat} {ls ls1 ls2 : List (Nat × List Nat)} {ev ev2 : G → M (Fl × G)} {rest : List Stmt} {a : Str} {ees : List Expr} {c P : Addr} {p1 p2 p3 p4 p5 : Pos}
theorem own_drop {F H : Hp} {g : G} {σ : L2.St} {v : Option V} {b : Addr} (hj : g.get j = none) (h : Own g (σ.set j v) b) : Own g σ b := by
 obtain ⟨i, s, h1, h2, h3⟩ := h
 have ne : i ≠ j := fun e => by rw [e, hj] at h1; cases h1
 rw [List.getElem?_set_ne (Ne.symm ne)] at h3
 exact ⟨i, s, h1, h2, h3⟩
theorem pss_asks (hK : X.K = R.K) (io : R.io = []) (hN : X.N.Nodup) (hj : X.N[j]? = some a) (la : X.env.scope.names.lookup a = some .local) (TB : LamX.TabB X.base X.mg c P) (hcode : X.env.code = .ref c) (hm : (P, X.env.qual ++ "<lambda>") ∈ lamT X.K) (hu : ∀ p ∈ lamT X.K, p.1 = P → p.2 = X.env.qual ++ "<lambda>")
  (hl : LamEs X ls ees) (hll : ls.length ≤ 100) (hr : PSs X rest (tUse X R W j ls ev)) : PSs X (.Assign [.Name a p1] (.List ees p2) p3 :: rest) (TS_ R W (evDrop j ev)) := by
 refine PSs.imp (pss_cons (ps_set (i := j) hN hj (.inl la) (pe_lst (pa_lams TB hcode hm hu hl)) (sw_ok rfl) (.inr la)) hr) fun D σ H ⟨F, g, r, q⟩ => ?_
 unfold evDrop at q
 obtain ⟨hjl, q⟩ := ifNone q
 have r0 := r.dropJ (j := j) io
 refine ⟨by rw [hK]; exact r.rel.tb.tab, fun fs H1 e1 e2 e3 e4 => ⟨?_, fun p hp => ?_⟩⟩
 ·rw [List.length_map, ← e4.length]
  exact Nat.le_trans hll (by decide)
 ·obtain ⟨r1, st1⟩ := r0.rel.lam e1 e2 (by rw [← hK]; exact e3) (Step.refl _ σ F H) r0.rel
  have r2 := (r0.step r1 st1).step (r1.alloc hp) (Step.alloc r1 hp (o := .lst (fs.map fun x => V.ref x.1)))
  have hσ : j < σ.length := by rw [r.rel.len]; exact hjl
  refine ⟨F, dropG g j, p, fs, r2.setσ get_setn, get_setn, by rw [List.length_set]; exact hσ, List.getElem?_set_self hσ, upd_same, fun h => (r1.fresh hp).2.2 (own_drop (F := F) (H := H) get_setn h), lamsAt_mono (.of fun b o z => by rw [upd_ne (ne_of_none z hp)]; exact z) e4, q⟩
theorem pss_asks2 (hK : X.K = R.K) (hN : X.N.Nodup) (hj : X.N[j]? = some a) (la : X.env.scope.names.lookup a = some .local) (oa : okN a = true) (TB : LamX.TabB X.base X.mg c P) (hcode : X.env.code = .ref c) (hm : (P, X.env.qual ++ "<lambda>") ∈ lamT X.K) (hu : ∀ p ∈ lamT X.K, p.1 = P → p.2 = X.env.qual ++ "<lambda>")
  (hl : LamEs X ls2 ees) (hll : ls1.length + ls2.length ≤ 100) (hr : PSs X rest (tUse X R W j (ls1 ++ ls2) ev)) : PSs X (.Assign [.Name a p1] (.BinOp (.Name a p2) .Add (.List ees p3) p4) p5 :: rest) (tUse X R W j ls1 ev) := by
 obtain ⟨o1, o2, _⟩ := okN_ok oa
 refine PSs.imp (pss_cons (ps_set (i := j) hN hj (.inl la) (pe_op op_cat (pe_var (pos := p2) (i := j) hj (.inl la) o1 o2) (pe_lst (pa_lams TB hcode hm hu hl))) (sw_ok rfl) (.inr la)) hr) fun D σ H ⟨F, g, p, fs, r, hg, hσ, hs, hp, no, hl1, q⟩ => ?_
 refine ⟨_, hs, by rw [hK]; exact r.rel.tb.tab, fun fs2 H1 e1 e2 e3 e4 => ⟨?_, fun p2 hp2 => ?_⟩⟩
 ·rw [List.length_map, ← e4.length]
  exact Nat.le_trans (show ls2.length ≤ 100 by omega) (by decide)
 ·obtain ⟨r1, st1⟩ := r.rel.lam e1 e2 (by rw [← hK]; exact e3) (Step.refl _ σ F H) r.rel
  have r2 := (r.step r1 st1).step (r1.alloc hp2) (Step.alloc r1 hp2 (o := .lst (fs2.map fun x => V.ref x.1)))
  have hpp : H1 p = some (.lst (fs.map fun x => V.ref x.1)) := e1 _ _ hp nt_lst
  have ne : p ≠ p2 := ne_of_none hpp hp2
  refine ⟨p, p2, _, _, rfl, rfl, by rw [upd_ne ne]; exact hpp, upd_same, ?_, fun p3 hp3 => ?_⟩
  ·rw [List.length_map, List.length_map, ← e4.length, ← hl1.length]
   exact Nat.le_trans hll (by decide)
  ·have r3 := r2.step (r2.rel.alloc hp3) (Step.alloc r2.rel hp3 (o := .lst ((fs.map fun x => V.ref x.1) ++ fs2.map fun x => V.ref x.1)))
   have up : ∀ b o, H1 b = some o → upd (upd H1 p2 (.lst (fs2.map fun x => V.ref x.1))) p3 (.lst ((fs.map fun x => V.ref x.1) ++ fs2.map fun x => V.ref x.1)) b = some o := fun b o z => by
    have z2 : upd H1 p2 (.lst (fs2.map fun x => V.ref x.1)) b = some o := by rw [upd_ne (ne_of_none z hp2)]; exact z
    rw [upd_ne (ne_of_none z2 hp3)]
    exact z2
   have app : ∀ {l1 l2 : List (Nat × List Nat)} {f1 f2 : List (Addr × Addr)} {G : Hp}, LamsAt X G l1 f1 → LamsAt X G l2 f2 → LamsAt X G (l1 ++ l2) (f1 ++ f2) := by
    intro l1
    induction l1 with
    | nil => intro l2 f1 f2 G h1 h2; cases h1; exact h2
    | cons x l1 ih => intro l2 f1 f2 G h1 h2; cases h1 with | cons a b => exact .cons a (ih b h2)
   refine ⟨F, g, p3, fs ++ fs2, r3.setσ hg, hg, by rw [List.length_set]; exact hσ, List.getElem?_set_self hσ, by rw [upd_same, List.map_append], fun h => (r2.rel.fresh hp3).2.2 (own_drop (F := F) (H := H) hg h), app (lamsAt_mono (e1.trans (.of up)) hl1) (lamsAt_mono (.of up) e4), q⟩
end
end Y
namespace Y
open PySem PySem.Spec PyProof.Rows L2
section
variable {X : Cx} {R : Fr} {W : XK} {E : Ev} {fid : Nat} {ls ls2 : List (Nat × List Nat)} {cs cs2 : List C} {ev2 : G → M (Fl × G)} {rest : List Stmt} {e1 e2 : Expr} {FR : TE} {St : L2.St → Hp → Hp → G → Prop} {p1 p2 p3 p4 p5 p6 : Pos} {j1 : Nat}
structure Fst (R : Fr) (E : Ev) (fid : Nat) (ls : List (Nat × List Nat)) (cs : List C) (FR : TE) (St : L2.St → Hp → Hp → G → Prop) : Prop where
 rel : ∀ σ H F g, St σ H F g → RelS R F g σ H
 to : ∀ σ H F g Q, St σ H F g → wp (evEv E fid ls cs g) (fun (b, g') => ∀ F' H', Rel R F' g' σ H' → Step g σ F H g' F' H' → Q (.bl b) H') (fun _ => False) → FR σ H Q
theorem fst_I : Fst R E fid ls cs (RdI R E fid ls cs) (fun σ H F g => RelS R F g σ H) := ⟨fun _ _ _ _ h => h, fun σ H F g Q h q => ⟨F, g, h.rel, q⟩⟩
theorem fst_V {j : Nat} : Fst R E fid ls cs (RdV X R E fid ls cs j) (fun σ H F g => ∃ p fs, RelS R F g σ H ∧ g.get j = none ∧ j < σ.length ∧ σ[j]? = some (some (.ref p)) ∧ H p = some (.lst (fs.map fun x => V.ref x.1)) ∧ ¬ Own g σ p ∧ LamsAt X H ls fs) :=
 ⟨fun _ _ _ _ ⟨_, _, h, _⟩ => h, fun σ H F g Q ⟨p, fs, h, _, _, h3, h4, h5, h6⟩ q => ⟨F, g, p, fs, h.rel, h3, h4, h5, h6, q⟩⟩
theorem use_if1 (f : Fst R E fid ls cs FR St) (he : PE X e1 FR) (hv : ∀ whole, isTrue e1 X.env whole = (do let v ← whole; standAt e1.pos; holding [v] (truthy v))) (hr : PSs X rest (TS_ R W ev2)) :
  PSs X (.If (.UnaryOp .Not e1 p1) [.Return (some (.Constant (.bool false) j1 p2)) p3] [] p4 :: rest) (fun D σ H => ∃ F g, St σ H F g ∧ wp (seqM (evIfE E fid [(ls, cs)]) ev2 g) (FlC R F D) (ExW R W)) := by
 refine PSs.imp (pss_cons (ps_if (pt_not (pt_val he hv)) (pss_one (ps_ret (pe_bl (b := false) (j := j1) (pos := p2)))) pss_nil) hr) fun D σ H ⟨F, g, st, q⟩ => ?_
 have r := f.rel _ _ _ _ st
 refine f.to _ _ _ _ _ st ?_
 unfold seqM evIfE at q
 unfold evAll at q
 cases e : evEv E fid ls cs g with
 | none => rw [e] at q; exact q.elim
 | some o =>
  rw [e] at q
  cases o with
  | ex x => exact absurd e evEv_nx
  | ok bg =>
   obtain ⟨b, g'⟩ := bg
   intro F' H' r' st'
   refine ⟨b, rfl, ?_⟩
   cases b with
   | false =>
    have q : FlC R F D (.rt ⟨.bl false, .fr, true⟩, g') := q
    exact q (.bl false) σ F' H' st'.exF (r.step r' st') (.bl false)
   | true =>
    have q : wp (ev2 g') (FlC R F D) (ExW R W) := q
    exact ⟨F', g', r.step r' st', wp_mono q (fun a z => z.on st'.exF) fun _ z => z⟩
theorem use_if2 (f : Fst R E fid ls cs FR St) (he : PE X e1 FR) (hv : ∀ whole, isTrue e1 X.env whole = (do let v ← whole; standAt e1.pos; holding [v] (truthy v))) (he2 : PE X e2 (RdI R E fid ls2 cs2)) (hv2 : ∀ whole, isTrue e2 X.env whole = (do let v ← whole; standAt e2.pos; holding [v] (truthy v))) (hr : PSs X rest (TS_ R W ev2)) :
  PSs X (.If (.BoolOp .Or [.UnaryOp .Not e1 p1, .UnaryOp .Not e2 p2] p3) [.Return (some (.Constant (.bool false) j1 p4)) p5] [] p6 :: rest) (fun D σ H => ∃ F g, St σ H F g ∧ wp (seqM (evIfE E fid [(ls, cs), (ls2, cs2)]) ev2 g) (FlC R F D) (ExW R W)) := by
 refine PSs.imp (pss_cons (ps_if (pw_or (pt_not (pt_val he hv)) (pw_or1 (pt_not (pt_val he2 hv2)))).pt (pss_one (ps_ret (pe_bl (b := false) (j := j1) (pos := p4)))) pss_nil) hr) fun D σ H ⟨F, g, st, q⟩ => ?_
 have r := f.rel _ _ _ _ st
 refine f.to _ _ _ _ _ st ?_
 unfold seqM evIfE at q
 unfold evAll at q
 cases e : evEv E fid ls cs g with
 | none => rw [e] at q; exact q.elim
 | some o =>
  rw [e] at q
  cases o with
  | ex x => exact absurd e evEv_nx
  | ok bg =>
   obtain ⟨b, g'⟩ := bg
   intro F' H' r' st'
   refine ⟨b, rfl, ?_⟩
   cases b with
   | false =>
    have q : FlC R F D (.rt ⟨.bl false, .fr, true⟩, g') := q
    exact q (.bl false) σ F' H' st'.exF (r.step r' st') (.bl false)
   | true =>
    dsimp only [M.bnd] at q
    rw [if_pos rfl] at q
    unfold evAll at q
    refine ⟨F', g', r', ?_⟩
    cases e' : evEv E fid ls2 cs2 g' with
    | none => rw [e'] at q; exact q.elim
    | some o =>
     rw [e'] at q
     cases o with
     | ex x => exact absurd e' evEv_nx
     | ok bg =>
      obtain ⟨b2, g2⟩ := bg
      intro F2 H2 r2 st2
      refine ⟨b2, rfl, ?_⟩
      have R2 := (r.step r' st').step r2 st2
      cases b2 with
      | false =>
       have q : FlC R F D (.rt ⟨.bl false, .fr, true⟩, g2) := q
       exact q (.bl false) σ F2 H2 (st'.exF.trans st2.exF) R2 (.bl false)
      | true =>
       have q : wp (ev2 g2) (FlC R F D) (ExW R W) := q
       exact ⟨F2, g2, R2, wp_mono q (fun a z => z.on (st'.exF.trans st2.exF)) fun _ z => z⟩
theorem use_rt1 (f : Fst R E fid ls cs FR St) (he : PE X e1 FR) : PSs X [.Return (some e1) p1] (fun D σ H => ∃ F g, St σ H F g ∧ wp (evRtE E fid [(ls, cs)] g) (FlC R F D) (ExW R W)) := by
 refine PSs.imp (pss_one (ps_ret he)) fun D σ H ⟨F, g, st, q⟩ => ?_
 have r := f.rel _ _ _ _ st
 refine f.to _ _ _ _ _ st ?_
 unfold evRtE at q
 unfold evAll at q
 cases e : evEv E fid ls cs g with
 | none => rw [e] at q; exact q.elim
 | some o =>
  rw [e] at q
  cases o with
  | ex x => exact absurd e evEv_nx
  | ok bg =>
   obtain ⟨b, g'⟩ := bg
   intro F' H' r' st'
   cases b with
   | false =>
    have q : FlC R F D (.rt ⟨.bl false, .fr, true⟩, g') := q
    exact q (.bl false) σ F' H' st'.exF (r.step r' st') (.bl false)
   | true =>
    have q : FlC R F D (.rt ⟨.bl true, .fr, true⟩, g') := q
    exact q (.bl true) σ F' H' st'.exF (r.step r' st') (.bl true)
theorem use_rt2 (f : Fst R E fid ls cs FR St) (he : PE X e1 FR) (he2 : PE X e2 (RdI R E fid ls2 cs2)) : PSs X [.Return (some (.BoolOp .And [e1, e2] p2)) p1] (fun D σ H => ∃ F g, St σ H F g ∧ wp (evRtE E fid [(ls, cs), (ls2, cs2)] g) (FlC R F D) (ExW R W)) := by
 refine PSs.imp (pss_one (ps_ret (pe_and he (pe_one he2)))) fun D σ H ⟨F, g, st, q⟩ => ?_
 have r := f.rel _ _ _ _ st
 refine f.to _ _ _ _ _ st ?_
 unfold evRtE at q
 unfold evAll at q
 cases e : evEv E fid ls cs g with
 | none => rw [e] at q; exact q.elim
 | some o =>
  rw [e] at q
  cases o with
  | ex x => exact absurd e evEv_nx
  | ok bg =>
   obtain ⟨b, g'⟩ := bg
   intro F' H' r' st'
   refine ⟨b, rfl, ?_⟩
   cases b with
   | false =>
    have q : FlC R F D (.rt ⟨.bl false, .fr, true⟩, g') := q
    exact q (.bl false) σ F' H' st'.exF (r.step r' st') (.bl false)
   | true =>
    dsimp only [M.bnd] at q
    rw [if_pos rfl] at q
    unfold evAll at q
    refine ⟨F', g', r', ?_⟩
    cases e' : evEv E fid ls2 cs2 g' with
    | none => rw [e'] at q; exact q.elim
    | some o =>
     rw [e'] at q
     cases o with
     | ex x => exact absurd e' evEv_nx
     | ok bg =>
      obtain ⟨b2, g2⟩ := bg
      intro F2 H2 r2 st2
      have R2 := (r.step r' st').step r2 st2
      cases b2 with
      | false =>
       have q : FlC R F D (.rt ⟨.bl false, .fr, true⟩, g2) := q
       exact q (.bl false) σ F2 H2 (st'.exF.trans st2.exF) R2 (.bl false)
      | true =>
       have q : FlC R F D (.rt ⟨.bl true, .fr, true⟩, g2) := q
       exact q (.bl true) σ F2 H2 (st'.exF.trans st2.exF) R2 (.bl true)
end
end Y
set_option pp.maxSteps 600
namespace Y
open PySem PySem.Spec PyProof.Rows L2
def forH (E : Ev) (tg : Tg) (k : ItK) (its : List C) (evB : G → M (Fl × G)) : G → M (Fl × G) := fun g => M.nox (M.bnd (evV E its g) fun (ss, g1) => match itemsK k ss with
  | some (items, n) => forL (fun d g2 => match bindT g2 tg d n with
   | some g3 => evB g3
   | none => none) items g1
  | none => none)
section
variable {X : Cx} {R : Fr} {W : XK} {E : Ev} {pos : Pos}
theorem ps_forH {tg iter : Expr} {stm : List Stmt} {kd : ItK} {its : List C} {tgc : Tg} {evB : G → M (Fl × G)} (hK : X.K = R.K) (hc : X.calm = true) (hi : PI X.nox tg iter (TI_ R WF E kd its)) (hg : PG X.nox tg (gT X.K tgc)) (hb : PSs X.nox stm (TS_ R WF evB))
  (hs : ∀ x, foldedSetIterable iter X.env x = pure x) : PS X (.For tg iter stm [] pos) (TS_ R W (forH E tgc kd its evB)) := by
 refine PS.imp (PS.nox (ps_for PassesOwn.never hc hi hg hb hs)) fun D σ H ⟨F, g, r, q⟩ => ?_
 have q0 := wp_nox q
 refine ⟨F, g, r.rel, wp_mono (wp_bnd q0) (fun (ss, g1) q1 => ?_) fun _ z => z.elim⟩
 dsimp only at q1 ⊢
 cases hit : itemsK kd ss with
 | none => rw [hit] at q1; exact q1.elim
 | some p =>
  obtain ⟨items, n⟩ := p
  rw [hit] at q1
  dsimp only at q1 ⊢
  intro J F1 H1 r1 st1 iok
  obtain ⟨Gd, w, hGd⟩ := iok.w
  have R1 := r.step r1 st1
  refine for_it w (fun i σ H => ∃ F2 g, RelS R F2 g σ H ∧ Same F1 F2 ∧ wp (forL (fun d g2 => match bindT g2 tgc d n with
   | some g3 => evB g3
   | none => none) (items.drop i) g) (FlC R F D) (fun _ => False)) ?_ ?_ ?_ ?_
  ·exact ⟨F1, g1, R1, Same.refl _, q1⟩
  ·rintro i σ2 H2 _ ⟨F2, g2, r2, e2, _⟩
   exact hGd H2 (e2.trans r2.rel.ex)
  ·rintro i x σ2 H2 H' hi ⟨F2, g2, r2, e2, q2⟩ y
   obtain ⟨d, F3, hd, r3, st3, hx⟩ := y.go r2.rel e2
   have hdrop : items.drop i = d :: items.drop (i + 1) := by
    obtain ⟨hl, e⟩ := List.getElem?_eq_some_iff.mp hd
    rw [List.drop_eq_getElem_cons hl, e]
   rw [hdrop] at q2
   have q3 := wp_bnd q2
   dsimp only at q3
   cases hb : bindT g2 tgc d n with
   | none => rw [hb] at q3; exact q3.elim
   | some g3 =>
    rw [hb] at q3
    have R3 := r2.step r3 st3
    show gT X.K tgc x σ2 H' _
    rw [hK]
    refine bind_tg r3 hx hb fun σ3 r4 _ _ => ⟨F3, g3, ⟨r4, R3.exF, R3.nF⟩, wp_mono q3 (fun (fl, g4) q4 => ?_) fun _ z => z.elim⟩
    have e3 : Same F1 F3 := e2.trans st3.exF
    cases fl with
    | nx => exact fun σ' F' H' e r' => ⟨F', g4, r', e3.trans e, q4⟩
    | ct => exact fun σ' F' H' e r' => ⟨F', g4, r', e3.trans e, q4⟩
    | bk => exact fun σ' F' H' e r' => q4 σ' F' H' ((st1.exF.trans e3).trans e) r'
    | rt s => exact fun v σ' F' H' e r' h => q4 v σ' F' H' ((st1.exF.trans e3).trans e) r' h
  ·rintro σ2 H2 ⟨F2, g2, r2, e2, q2⟩
   rw [List.drop_length] at q2
   exact q2 σ2 F2 H2 (st1.exF.trans e2) r2
end
end Y
namespace Y
open PySem PySem.Spec PyProof.Rows L2
abbrev EvA := List (Nat × List Nat) × List C
abbrev LmL := List (Nat × List Nat)
inductive SE where
 | s (s : S)
 | fr (tg : Tg) (k : ItK) (its : List C) (body : List SE)
 | ifE (es : List EvA)
 | rtE (es : List EvA)
 | ifV (j : Nat) (ls1 : LmL) (ls2 : Option LmL) (cs : List C) (es : List EvA)
 | rtV (j : Nat) (ls1 : LmL) (ls2 : Option LmL) (cs : List C) (es : List EvA)
 /-- the slots are given up -/
 | fz (js : List Nat)
def frzG (g : G) : List Nat → G
 | [] => g
 | j :: js => frzG (match g.get j with
  | some ⟨d, .ow, n⟩ => g.put j ⟨d, .fr, n⟩
  | _ => g) js
theorem RelS.frz {R : Fr} {H : Hp} {σ : L2.St} : ∀ (js : List Nat) {F : Hp} {g : G}, RelS R F g σ H → ∃ F', RelS R F' (frzG g js) σ H ∧ Same F F'
 | [], F, g, r => ⟨F, r, fun _ _ z => z⟩
 | j :: js, F, g, r => by
  unfold frzG
  split
  ·rename_i d n e
   obtain ⟨v, h1, _⟩ := r.rel.at_ j _ e
   obtain ⟨F1, r1, st, _⟩ := r.rel.give e h1
   obtain ⟨F2, r2, e2⟩ := RelS.frz js (r.step r1 st)
   exact ⟨F2, r2, st.exF.trans e2⟩
  ·exact RelS.frz js r
theorem FlC.mono {R : Fr} {F F1 : Hp} {D : Ends} (e : Same F F1) : ∀ {x : Fl × G}, FlC R F D x → FlC R F1 D x
 | (.nx, _), h => fun σ' F' H' z r => h σ' F' H' (e.trans z) r
 | (.bk, _), h => fun σ' F' H' z r => h σ' F' H' (e.trans z) r
 | (.ct, _), h => fun σ' F' H' z r => h σ' F' H' (e.trans z) r
 | (.rt s, _), h => fun v σ' F' H' z r => h v σ' F' H' (e.trans z) r
def both (ls1 : LmL) : Option LmL → LmL
 | none => ls1
 | some ls2 => ls1 ++ ls2
mutual
def evSE (E : Ev) (fid : Nat) : SE → (G → M (Fl × G)) → G → M (Fl × G)
 | .s s, r => seqM (evS E s) r
 | .fr tg k its body, r => seqM (forH E tg k its (evSEs E fid body)) r
 | .ifE es, r => seqM (evIfE E fid es) r
 | .rtE es, _ => evRtE E fid es
 | .ifV j ls1 ls2 cs es, r => evDrop j (seqM (evIfE E fid ((both ls1 ls2, cs) :: es)) r)
 | .rtV j ls1 ls2 cs es, _ => evDrop j (evRtE E fid ((both ls1 ls2, cs) :: es))
 | .fz js, r => fun g => r (frzG g js)
def evSEs (E : Ev) (fid : Nat) : List SE → G → M (Fl × G)
 | [] => fun g => some (.ok (.nx, g))
 | h :: hs => evSE E fid h (evSEs E fid hs)
end
def lam3 : Expr → Option (Arguments × Expr × Scope)
 | .Lambda p b s _ => some (p, b, s)
 | _ => none
def lamT3 (p : Nat × List Nat) : Option (Arguments × Expr × Scope) := lamTab[p.1]?.map fun t => (t.params, t.body, t.scope)
def LamEq (ees : List Expr) (ls : List (Nat × List Nat)) : Prop := ees.map lam3 = ls.map lamT3
def lamXB (q : Q) (sc : Scope) (qual : Str) (p : Nat × List Nat) : Bool := match lamTab[p.1]? with
 | some t => decide (t.qual = qual) && t.scope.names.all (fun y => !decide (y.2 = .free) || ((match sc.names.lookup y.1 with | some .cell => true | _ => false) && decide (y.1 ∈ t.fr))) && t.fr.all (fun y => decide ((y, NameKind.free) ∈ t.scope.names)) && decide (p.2.map (fun j => q.N[j]?) = t.fr.map some)
 | none => false
def evC (q : Q) (n : Nat) (sc : Scope) (x qual : Str) (e : Expr) (a : EvA) : Bool := match e with
 | .Call (.Name f _) (.List ees _ :: es) [] _ => decide (f = x) && decide (ees.length = a.1.length) && a.1.all (lamXB q sc qual) && decide (a.1.length ≤ 100) && all2 (chk q n sc) es a.2 && es.all (fun e => !isStar e)
 | _ => false
def evCV (q : Q) (n : Nat) (sc : Scope) (x v : Str) (e : Expr) (cs : List C) : Bool := match e with
 | .Call (.Name f _) (.Name v' _ :: es) [] _ => decide (f = x) && decide (v' = v) && all2 (chk q n sc) es cs && es.all (fun e => !isStar e)
 | _ => false
def lamsE (e : Expr) : List Expr := match e with
 | .Call _ (.List ees _ :: _) _ _ => ees
 | _ => []
structure LamCtx (X : Cx) (qual : Str) : Prop where
 ex : ∃ c P, LamX.TabB X.base X.mg c P ∧ X.env.code = .ref c ∧ (P, X.env.qual ++ "<lambda>") ∈ lamT X.K ∧ ∀ p ∈ lamT X.K, p.1 = P → p.2 = X.env.qual ++ "<lambda>"
 qual : qual = X.env.qual ++ "<lambda>"
 dfl : ∀ t ∈ lamTab, defaultsOf t.params X.env = ([], [])
structure EvF (q : Q) (sc : Scope) (x : Str) (fid m : Nat) : Prop where
 gl : q.E.gl x = some fid
 io : q.E.io fid = none
 mo : (moreOf q.E fid (m + 1)).isEmpty = true
 np : q.E.np fid = m + 1
 g : glB sc x = true
 o : okN x = true
section
variable {q : Q} {k n fid m : Nat} {X : Cx} {R : Fr} {W : XK} {sc : Scope} {x qual : Str}
theorem Bg.wf (b : Bg q k X R W sc (fun _ => true)) : Bg q k X R WF sc (fun _ => true) where
 hK := b.hK
 hN := b.hN
 nd := b.nd
 calm := b.calm
 gd := b.gd
 room := b.room
 tk := RX.of_l2 RX.l2_none
 L := b.L
 att := b.att
 isi := b.isi
 con := b.con
 kd := b.kd
 blt := b.blt
 cl := b.cl
 exc := b.exc
 hsc := b.hsc
 kind := b.kind
 fn := b.fn
 top := b.top
theorem lamEs_of (b : Bg q k X R W sc (fun _ => true)) (Lm : LamCtx X qual) : ∀ {ees : List Expr} {ls : List (Nat × List Nat)}, LamEq ees ls → ls.all (lamXB q sc qual) = true → LamEs X ls ees
 | [], [], _, _ => .nil
 | [], _ :: _, h, _ => by cases h
 | _ :: _, [], h, _ => by cases h
 | e :: ees, p :: ls, h, hb => by
  unfold LamEq at h
  rw [List.map_cons, List.map_cons] at h
  injection h with h1 h2
  rw [List.all_cons, Bool.and_eq_true] at hb
  refine .cons ?_ (lamEs_of b Lm h2 hb.2)
  have h3 := hb.1
  unfold lamXB at h3
  unfold lamT3 at h1
  cases ht : lamTab[p.1]? with
  | none => rw [ht] at h3; cases h3
  | some t =>
   rw [ht] at h3 h1
   simp only [Bool.and_eq_true, decide_eq_true_eq, List.all_eq_true] at h3
   obtain ⟨⟨⟨c1, c2⟩, c3⟩, c4⟩ := h3
   unfold lam3 at h1
   split at h1
   ·rename_i pp bb ss pos
    injection h1 with h1
    injection h1 with i1 i2
    injection i2 with i2 i3
    subst i1 i2 i3
    have c2' : ∀ y ∈ t.scope.names, y.2 = .free → X.env.scope.names.lookup y.1 = some .cell ∧ y.1 ∈ t.fr := fun y hy e => by
     have z := c2 y hy
     rw [e] at z
     simp only [decide_true, Bool.not_true, Bool.false_or, Bool.and_eq_true, decide_eq_true_eq] at z
     refine ⟨?_, z.2⟩
     rw [b.hsc]
     have z1 := z.1
     split at z1
     ·assumption
     ·cases z1
    exact ⟨t, pos, ⟨ht, c1.trans Lm.qual, Lm.dfl t (List.mem_of_getElem? ht), fun y hy e => .inl (c2' y hy e).1, c3, fun y hy e => (c2' y hy e).2, by rw [b.hN]; exact c4⟩, rfl⟩
   ·cases h1
theorem evC_ok (b : Bg q k X R W sc (fun _ => true)) (Lm : LamCtx X qual) {e : Expr} {a : EvA} (F : EvF q sc x fid a.2.length) (h : evC q n sc x qual e a = true) (hl : LamEq (lamsE e) a.1) :
  PE X e (RdI R q.E fid a.1 a.2) ∧ ∀ whole, isTrue e X.env whole = (do let v ← whole; standAt e.pos; holding [v] (truthy v)) := by
 obtain ⟨ls, cs⟩ := a
 unfold evC at h
 split at h
 ·rename_i f p ees lp es pos
  simp only [Bool.and_eq_true, decide_eq_true_eq] at h
  obtain ⟨⟨⟨⟨⟨rfl, _⟩, h2⟩, h3⟩, h4⟩, h5⟩ := h
  obtain ⟨c, P, t1, t2, t3, t4⟩ := Lm.ex
  obtain ⟨o1, _, _⟩ := okN_ok F.o
  exact ⟨pe_evI b.hK b.gd b.room (fun y => b.fn y rfl) b.L F.gl F.io F.mo F.np (b.gl F.g) o1 t1 t2 t3 t4 (lamEs_of b Lm hl h2) h3 (goods (fun e c z => chk_ok q k n e c b.wf z) h4) (any_ok h5), fun _ => rfl⟩
 ·cases h
end
end Y
namespace Y
open PySem PySem.Spec PyProof.Rows L2
section
variable {q : Q} {k n fid m j : Nat} {X : Cx} {R : Fr} {W : XK} {sc : Scope} {x qual v : Str}
theorem evC_len {e : Expr} {a : EvA} (h : evC q n sc x qual e a = true) : (lamsE e).length = a.1.length := by
 obtain ⟨ls, cs⟩ := a
 unfold evC at h
 split at h
 ·simp only [Bool.and_eq_true, decide_eq_true_eq] at h
  exact h.1.1.1.1.2
 ·cases h
theorem evCV_ok (b : Bg q k X R W sc (fun _ => true)) {e : Expr} {ls : List (Nat × List Nat)} {cs : List C} (F : EvF q sc x fid cs.length) (hj : q.N[j]? = some v) (lv : isLoc sc v = true) (ov : okN v = true) (h : evCV q n sc x v e cs = true) :
  PE X e (RdV X R q.E fid ls cs j) ∧ ∀ whole, isTrue e X.env whole = (do let v ← whole; standAt e.pos; holding [v] (truthy v)) := by
 unfold evCV at h
 split at h
 ·simp only [Bool.and_eq_true, decide_eq_true_eq] at h
  obtain ⟨⟨⟨rfl, rfl⟩, h4⟩, h5⟩ := h
  obtain ⟨o1, _, _⟩ := okN_ok F.o
  exact ⟨pe_evV b.hK b.gd b.room (fun y => b.fn y rfl) b.L F.gl F.io F.mo F.np (b.gl F.g) o1 (by rw [b.hN]; exact hj) (.inl (by rw [b.hsc]; exact isLoc_ok lv)) ov (goods (fun e c z => chk_ok q k n e c b.wf z) h4) (any_ok h5), fun _ => rfl⟩
 ·cases h
end
def fstB (q : Q) (n : Nat) (sc : Scope) (x qual : Str) (v : Option Str) (e : Expr) (a : EvA) : Bool := match v with
 | none => evC q n sc x qual e a
 | some y => evCV q n sc x y e a.2
def fstL (v : Option Str) (e : Expr) : List Expr := match v with
 | none => lamsE e
 | some _ => []
def tstB (q : Q) (n : Nat) (sc : Scope) (x qual : Str) (v : Option Str) (es : List EvA) (st : Stmt) : Bool := match es with
 | [a] => (match st with | .If (.UnaryOp .Not e1 _) [.Return (some (.Constant (.bool false) _ _)) _] [] _ => fstB q n sc x qual v e1 a | _ => false)
 | [a, a2] => (match st with | .If (.BoolOp .Or [.UnaryOp .Not e1 _, .UnaryOp .Not e2 _] _) [.Return (some (.Constant (.bool false) _ _)) _] [] _ => fstB q n sc x qual v e1 a && evC q n sc x qual e2 a2 | _ => false)
 | _ => false
def tstL (v : Option Str) (es : List EvA) (st : Stmt) : List Expr := match es with
 | [_] => (match st with | .If (.UnaryOp .Not e1 _) _ _ _ => fstL v e1 | _ => [])
 | [_, _] => (match st with | .If (.BoolOp .Or [.UnaryOp .Not e1 _, .UnaryOp .Not e2 _] _) _ _ _ => fstL v e1 ++ lamsE e2 | _ => [])
 | _ => []
def rtnB (q : Q) (n : Nat) (sc : Scope) (x qual : Str) (v : Option Str) (es : List EvA) (st : Stmt) : Bool := match es with
 | [a] => (match st with | .Return (some e1) _ => fstB q n sc x qual v e1 a | _ => false)
 | [a, a2] => (match st with | .Return (some (.BoolOp .And [e1, e2] _)) _ => fstB q n sc x qual v e1 a && evC q n sc x qual e2 a2 | _ => false)
 | _ => false
def rtnL (v : Option Str) (es : List EvA) (st : Stmt) : List Expr := match es with
 | [_] => (match st with | .Return (some e1) _ => fstL v e1 | _ => [])
 | [_, _] => (match st with | .Return (some (.BoolOp .And [e1, e2] _)) _ => fstL v e1 ++ lamsE e2 | _ => [])
 | _ => []
def useI (v : Bool) : List EvA → List (Nat × List Nat)
 | [] => []
 | a :: es => (if v = true then [] else a.1) ++ (es.map (·.1)).flatten
section
variable {q : Q} {k n fid m j : Nat} {X : Cx} {R : Fr} {W : XK} {sc : Scope} {x qual y : Str} {ev2 : G → M (Fl × G)} {rest : List Stmt}
theorem lamEq_app {e1 e2 : List Expr} {l1 l2 : List (Nat × List Nat)} (hl : e1.length = l1.length) (h : LamEq (e1 ++ e2) (l1 ++ l2)) : LamEq e1 l1 ∧ LamEq e2 l2 := by
 unfold LamEq at *
 rw [List.map_append, List.map_append] at h
 exact List.append_inj h (by rw [List.length_map, List.length_map]; exact hl)
theorem tst_I (b : Bg q k X R W sc (fun _ => true)) (Lm : LamCtx X qual) (F : EvF q sc x fid m) {es : List EvA} (hm : es.all (fun a => decide (a.2.length = m)) = true) {st : Stmt} (h : tstB q n sc x qual none es st = true) (hl : LamEq (tstL none es st) (useI false es)) (hr : PSs X rest (TS_ R W ev2)) :
  PSs X (st :: rest) (TS_ R W (seqM (evIfE q.E fid es) ev2)) := by
 unfold tstB at h
 split at h
 ·rename_i a
  split at h
  ·have e : a.2.length = m := by simpa using hm
   obtain ⟨h1, h2⟩ := evC_ok b Lm (a := a) (by rw [e]; exact F) h (by simpa [tstL, fstL, useI] using hl)
   exact PSs.imp (use_if1 fst_I h1 h2 hr) fun D σ H h => h
  ·cases h
 ·rename_i a a2
  split at h
  ·rename_i e1 p1 e2 p2 p3 j1 p4 p5 p6
   rw [Bool.and_eq_true] at h
   have e : a.2.length = m ∧ a2.2.length = m := by simpa using hm
   have hl : LamEq (lamsE e1 ++ lamsE e2) (a.1 ++ a2.1) := by simpa [tstL, fstL, useI] using hl
   obtain ⟨l1, l2⟩ := lamEq_app (evC_len h.1) hl
   obtain ⟨h1, h2⟩ := evC_ok b Lm (a := a) (by rw [e.1]; exact F) h.1 l1
   obtain ⟨h3, h4⟩ := evC_ok b Lm (a := a2) (by rw [e.2]; exact F) h.2 l2
   exact PSs.imp (use_if2 fst_I h1 h2 h3 h4 hr) fun D σ H h => h
  ·cases h
 ·cases h
theorem tst_V (b : Bg q k X R W sc (fun _ => true)) (Lm : LamCtx X qual) (F : EvF q sc x fid m) (hj : q.N[j]? = some y) (lv : isLoc sc y = true) (ov : okN y = true) {a : EvA} {es : List EvA} (hm : (a :: es).all (fun a => decide (a.2.length = m)) = true) {st : Stmt} (h : tstB q n sc x qual (some y) (a :: es) st = true) (hl : LamEq (tstL (some y) (a :: es) st) (useI true (a :: es))) (hr : PSs X rest (TS_ R W ev2)) :
  PSs X (st :: rest) (tUse X R W j a.1 (seqM (evIfE q.E fid (a :: es)) ev2)) := by
 unfold tstB at h
 split at h
 ·rename_i a' e0
  injection e0 with e0 e0'
  subst e0 e0'
  split at h
  ·have e : a.2.length = m := by simpa using hm
   obtain ⟨h1, h2⟩ := evCV_ok (j := j) (ls := a.1) b (by rw [e]; exact F) hj lv ov h
   exact PSs.imp (use_if1 fst_V h1 h2 hr) fun D σ H ⟨F', g, p, fs, c1, c2, c3, c4, c5, c6, c7, c8⟩ => ⟨F', g, ⟨p, fs, c1, c2, c3, c4, c5, c6, c7⟩, c8⟩
  ·cases h
 ·rename_i a' a2 e0
  injection e0 with e0 e0'
  subst e0 e0'
  split at h
  ·rename_i e1 p1 e2 p2 p3 j1 p4 p5 p6
   rw [Bool.and_eq_true] at h
   have e : a.2.length = m ∧ a2.2.length = m := by simpa using hm
   have hl : LamEq (lamsE e2) a2.1 := by simpa [tstL, fstL, useI] using hl
   obtain ⟨h1, h2⟩ := evCV_ok (j := j) (ls := a.1) b (by rw [e.1]; exact F) hj lv ov h.1
   obtain ⟨h3, h4⟩ := evC_ok b Lm (a := a2) (by rw [e.2]; exact F) h.2 hl
   exact PSs.imp (use_if2 fst_V h1 h2 h3 h4 hr) fun D σ H ⟨F', g, p, fs, c1, c2, c3, c4, c5, c6, c7, c8⟩ => ⟨F', g, ⟨p, fs, c1, c2, c3, c4, c5, c6, c7⟩, c8⟩
  ·cases h
 ·cases h
theorem rtn_I (b : Bg q k X R W sc (fun _ => true)) (Lm : LamCtx X qual) (F : EvF q sc x fid m) {es : List EvA} (hm : es.all (fun a => decide (a.2.length = m)) = true) {st : Stmt} (h : rtnB q n sc x qual none es st = true) (hl : LamEq (rtnL none es st) (useI false es)) :
  PSs X [st] (TS_ R W (evRtE q.E fid es)) := by
 unfold rtnB at h
 split at h
 ·rename_i a
  split at h
  ·have e : a.2.length = m := by simpa using hm
   obtain ⟨h1, h2⟩ := evC_ok b Lm (a := a) (by rw [e]; exact F) h (by simpa [rtnL, fstL, useI] using hl)
   exact PSs.imp (use_rt1 fst_I h1) fun D σ H h => h
  ·cases h
 ·rename_i a a2
  split at h
  ·rename_i e1 e2 p2 p1
   rw [Bool.and_eq_true] at h
   have e : a.2.length = m ∧ a2.2.length = m := by simpa using hm
   have hl : LamEq (lamsE e1 ++ lamsE e2) (a.1 ++ a2.1) := by simpa [rtnL, fstL, useI] using hl
   obtain ⟨l1, l2⟩ := lamEq_app (evC_len h.1) hl
   obtain ⟨h1, h2⟩ := evC_ok b Lm (a := a) (by rw [e.1]; exact F) h.1 l1
   obtain ⟨h3, h4⟩ := evC_ok b Lm (a := a2) (by rw [e.2]; exact F) h.2 l2
   exact PSs.imp (use_rt2 fst_I h1 h3) fun D σ H h => h
  ·cases h
 ·cases h
theorem rtn_V (b : Bg q k X R W sc (fun _ => true)) (Lm : LamCtx X qual) (F : EvF q sc x fid m) (hj : q.N[j]? = some y) (lv : isLoc sc y = true) (ov : okN y = true) {a : EvA} {es : List EvA} (hm : (a :: es).all (fun a => decide (a.2.length = m)) = true) {st : Stmt} (h : rtnB q n sc x qual (some y) (a :: es) st = true) (hl : LamEq (rtnL (some y) (a :: es) st) (useI true (a :: es))) :
  PSs X [st] (tUse X R W j a.1 (evRtE q.E fid (a :: es))) := by
 unfold rtnB at h
 split at h
 ·rename_i a' e0
  injection e0 with e0 e0'
  subst e0 e0'
  split at h
  ·have e : a.2.length = m := by simpa using hm
   obtain ⟨h1, h2⟩ := evCV_ok (j := j) (ls := a.1) b (by rw [e]; exact F) hj lv ov h
   exact PSs.imp (use_rt1 fst_V h1) fun D σ H ⟨F', g, p, fs, c1, c2, c3, c4, c5, c6, c7, c8⟩ => ⟨F', g, ⟨p, fs, c1, c2, c3, c4, c5, c6, c7⟩, c8⟩
  ·cases h
 ·rename_i a' a2 e0
  injection e0 with e0 e0'
  subst e0 e0'
  split at h
  ·rename_i e1 e2 p2 p1
   rw [Bool.and_eq_true] at h
   have e : a.2.length = m ∧ a2.2.length = m := by simpa using hm
   have hl : LamEq (lamsE e2) a2.1 := by simpa [rtnL, fstL, useI] using hl
   obtain ⟨h1, h2⟩ := evCV_ok (j := j) (ls := a.1) b (by rw [e.1]; exact F) hj lv ov h.1
   obtain ⟨h3, h4⟩ := evC_ok b Lm (a := a2) (by rw [e.2]; exact F) h.2 hl
   exact PSs.imp (use_rt2 fst_V h1 h3) fun D σ H ⟨F', g, p, fs, c1, c2, c3, c4, c5, c6, c7, c8⟩ => ⟨F', g, ⟨p, fs, c1, c2, c3, c4, c5, c6, c7⟩, c8⟩
  ·cases h
 ·cases h
end
end Y
namespace Y
open PySem PySem.Spec PyProof.Rows L2
def SE.plain : SE → Bool
 | .s _ => true
 | _ => false
def askB (q : Q) (sc : Scope) (qual : Str) (j : Nat) (ls1 : LmL) (ls2 : Option LmL) (sts : List Stmt) : Option (Str × List Expr × List Stmt) := match sts with
 | .Assign [.Name y _] (.List ees _) _ :: rest => if (decide (q.N[j]? = some y) && isLoc sc y && okN y && decide (ees.length = ls1.length) && ls1.all (lamXB q sc qual) && decide ((both ls1 ls2).length ≤ 100)) = true then (match ls2 with
   | none => some (y, ees, rest)
   | some l2 => (match rest with
     | .Assign [.Name y1 _] (.BinOp (.Name y2 _) .Add (.List ees2 _) _) _ :: rest => if (decide (y1 = y) && decide (y2 = y) && decide (ees2.length = l2.length) && l2.all (lamXB q sc qual)) = true then some (y, ees ++ ees2, rest) else none
     | _ => none)) else none
 | _ => none
def chkSE (q : Q) (n : Nat) (sc : Scope) (x qual : Str) (m : Nat) : Nat → List SE → List Stmt → Bool
 | 0, _, _ => false
 | _ + 1, [], sts => (match sts with | [] => true | _ => false)
 | f + 1, h :: hs, sts => (match h with
  | .s s => (match sts with | st :: sts => chkS q n sc (fun _ => true) st s && chkSE q n sc x qual m f hs sts | _ => false)
  | .fr tgc kd its body => (match sts with | .For tg it stm [] _ :: sts => itB (chk q n sc) q sc tg kd it its && tgB q sc (fun _ => true) tg tgc && notSet it && chkSE q n sc x qual m f body stm && chkSE q n sc x qual m f hs sts && hs.all SE.plain | _ => false)
  | .ifE es => (match sts with | st :: sts => es.all (fun a => decide (a.2.length = m)) && tstB q n sc x qual none es st && decide ((tstL none es st).length = (useI false es).length) && chkSE q n sc x qual m f hs sts | _ => false)
  | .rtE es => (match sts with | [st] => es.all (fun a => decide (a.2.length = m)) && rtnB q n sc x qual none es st && hs.isEmpty | _ => false)
  | .ifV j ls1 ls2 cs es => (match askB q sc qual j ls1 ls2 sts with
   | some (y, ees, st :: sts) => ((both ls1 ls2, cs) :: es).all (fun a => decide (a.2.length = m)) && tstB q n sc x qual (some y) ((both ls1 ls2, cs) :: es) st && decide ((tstL (some y) ((both ls1 ls2, cs) :: es) st).length = (useI true ((both ls1 ls2, cs) :: es)).length) && chkSE q n sc x qual m f hs sts
   | _ => false)
  | .rtV j ls1 ls2 cs es => (match askB q sc qual j ls1 ls2 sts with
   | some (y, ees, [st]) => ((both ls1 ls2, cs) :: es).all (fun a => decide (a.2.length = m)) && rtnB q n sc x qual (some y) ((both ls1 ls2, cs) :: es) st && hs.isEmpty
   | _ => false)
  | .fz _ => chkSE q n sc x qual m f hs sts)
def lamsSE (q : Q) (sc : Scope) (qual : Str) : Nat → List SE → List Stmt → List Expr
 | 0, _, _ => []
 | _ + 1, [], _ => []
 | f + 1, h :: hs, sts => if (h :: hs).all SE.plain = true then [] else (match h with
  | .s _ => (match sts with | _ :: sts => lamsSE q sc qual f hs sts | _ => [])
  | .fr _ _ _ body => (match sts with | .For _ _ stm [] _ :: _ => lamsSE q sc qual f body stm | _ => [])
  | .ifE es => (match sts with | st :: sts => tstL none es st ++ lamsSE q sc qual f hs sts | _ => [])
  | .rtE es => (match sts with | [st] => rtnL none es st | _ => [])
  | .ifV j ls1 ls2 cs es => (match askB q sc qual j ls1 ls2 sts with
   | some (y, ees, st :: sts) => ees ++ (tstL (some y) ((both ls1 ls2, cs) :: es) st ++ lamsSE q sc qual f hs sts)
   | _ => [])
  | .rtV j ls1 ls2 cs es => (match askB q sc qual j ls1 ls2 sts with
   | some (y, ees, [st]) => ees ++ rtnL (some y) ((both ls1 ls2, cs) :: es) st
   | _ => [])
  | .fz _ => lamsSE q sc qual f hs sts)
def idxSE : Nat → List SE → LmL
 | 0, _ => []
 | _ + 1, [] => []
 | f + 1, h :: hs => if (h :: hs).all SE.plain = true then [] else (match h with
  | .s _ => idxSE f hs
  | .fr _ _ _ body => idxSE f body
  | .ifE es => useI false es ++ idxSE f hs
  | .rtE es => useI false es
  | .ifV j ls1 ls2 cs es => both ls1 ls2 ++ (useI true ((both ls1 ls2, cs) :: es) ++ idxSE f hs)
  | .rtV j ls1 ls2 cs es => both ls1 ls2 ++ useI true ((both ls1 ls2, cs) :: es)
  | .fz _ => idxSE f hs)
section
variable {q : Q} {k n fid m j : Nat} {X : Cx} {R : Fr} {W : XK} {sc : Scope} {x qual y : Str} {ls1 : LmL} {ls2 : Option LmL} {sts rest : List Stmt} {ees : List Expr} {ev : G → M (Fl × G)}
theorem ask_ok (b : Bg q k X R W sc (fun _ => true)) (io : R.io = []) (Lm : LamCtx X qual) (h : askB q sc qual j ls1 ls2 sts = some (y, ees, rest)) (hl : LamEq ees (both ls1 ls2)) (hr : PSs X rest (tUse X R W j (both ls1 ls2) ev)) :
  PSs X sts (TS_ R W (evDrop j ev)) ∧ q.N[j]? = some y ∧ isLoc sc y = true ∧ okN y = true ∧ ees.length = (both ls1 ls2).length := by
 obtain ⟨c, P, t1, t2, t3, t4⟩ := Lm.ex
 unfold askB at h
 split at h
 ·rename_i y' p1 ees' p2 p3 rest'
  split at h
  ·rename_i hb
   simp only [Bool.and_eq_true, decide_eq_true_eq] at hb
   obtain ⟨⟨⟨⟨⟨a1, a2⟩, a3⟩, a4⟩, a5⟩, a6⟩ := hb
   have hj : X.N[j]? = some y' := by rw [b.hN]; exact a1
   have la : X.env.scope.names.lookup y' = some .local := by rw [b.hsc]; exact isLoc_ok a2
   cases ls2 with
   | none =>
    cases h
    exact ⟨pss_asks b.hK io b.nd hj la t1 t2 t3 t4 (lamEs_of b Lm hl a5) a6 hr, a1, a2, a3, a4⟩
   | some l2 =>
    dsimp only at h
    split at h
    ·rename_i y1 p4 y2 p5 ees2 p6 p7 p8 rest2
     split at h
     ·rename_i hb2
      simp only [Bool.and_eq_true, decide_eq_true_eq] at hb2
      obtain ⟨⟨⟨rfl, rfl⟩, b3⟩, b4⟩ := hb2
      cases h
      have hl : LamEq (ees' ++ ees2) (ls1 ++ l2) := hl
      obtain ⟨h1, h2⟩ := lamEq_app a4 hl
      have a6 : (ls1 ++ l2).length ≤ 100 := a6
      rw [List.length_append] at a6
      refine ⟨pss_asks b.hK io b.nd hj la t1 t2 t3 t4 (lamEs_of b Lm h1 a5) (by omega) (pss_asks2 b.hK b.nd hj la a3 t1 t2 t3 t4 (lamEs_of b Lm h2 b4) a6 hr), a1, a2, a3, ?_⟩
      show (ees' ++ ees2).length = (ls1 ++ l2).length
      rw [List.length_append, List.length_append, a4, b3]
     ·cases h
    ·cases h
  ·cases h
 ·cases h
theorem ask_facts (h : askB q sc qual j ls1 ls2 sts = some (y, ees, rest)) : q.N[j]? = some y ∧ isLoc sc y = true ∧ okN y = true ∧ ees.length = (both ls1 ls2).length := by
 unfold askB at h
 split at h
 ·split at h
  ·rename_i hb
   simp only [Bool.and_eq_true, decide_eq_true_eq] at hb
   obtain ⟨⟨⟨⟨⟨a1, a2⟩, a3⟩, a4⟩, a5⟩, a6⟩ := hb
   cases ls2 with
   | none =>
    cases h
    exact ⟨a1, a2, a3, a4⟩
   | some l2 =>
    dsimp only at h
    split at h
    ·split at h
     ·rename_i hb2
      simp only [Bool.and_eq_true, decide_eq_true_eq] at hb2
      obtain ⟨⟨⟨rfl, rfl⟩, b3⟩, b4⟩ := hb2
      cases h
      refine ⟨a1, a2, a3, ?_⟩
      show List.length (_ ++ _) = List.length (ls1 ++ l2)
      rw [List.length_append, List.length_append, a4, b3]
     ·cases h
    ·cases h
  ·cases h
 ·cases h
theorem ask_len (h : askB q sc qual j ls1 ls2 sts = some (y, ees, rest)) : ees.length = (both ls1 ls2).length := (ask_facts h).2.2.2
theorem ask_nm (h : askB q sc qual j ls1 ls2 sts = some (y, ees, rest)) : q.N[j]? = some y ∧ isLoc sc y = true ∧ okN y = true := ⟨(ask_facts h).1, (ask_facts h).2.1, (ask_facts h).2.2.1⟩
theorem LamCtx.nox (Lm : LamCtx X qual) : LamCtx X.nox qual := ⟨Lm.ex, Lm.qual, Lm.dfl⟩
theorem chkSE_ok : ∀ (f : Nat) {hs : List SE} {sts : List Stmt} {X : Cx} {R : Fr} {W : XK}, Bg q k X R W sc (fun _ => true) → R.io = [] → LamCtx X qual → EvF q sc x fid m → chkSE q n sc x qual m f hs sts = true → (hs.all SE.plain = true ∨ LamEq (lamsSE q sc qual f hs sts) (idxSE f hs)) → PSs X sts (TS_ R W (evSEs q.E fid hs))
 | 0, _, _, _, _, _, _, _, _, _, h, _ => by cases h
 | f + 1, [], sts, X, R, W, b, io, Lm, F, h, _ => by
  cases sts with
  | nil => exact pss_nil_ (E := q.E)
  | cons st sts => cases h
 | f + 1, t :: hs, sts, X, R, W, b, io, Lm, F, h, hl => by
  unfold chkSE at h
  rw [evSEs]
  have sub : (t :: hs).all SE.plain = true → hs.all SE.plain = true := fun z => by
   rw [List.all_cons, Bool.and_eq_true] at z
   exact z.2
  cases t with
  | s s =>
   dsimp only at h
   split at h
   ·rename_i st sts'
    rw [Bool.and_eq_true] at h
    rw [evSE]
    refine pss_seq (chkS_ok q k n _ _ b h.1) (chkSE_ok f b io Lm F h.2 ?_)
    rcases hl with hl | hl
    ·exact .inl (sub hl)
    ·by_cases z : (SE.s s :: hs).all SE.plain = true
     ·exact .inl (sub z)
     ·unfold lamsSE idxSE at hl
      rw [if_neg z, if_neg z] at hl
      exact .inr hl
   ·cases h
  | fr tgc kd its body =>
   dsimp only at h
   split at h
   ·rename_i tg it stm p sts'
    simp only [Bool.and_eq_true] at h
    obtain ⟨⟨⟨⟨⟨h1, h2⟩, h3⟩, h4⟩, h5⟩, h6⟩ := h
    have z : ¬ (SE.fr tgc kd its body :: hs).all SE.plain = true := fun z => by
     rw [List.all_cons, Bool.and_eq_true] at z
     cases z.1
    have hl : LamEq (lamsSE q sc qual f body stm) (idxSE f body) := by
     rcases hl with hl | hl
     ·exact absurd hl z
     ·unfold lamsSE idxSE at hl
      rw [if_neg z, if_neg z] at hl
      exact hl
    rw [evSE]
    exact pss_seq (ps_forH b.hK b.calm (itB_ok b.nox (fun e c h => chk_ok q k n e c b.nox h) h1) (tgB_ok b.nox h2) (chkSE_ok f b.nox io Lm.nox F h4 (.inr hl)) (fold_ok h3)) (chkSE_ok f b io Lm F h5 (.inl h6))
   ·cases h
  | fz js =>
   dsimp only at h
   have z : ¬ (SE.fz js :: hs).all SE.plain = true := fun z => by
    rw [List.all_cons, Bool.and_eq_true] at z
    cases z.1
   have hl : LamEq (lamsSE q sc qual f hs sts) (idxSE f hs) := by
    rcases hl with hl | hl
    ·exact absurd hl z
    ·unfold lamsSE idxSE at hl
     rw [if_neg z, if_neg z] at hl
     exact hl
   rw [evSE]
   refine PSs.imp (chkSE_ok f b io Lm F h (.inr hl)) fun D σ H ⟨F0, g, r, q0⟩ => ?_
   obtain ⟨F1, r1, e1⟩ := RelS.frz js r
   exact ⟨F1, _, r1, wp_mono q0 (fun _ z => FlC.mono e1 z) fun _ z => z⟩
  | ifE es =>
   dsimp only at h
   split at h
   ·rename_i st sts'
    simp only [Bool.and_eq_true, decide_eq_true_eq] at h
    obtain ⟨⟨⟨h1, h2⟩, h3⟩, h4⟩ := h
    have z : ¬ (SE.ifE es :: hs).all SE.plain = true := fun z => by
     rw [List.all_cons, Bool.and_eq_true] at z
     cases z.1
    have hl : LamEq (tstL none es st ++ lamsSE q sc qual f hs sts') (useI false es ++ idxSE f hs) := by
     rcases hl with hl | hl
     ·exact absurd hl z
     ·unfold lamsSE idxSE at hl
      rw [if_neg z, if_neg z] at hl
      exact hl
    obtain ⟨l1, l2⟩ := lamEq_app h3 hl
    rw [evSE]
    exact tst_I b Lm F h1 h2 l1 (chkSE_ok f b io Lm F h4 (.inr l2))
   ·cases h
  | rtE es =>
   dsimp only at h
   split at h
   ·rename_i st
    simp only [Bool.and_eq_true] at h
    obtain ⟨⟨h1, h2⟩, h3⟩ := h
    have z : ¬ (SE.rtE es :: hs).all SE.plain = true := fun z => by
     rw [List.all_cons, Bool.and_eq_true] at z
     cases z.1
    have hl : LamEq (rtnL none es st) (useI false es) := by
     rcases hl with hl | hl
     ·exact absurd hl z
     ·unfold lamsSE idxSE at hl
      rw [if_neg z, if_neg z] at hl
      exact hl
    rw [evSE]
    exact rtn_I b Lm F h1 h2 hl
   ·cases h
  | ifV j ls1 ls2 cs es =>
   dsimp only at h
   split at h
   ·rename_i y ees st sts' ha
    simp only [Bool.and_eq_true, decide_eq_true_eq] at h
    obtain ⟨⟨⟨h1, h2⟩, h3⟩, h4⟩ := h
    have z : ¬ (SE.ifV j ls1 ls2 cs es :: hs).all SE.plain = true := fun z => by
     rw [List.all_cons, Bool.and_eq_true] at z
     cases z.1
    have hl : LamEq (ees ++ (tstL (some y) ((both ls1 ls2, cs) :: es) st ++ lamsSE q sc qual f hs sts')) (both ls1 ls2 ++ (useI true ((both ls1 ls2, cs) :: es) ++ idxSE f hs)) := by
     rcases hl with hl | hl
     ·exact absurd hl z
     ·unfold lamsSE idxSE at hl
      rw [if_neg z, if_neg z] at hl
      dsimp only at hl
      rw [ha] at hl
      exact hl
    have hlen : ees.length = (both ls1 ls2).length := ask_len ha
    obtain ⟨l1, l2⟩ := lamEq_app hlen hl
    obtain ⟨l2, l3⟩ := lamEq_app h3 l2
    obtain ⟨a1, a2, a3⟩ := ask_nm ha
    rw [evSE]
    exact (ask_ok b io Lm ha l1 (tst_V b Lm F a1 a2 a3 h1 h2 l2 (chkSE_ok f b io Lm F h4 (.inr l3)))).1
   ·cases h
  | rtV j ls1 ls2 cs es =>
   dsimp only at h
   split at h
   ·rename_i y ees st ha
    simp only [Bool.and_eq_true] at h
    obtain ⟨⟨h1, h2⟩, h3⟩ := h
    have z : ¬ (SE.rtV j ls1 ls2 cs es :: hs).all SE.plain = true := fun z => by
     rw [List.all_cons, Bool.and_eq_true] at z
     cases z.1
    have hl : LamEq (ees ++ rtnL (some y) ((both ls1 ls2, cs) :: es) st) (both ls1 ls2 ++ useI true ((both ls1 ls2, cs) :: es)) := by
     rcases hl with hl | hl
     ·exact absurd hl z
     ·unfold lamsSE idxSE at hl
      rw [if_neg z, if_neg z] at hl
      dsimp only at hl
      rw [ha] at hl
      exact hl
    obtain ⟨l1, l2⟩ := lamEq_app (ask_len ha) hl
    obtain ⟨a1, a2, a3⟩ := ask_nm ha
    rw [evSE]
    exact (ask_ok b io Lm ha l1 (rtn_V b Lm F a1 a2 a3 h1 h2 l2)).1
   ·cases h
end
end Y
namespace Y
open PySem PySem.Spec PyProof.Rows L2
section
variable {P : Program} {w : World} {K : PySem.W.Frag} {mg : Str → Option Value} {base : Heap} {st : Ev} {step : Ev → Nat → Fn} {blt exB : Str → Bool}
theorem df_se (M : Md P w K mg st blt exB) {fid nN fe m : Nat} {x xe : Str} {params : Arguments} {body : List Stmt} {scope : Scope} {p : Pl} {N : List Str} {ss : List SE}
  (Fd : FunD K x x params body scope [] [] p.f p.fd) (hf : p.f = He.fAd K (x, none)) (Sc : FnScope N p.ps scope) (hl : p.ps.length = st.np fid) (hN : N.length = nN)
  (hb : ∀ n, n + (moreOf st fid n).length = st.np fid → ∃ (ds : List Value) (dvs : List V), Binds K p.fd p.ps ds ∧ Vals dvs ds ∧ Paired (At K (fun _ => none)) dvs (moreOf st fid n))
  (hs : ∀ E, step E fid = runG (st.io fid) nN (st.np fid) (evSEs E fe ss)) (hio : st.io fid = none) (TB : LamX.TabB base mg (He.cT K (x, none)).1 (He.cT K (x, none)).2) (hT : tabC K x = true) (hd : ∀ t ∈ lamTab, ∀ env, defaultsOf t.params env = ([], []))
  (F : ∀ a b, EvF ⟨mkE st a b, N, blt, exB, true⟩ scope xe fe m) (hc : ∀ a b, chkSE ⟨mkE st a b, N, blt, exB, true⟩ 60 scope xe ((x ++ ".<locals>.") ++ "<lambda>") m 60 ss body = true)
  (hlam : ∀ a b, LamEq (lamsSE ⟨mkE st a b, N, blt, exB, true⟩ scope ((x ++ ".<locals>.") ++ "<lambda>") 60 ss body) (idxSE 60 ss)) : Df P w K mg base st step fid p where
 len := hl
 binds := hb
 step := step_of fun k a b L => by
  rw [hs]
  unfold tabC at hT
  rw [Bool.and_eq_true] at hT
  obtain ⟨q, hq, hqe⟩ := List.any_eq_true.mp hT.1
  have hqe := of_decide_eq_true hqe
  subst hqe
  refine fnD0 Fd Sc hl hN fun cdv hcd A gd outer s H W R hR hioR hr => ?_
  have bg := bg_of M L Sc (N := N) (ps := p.ps) (qual := x) (f := p.f) (cdv := cdv) (outer := outer) (s := s) (H := H) (W := W) hR gd hr
  obtain ⟨oc, od, dV, kV, doc, pm, an, cdv', ct, osl, hfd, lk, cd, _, _⟩ := Fd.ex
  have ecd : cdv' = cdv := by
   rw [← hcd]
   unfold codeV
   rw [lk, hfd]
  subst ecd
  obtain ⟨c, hc'⟩ := He.codeIn_ref cd
  have hcode : (He.cT K (x, none)).1 = c := by
   rw [hf] at lk
   exact He.codeOf_eq lk (by rw [hfd]; exact hc')
  have Lm : LamCtx (cxOf (RX.CX P w) P w K mg base N x scope p.f cdv' A outer s H W) ((x ++ ".<locals>.") ++ "<lambda>") := ⟨⟨_, _, TB, by rw [hcode]; exact hc', hq, fun q hq e => by
   have z := List.all_eq_true.mp hT.2 q hq
   simp only [Bool.or_eq_true, Bool.not_eq_true', decide_eq_false_iff_not, decide_eq_true_eq] at z
   exact z.elim (fun z => absurd e z) id⟩, rfl, fun t ht => hd t ht _⟩
  exact PSs.imp (chkSE_ok 60 bg (hioR hio) Lm (F a b) (hc a b) (.inr (hlam a b))) fun D σ H ⟨g, r, _, q⟩ => ⟨R.F0, g, r, q⟩
end
end Y
namespace Y
open PySem PySem.Spec PyProof.Rows L2
def oneB (p : Arguments) : Bool := match p with
 | ⟨[], [⟨y, _, _⟩], none, [], [], none, []⟩ => decide (y = "_law_a")
 | _ => false
theorem oneB_bind {p : Arguments} (h : oneB p = true) (q : Str) (b : Expr) (sc : Scope) (cl : List (Str × Addr)) (c' : Addr) (pm ctv : Value) (us : List Value) (hu : us.length = 1) : bindArgs (LF.fd ⟨q, p, b, sc, cl, c'⟩ pm ctv) ⟨us, []⟩ = pure ([("_law_a" : Str)].zip us) := by
 unfold oneB at h
 split at h
 ·rw [decide_eq_true_eq] at h
  subst h
  match us, hu with
  | [_], _ => rfl
 ·cases h
theorem oneB_defs {p : Arguments} (h : oneB p = true) (env : Env) : defaultsOf p env = ([], []) := by
 unfold oneB at h
 split at h
 ·rfl
 ·cases h
def lt0 : LT := ⟨"", default, default, { kind := .function, names := [], isGenerator := false, isCoroutine := false }, []⟩
theorem hd_of (h : lamTab.all (fun t => oneB t.params) = true) : ∀ t ∈ lamTab, ∀ env, defaultsOf t.params env = ([], []) := fun t ht env => oneB_defs (List.all_eq_true.mp h t ht) env
theorem lamB_of {st : Ev} {blt exB : Str → Bool} {t : LT} {c : C} (h1 : oneB t.params = true) (h2 : NdefX.nscB ("_law_a" :: t.fr) ["_law_a"] t.fr t.scope = true) (h3 : ∀ a b, chk ⟨mkE st a b, "_law_a" :: t.fr, blt, exB, true⟩ 60 t.scope t.body c = true) : lamB st blt exB t "_law_a" c :=
 ⟨h2, fun q b sc cl c' pm ctv us hu => oneB_bind h1 q b sc cl c' pm ctv us hu, h3⟩
end Y
namespace Hd
open PySem PySem.Spec PyProof.Rows L2
def N_is_whole : List Str := ["thing"]
def b_is_whole : List Y.S := [.ret (.and_ (.isi (.var 0) (.ty "int")) (.not_ (.isi (.var 0) (.ty "bool"))))]
theorem c_is_whole (a b : Nat → Y.Fn) : Y.all2 (Y.chkS ⟨Y.mkE tb.st a b, N_is_whole, tb.blt, tb.exB, true⟩ 60 (defScope s_is_whole) (fun _ => true)) (defBody s_is_whole) b_is_whole = true := by kernel_rfl
def N_is_name : List Str := ["thing", "sign"]
def q1_is_name : Y.C := .comp [1] (.one 1) .any [.var 0] none (.cmp .inn (.var 1) (.con "LETTERS"))
@[simp] theorem isV_q1_is_name : Y.C.isV q1_is_name = false := rfl
def b_is_name : List Y.S := [.ret (.and_ (.isi (.var 0) (.ty "str")) (.and_ (.chain .le .le (.int 1) (.bi .len [.var 0]) (.int 8)) (.bi .all [q1_is_name])))]
theorem c_is_name (a b : Nat → Y.Fn) : Y.all2 (Y.chkS ⟨Y.mkE tb.st a b, N_is_name, tb.blt, tb.exB, true⟩ 60 (defScope s_is_name) (fun _ => true)) (defBody s_is_name) b_is_name = true := by kernel_rfl
def N_is_kind : List Str := ["thing", "opens", "deep"]
def b_is_kind : List Y.S := [.ife (.isi (.var 0) (.ty "str")) [.ret (.cmp .inn (.var 0) (.tup [.str "num", .str "truth"]))] [], .ife (.or_ (.not_ (.isi (.var 0) (.ty "tuple"))) (.or_ (.cmp .eq (.var 0) (.tup [])) (.not_ (.isi (.idx (.var 0) (.int 0)) (.ty "str"))))) [.ret (.bl false)] [], .ife (.cmp .eq (.idx (.var 0) (.int 0)) (.str "open")) [.ret (.and_ (.cmp .eq (.bi .len [.var 0]) (.int 2)) (.and_ (.call f_is_whole [.idx (.var 0) (.int 1)]) (.chain .le .lt (.int 0) (.idx (.var 0) (.int 1)) (.var 1))))] [], .ife (.or_ (.cmp .ne (.idx (.var 0) (.int 0)) (.str "pair")) (.or_ (.cmp .ne (.bi .len [.var 0]) (.int 3)) (.cmp .eq (.var 2) (.int 0)))) [.ret (.bl false)] [], .ret (.and_ (.call f_is_kind [.idx (.var 0) (.int 1), .var 1, .bin .sub (.var 2) (.int 1)]) (.call f_is_kind [.idx (.var 0) (.int 2), .var 1, .bin .sub (.var 2) (.int 1)]))]
theorem c_is_kind (a b : Nat → Y.Fn) : Y.all2 (Y.chkS ⟨Y.mkE tb.st a b, N_is_kind, tb.blt, tb.exB, true⟩ 60 (defScope s_is_kind) (fun _ => true)) (defBody s_is_kind) b_is_kind = true := by kernel_rfl
def N_cells_of : List Str := ["kind"]
def b_cells_of : List Y.S := [.ret (.ife (.isi (.var 0) (.ty "str")) (.int 1) (.bin .add (.call f_cells_of [.idx (.var 0) (.int 1)]) (.call f_cells_of [.idx (.var 0) (.int 2)])))]
theorem c_cells_of (a b : Nat → Y.Fn) : Y.all2 (Y.chkS ⟨Y.mkE tb.st a b, N_cells_of, tb.blt, tb.exB, true⟩ 60 (defScope s_cells_of) (fun _ => true)) (defBody s_cells_of) b_cells_of = true := by kernel_rfl
def N_fits_part : List Str := ["part", "sort", "opens", "kind"]
def q1_fits_part : Y.C := .comp [3] (.one 3) .any [.var 0] none (.call f_is_kind [.var 3, .var 2])
@[simp] theorem isV_q1_fits_part : Y.C.isV q1_fits_part = false := rfl
def b_fits_part : List Y.S := [.ife (.cmp .eq (.var 1) (.str "number")) [.ret (.call f_is_whole [.var 0])] [], .ife (.cmp .eq (.var 1) (.str "count")) [.ret (.and_ (.call f_is_whole [.var 0]) (.cmp .ge (.var 0) (.int 0)))] [], .ife (.cmp .eq (.var 1) (.str "kind")) [.ret (.call f_is_kind [.var 0, .var 2])] [], .ife (.cmp .eq (.var 1) (.str "kinds")) [.ret (.and_ (.isi (.var 0) (.ty "list")) (.bi .all [q1_fits_part]))] [], .ret (.call f_is_name [.var 0])]
theorem c_fits_part (a b : Nat → Y.Fn) : Y.all2 (Y.chkS ⟨Y.mkE tb.st a b, N_fits_part, tb.blt, tb.exB, true⟩ 60 (defScope s_fits_part) (fun _ => true)) (defBody s_fits_part) b_fits_part = true := by kernel_rfl
def N_terms_room : List Str := ["terms", "opens", "deep", "room", "term"]
def l1_terms_room : List Y.S := [.asg 3 (.call f_term_room [.var 4, .var 1, .var 2, .var 3]), .ife (.cmp .lt (.var 3) (.int 0)) [.ret (.neg (.int 1))] []]
def b_terms_room : List Y.S := [.for_ (.one 4) .any [.var 0] l1_terms_room, .ret (.var 3)]
theorem c_terms_room (a b : Nat → Y.Fn) : Y.all2 (Y.chkS ⟨Y.mkE tb.st a b, N_terms_room, tb.blt, tb.exB, true⟩ 60 (defScope s_terms_room) (fun _ => true)) (defBody s_terms_room) b_terms_room = true := by kernel_rfl
def N_term_room : List Str := ["term", "opens", "deep", "room", "sorts", "part", "sort"]
def l1_term_room : List Y.S := [.ife (.cmp .eq (.var 6) (.str "term")) [.asg 3 (.call f_term_room [.var 5, .var 1, .bin .sub (.var 2) (.int 1), .var 3])] [.ife (.cmp .eq (.var 6) (.str "terms")) [.asg 3 (.ife (.isi (.var 5) (.ty "list")) (.call f_terms_room [.var 5, .var 1, .bin .sub (.var 2) (.int 1), .var 3]) (.neg (.int 1)))] [.ife (.not_ (.call f_fits_part [.var 5, .var 6, .var 1])) [.ret (.neg (.int 1))] []]], .ife (.cmp .lt (.var 3) (.int 0)) [.ret (.neg (.int 1))] []]
def b_term_room : List Y.S := [.ife (.or_ (.not_ (.isi (.var 0) (.ty "tuple"))) (.or_ (.cmp .eq (.var 0) (.tup [])) (.or_ (.not_ (.isi (.idx (.var 0) (.int 0)) (.ty "str"))) (.or_ (.kin true "FORMS" (.idx (.var 0) (.int 0))) (.cmp .eq (.var 2) (.int 0)))))) [.ret (.neg (.int 1))] [], .asg 4 (.kget "FORMS" (.idx (.var 0) (.int 0))), .ife (.cmp .ne (.bi .len [.var 0]) (.bin .add (.bi .len [.var 4]) (.int 1))) [.ret (.neg (.int 1))] [], .aug 3 .sub (.int 1), .for_ (.tup [5, 6]) .zip [.slc (.var 0) (some (.int 1)) none, .var 4] l1_term_room, .ret (.var 3)]
theorem c_term_room (a b : Nat → Y.Fn) : Y.all2 (Y.chkS ⟨Y.mkE tb.st a b, N_term_room, tb.blt, tb.exB, true⟩ 60 (defScope s_term_room) (fun _ => true)) (defBody s_term_room) b_term_room = true := by kernel_rfl
def N_is_term : List Str := ["term", "opens"]
def b_is_term : List Y.S := [.ret (.cmp .ge (.call f_term_room [.var 0, .var 1, .con "DEEPEST_TERM", .con "MOST_TERMS"]) (.int 0))]
theorem c_is_term (a b : Nat → Y.Fn) : Y.all2 (Y.chkS ⟨Y.mkE tb.st a b, N_is_term, tb.blt, tb.exB, true⟩ 60 (defScope s_is_term) (fun _ => true)) (defBody s_is_term) b_is_term = true := by kernel_rfl
def N_copied : List Str := ["thing", "one"]
def q1_copied : Y.C := .comp [1] (.one 1) .any [.var 0] none (.call f_copied [.var 1])
@[simp] theorem isV_q1_copied : Y.C.isV q1_copied = false := rfl
def b_copied : List Y.S := [.ife (.isi (.var 0) (.ty "list")) [.ret (q1_copied)] [], .ret (.ife (.isi (.var 0) (.ty "tuple")) (.bi .tuple [q1_copied]) (.var 0))]
theorem c_copied (a b : Nat → Y.Fn) : Y.all2 (Y.chkS ⟨Y.mkE tb.st a b, N_copied, tb.blt, tb.exB, true⟩ 60 (defScope s_copied) (fun _ => true)) (defBody s_copied) b_copied = true := by kernel_rfl
def N_Function___init__ : List Str := ["self", "name", "opens", "takes", "gives", "body", "kind"]
def q1_Function___init__ : Y.C := .comp [6] (.one 6) .any [.var 3] none (.call f_is_kind [.var 6, .var 2])
@[simp] theorem isV_q1_Function___init__ : Y.C.isV q1_Function___init__ = false := rfl
def b_Function___init__ : List Y.S := [.ife (.or_ (.not_ (.call f_is_name [.var 1])) (.or_ (.not_ (.call f_is_whole [.var 2])) (.not_ (.chain .le .le (.int 0) (.var 2) (.con "MOST_OPENS"))))) [.raise "BadFunction"] [], .ife (.or_ (.not_ (.isi (.var 3) (.ty "list"))) (.or_ (.cmp .gt (.bi .len [.var 3]) (.con "MOST_TAKES")) (.not_ (.bi .all [q1_Function___init__])))) [.raise "BadFunction"] [], .ife (.or_ (.not_ (.call f_is_kind [.var 4, .var 2])) (.not_ (.call f_is_term [.var 5, .var 2]))) [.raise "BadFunction"] [], .setA 0 "name" (.var 1), .setA 0 "opens" (.var 2), .setA 0 "takes" (.bi .list [.var 3]), .setA 0 "gives" (.var 4), .setA 0 "body" (.call f_copied [.var 5])]
theorem c_Function___init__ (a b : Nat → Y.Fn) : Y.all2 (Y.chkS ⟨Y.mkE tb.st a b, N_Function___init__, tb.blt, tb.exB, true⟩ 60 (defScope s_Function___init__) (fun _ => true)) (defBody s_Function___init__) b_Function___init__ = true := by kernel_rfl
def N_Function_told : List Str := ["self"]
def b_Function_told : List Y.S := [.ret (.tup [.att (.var 0) "name", .att (.var 0) "opens", .bi .list [.att (.var 0) "takes"], .att (.var 0) "gives", .call f_copied [.att (.var 0) "body"]])]
theorem c_Function_told (a b : Nat → Y.Fn) : Y.all2 (Y.chkS ⟨Y.mkE tb.st a b, N_Function_told, tb.blt, tb.exB, true⟩ 60 (defScope s_Function_told) (fun _ => true)) (defBody s_Function_told) b_Function_told = true := by kernel_rfl
def N_Book_names : List Str := ["self"]
def b_Book_names : List Y.S := [.ret (.bi .list [.att (.var 0) "table"])]
theorem c_Book_names (a b : Nat → Y.Fn) : Y.all2 (Y.chkS ⟨Y.mkE tb.st a b, N_Book_names, tb.blt, tb.exB, true⟩ 60 (defScope s_Book_names) (fun _ => true)) (defBody s_Book_names) b_Book_names = true := by kernel_rfl
def N_Book_function : List Str := ["self", "name"]
def b_Book_function : List Y.S := [.ife (.or_ (.not_ (.isi (.var 1) (.ty "str"))) (.cmp .nin (.var 1) (.att (.var 0) "table"))) [.raise "BadName"] [], .ret (.idx (.att (.var 0) "table") (.var 1))]
theorem c_Book_function (a b : Nat → Y.Fn) : Y.all2 (Y.chkS ⟨Y.mkE tb.st a b, N_Book_function, tb.blt, tb.exB, true⟩ 60 (defScope s_Book_function) (fun _ => true)) (defBody s_Book_function) b_Book_function = true := by kernel_rfl
def N_cells : List Str := ["kind"]
def b_cells : List Y.S := [.ife (.not_ (.call f_is_kind [.var 0, .int 0])) [.raise "BadKinds"] [], .ret (.call f_cells_of [.var 0])]
theorem c_cells (a b : Nat → Y.Fn) : Y.all2 (Y.chkS ⟨Y.mkE tb.st a b, N_cells, tb.blt, tb.exB, true⟩ 60 (defScope s_cells) (fun _ => true)) (defBody s_cells) b_cells = true := by kernel_rfl
def N__law_cell_at : List Str := ["_law_script", "_law_k"]
def b__law_cell_at : List Y.S := [.ife (.cmp .lt (.var 1) (.bi .len [.var 0])) [.ret (.idx (.var 0) (.var 1))] [], .ret (.int 0)]
theorem c__law_cell_at (a b : Nat → Y.Fn) : Y.all2 (Y.chkS ⟨Y.mkE tb.st a b, N__law_cell_at, tb.blt, tb.exB, true⟩ 60 (defScope s__law_cell_at) (fun _ => true)) (defBody s__law_cell_at) b__law_cell_at = true := by kernel_rfl
def N__law_kinds_of : List Str := ["_law_error", "_law_found"]
def b__law_kinds_of : List Y.S := [.asg 1 (.lst [.isi (.var 0) (.cls "BadFunction"), .isi (.var 0) (.cls "BadBook"), .isi (.var 0) (.cls "BadName")]), .asg 1 (.bin .add (.var 1) (.lst [.isi (.var 0) (.cls "BadKinds"), .isi (.var 0) (.cls "BadWorths"), .isi (.var 0) (.cls "BadMost")])), .asg 1 (.bin .add (.var 1) (.lst [.isi (.var 0) (.cls "Unfit"), .isi (.var 0) (.cls "TooMany"), .isi (.var 0) (.cls "Unending")])), .ret (.bin .add (.var 1) (.lst [.isi (.var 0) (.ty "ValueError")]))]
theorem c__law_kinds_of (a b : Nat → Y.Fn) : Y.all2 (Y.chkS ⟨Y.mkE tb.st a b, N__law_kinds_of, tb.blt, tb.exB, true⟩ 60 (defScope s__law_kinds_of) (fun _ => true)) (defBody s__law_kinds_of) b__law_kinds_of = true := by kernel_rfl
def N__law_every : List Str := ["_law_asks", "_law_things", "_law_which", "_law_ask", "_law_thing"]
def q1__law_every : Y.C := .comp [4] (.one 4) .any [.var 1] none (.call f__law_refused [.var 3, .var 4, .var 2])
@[simp] theorem isV_q1__law_every : Y.C.isV q1__law_every = false := rfl
def l2__law_every : List Y.S := [.ife (.not_ (.bi .all [q1__law_every])) [.ret (.bl false)] []]
def b__law_every : List Y.S := [.for_ (.one 3) .any [.var 0] l2__law_every, .ret (.bl true)]
theorem c__law_every (a b : Nat → Y.Fn) : Y.all2 (Y.chkS ⟨Y.mkE tb.st a b, N__law_every, tb.blt, tb.exB, true⟩ 60 (defScope s__law_every) (fun _ => true)) (defBody s__law_every) b__law_every = true := by kernel_rfl
def N__law_deep : List Str := ["_law_many", "_law_found", "_law_at"]
def l1__law_deep : List Y.S := [.asg 1 (.ife (.cmp .eq (.bin .mod (.var 2) (.int 2)) (.int 0)) (.tup [.str "pair", .var 1, .str "truth"]) (.tup [.str "pair", .str "num", .var 1]))]
def b__law_deep : List Y.S := [.asg 1 (.str "num"), .for_ (.one 2) .rng1 [.var 0] l1__law_deep, .ret (.var 1)]
theorem c__law_deep (a b : Nat → Y.Fn) : Y.all2 (Y.chkS ⟨Y.mkE tb.st a b, N__law_deep, tb.blt, tb.exB, true⟩ 60 (defScope s__law_deep) (fun _ => true)) (defBody s__law_deep) b__law_deep = true := by kernel_rfl
def N__law_no_kinds : List Str := ["_law_far", "_law_found"]
def b__law_no_kinds : List Y.S := [.asg 1 (.lst [.non, .int 5, .str "", .str "nums", .str "Num", .tup [.str "num"], .lst [.str "num"], .tup [], .tup [.str "open"], .tup [.str "open", .int 1]]), .asg 1 (.bin .add (.var 1) (.lst [.tup [.str "open", .bin .add (.int 1) (.var 0)], .tup [.str "open", .neg (.int 1)]])), .asg 1 (.bin .add (.var 1) (.lst [.tup [.str "open", .str "0"], .tup [.str "open", .bl true], .tup [.str "pair", .str "num"], .tup [.str "pair", .str "num", .str "num", .str "num"]])), .asg 1 (.bin .add (.var 1) (.lst [.tup [.str "pair", .str "num", .non]])), .asg 1 (.bin .add (.var 1) (.lst [.tup [.str "pair", .lst [.str "num"], .str "num"], .tup [.str "both", .str "num", .str "num"], .call f__law_deep [.int 5]])), .ret (.bin .add (.var 1) (.lst [.tup [.str "pair", .tup [.str "open", .int 2], .str "num"], .bl true, .dnew]))]
theorem c__law_no_kinds (a b : Nat → Y.Fn) : Y.all2 (Y.chkS ⟨Y.mkE tb.st a b, N__law_no_kinds, tb.blt, tb.exB, true⟩ 60 (defScope s__law_no_kinds) (fun _ => true)) (defBody s__law_no_kinds) b__law_no_kinds = true := by kernel_rfl
def N__law_no_terms : List Str := ["_law_far", "_law_one", "_law_found", "_law_kinds", "_law_kind"]
def q1__law_no_terms : Y.C := .comp [4] (.one 4) .any [.var 3] none (.tup [.str "size", .var 4])
@[simp] theorem isV_q1__law_no_terms : Y.C.isV q1__law_no_terms = false := rfl
def q2__law_no_terms : Y.C := .comp [4] (.one 4) .any [.slc (.var 3) (some (.int 3)) (some (.int 12))] none (.tup [.str "fail", .int 1, .var 4])
@[simp] theorem isV_q2__law_no_terms : Y.C.isV q2__law_no_terms = false := rfl
def b__law_no_terms : List Y.S := [.asg 1 (.tup [.str "num", .int 1]), .asg 2 (.lst [.non, .int 5, .str "yes", .tup [], .lst [.str "yes"], .tup [.str "yes", .int 1], .tup [.str "no", .tup []], .tup [.str "num"], .tup [.str "num", .str "1"]]), .asg 2 (.bin .add (.var 2) (.lst [.tup [.str "num", .bl true], .tup [.str "num", .int 1, .int 2], .tup [.str "take"]])), .asg 2 (.bin .add (.var 2) (.lst [.tup [.str "take", .neg (.int 1)], .tup [.str "take", .bin .sub (.neg (.int 1)) (.var 0)], .tup [.str "take", .str "0"], .tup [.str "take", .bl false]])), .asg 2 (.bin .add (.var 2) (.lst [.tup [.str "plus", .var 1], .tup [.str "plus", .var 1, .int 1]])), .asg 2 (.bin .add (.var 2) (.lst [.tup [.str "less", .var 1, .non], .tup [.str "pair", .var 1], .tup [.str "pair", .var 1, .var 1, .var 1], .tup [.str "first"], .tup [.str "second", .var 1, .var 1]])), .asg 2 (.bin .add (.var 2) (.lst [.tup [.str "if", .var 1, .var 1], .tup [.str "if", .var 1, .var 1, .var 1, .var 1], .tup [.str "fail", .int 1]])), .asg 2 (.bin .add (.var 2) (.lst [.tup [.str "fail", .non, .str "num"], .tup [.str "go", .int 1, .lst []]])), .asg 2 (.bin .add (.var 2) (.lst [.tup [.str "ask", .str "f", .lst [], .tup []], .tup [.str "ask", .str "f", .tup [], .lst []], .tup [.str "ask", .str "F", .lst [], .lst []]])), .asg 2 (.bin .add (.var 2) (.lst [.tup [.str "ask", .str "f", .lst []], .tup [.str "ask", .int 5, .lst [], .lst []]])), .asg 2 (.bin .add (.var 2) (.lst [.tup [.str "ask", .str "f", .lst [.str "nums"], .lst []], .tup [.str "ask", .str "f", .lst [], .lst [.non]], .tup [.str "ask", .str "f", .lst [], .var 1]])), .asg 2 (.bin .add (.var 2) (.lst [.tup [.str "ask", .str "", .lst [], .lst []]])), .asg 3 (.call f__law_no_kinds [.var 0]), .asg 2 (.bin .add (.bin .add (.var 2) (q1__law_no_terms)) (.lst [.tup [.str "Yes"], .tup [.str "term"]])), .ret (.bin .add (.var 2) (q2__law_no_terms))]
theorem c__law_no_terms (a b : Nat → Y.Fn) : Y.all2 (Y.chkS ⟨Y.mkE tb.st a b, N__law_no_terms, tb.blt, tb.exB, true⟩ 60 (defScope s__law_no_terms) (fun _ => true)) (defBody s__law_no_terms) b__law_no_terms = true := by kernel_rfl
def N__law_within : List Str := ["_law_term", "_law_at", "_law_one", "_law_lots"]
def b__law_within : List Y.S := [.asg 2 (.tup [.str "num", .int 1]), .asg 3 (.lst [.tup [.str "plus", .var 2, .var 0], .tup [.str "plus", .var 0, .var 2], .tup [.str "pair", .var 2, .var 0], .tup [.str "first", .var 0]]), .asg 3 (.bin .add (.var 3) (.lst [.tup [.str "second", .tup [.str "pair", .var 0, .var 2]]])), .asg 3 (.bin .add (.var 3) (.lst [.tup [.str "if", .tup [.str "yes"], .var 2, .var 0], .tup [.str "if", .var 0, .var 2, .var 2]])), .asg 3 (.bin .add (.var 3) (.lst [.tup [.str "ask", .str "f", .lst [], .lst [.var 2, .var 0, .var 2]], .tup [.str "less", .var 0, .var 2]])), .ret (.idx (.var 3) (.bin .mod (.var 1) (.int 9)))]
theorem c__law_within (a b : Nat → Y.Fn) : Y.all2 (Y.chkS ⟨Y.mkE tb.st a b, N__law_within, tb.blt, tb.exB, true⟩ 60 (defScope s__law_within) (fun _ => true)) (defBody s__law_within) b__law_within = true := by kernel_rfl
def plT : List ((Str × Option Str) × List Str) := [(d_is_whole.at_, ["thing"]), (d_is_name.at_, ["thing"]), (d_is_kind.at_, ["thing", "opens", "deep"]), (d_cells_of.at_, ["kind"]), (d_fits_part.at_, ["part", "sort", "opens"]), (d_terms_room.at_, ["terms", "opens", "deep", "room"]), (d_term_room.at_, ["term", "opens", "deep", "room"]), (d_is_term.at_, ["term", "opens"]), (d_copied.at_, ["thing"]), (d_Function___init__.at_, ["self", "name", "opens", "takes", "gives", "body"]), (d_Function_told.at_, ["self"]), (d_Book___init__.at_, ["self", "functions"]), (d_Book_names.at_, ["self"]), (d_Book_function.at_, ["self", "name"]), (d_cells.at_, ["kind"]), (d__law_cell_at.at_, ["_law_script", "_law_k"]), (d__law_kinds_of.at_, ["_law_error"]), (d__law_refused.at_, ["_law_ask", "_law_thing", "_law_which"]), (d__law_every.at_, ["_law_asks", "_law_things", "_law_which"]), (d__law_deep.at_, ["_law_many"]), (d__law_no_kinds.at_, ["_law_far"]), (d__law_no_terms.at_, ["_law_far"]), (d__law_within.at_, ["_law_term", "_law_at"]), (d__law_fields_right.at_, ["_law_far"]), (d_law.at_, ["_law_script"])]
def pl (K : PySem.W.Frag) (i : Nat) : Y.Pl := ⟨He.fAd K (plT.getD i (("", none), [])).1, Y.fdOf K (He.fAd K (plT.getD i (("", none), [])).1), (plT.getD i (("", none), [])).2⟩
def N_Book___init__ : List Str := ["self", "functions", "one"]
def q1_Book___init__ : Y.C := .comp [2] (.one 2) .any [.var 1] none (.isi (.var 2) (.cls "Function"))
@[simp] theorem isV_q1_Book___init__ : Y.C.isV q1_Book___init__ = false := rfl
def b0_Book___init__ : Y.S := .ife (.or_ (.not_ (.isi (.var 1) (.ty "list"))) (.not_ (.chain .le .le (.int 1) (.bi .len [.var 1]) (.con "MOST_FUNCTIONS")))) [.raise "BadBook"] []
def b1_Book___init__ : Y.S := .ife (.not_ (.bi .all [q1_Book___init__])) [.raise "BadBook"] []
def bs_Book___init__ : List Y.S := [.ife (.cmp .lt (.bi .len [.att (.var 0) "table"]) (.bi .len [.var 1])) [.raise "BadBook"] []]
def ev_Book___init__ (E : Y.Ev) := Y.evBookI b0_Book___init__ b1_Book___init__ bs_Book___init__ E
theorem c_Book___init__ (a b : Nat → Y.Fn) : Y.bookC ⟨Y.mkE tb.st a b, N_Book___init__, tb.blt, tb.exB, true⟩ 60 (defScope s_Book___init__) (defBody s_Book___init__) b0_Book___init__ b1_Book___init__ bs_Book___init__ = true := by kernel_rfl
def lc_0 : Y.C := .new "Function" f_Function___init__ [.var 0, .int 1, .lst [], .str "num", .var 1]
def lc_1 : Y.C := .new "Function" f_Function___init__ [.str "f", .var 0, .lst [], .str "num", .var 1]
def lc_2 : Y.C := .new "Function" f_Function___init__ [.str "f", .int 1, .var 0, .str "num", .var 1]
def lc_3 : Y.C := .new "Function" f_Function___init__ [.str "f", .int 1, .lst [], .var 0, .var 1]
def lc_4 : Y.C := .new "Function" f_Function___init__ [.str "f", .int 1, .lst [], .str "num", .var 0]
def lc_5 : Y.C := .new "Function" f_Function___init__ [.str "f", .int 1, .lst [], .str "num", .var 0]
def lc_6 : Y.C := .new "Book" f_Book___init__ [.var 0]
def lc_7 : Y.C := .meth "function" none (.var 1) [.var 0]
def lc_8 : Y.C := .call f_cells [.var 0]
def N__law_fields_right : List Str := ["_law_far", "_law_names", "_law_opens", "_law_takes", "_law_asks", "_law_terms", "_law_one", "_law_body", "_law_kind", "_law_at", "_law_term"]
def q1__law_fields_right : Y.C := .comp [8] (.one 8) .any [.call f__law_no_kinds [.var 0]] none (.lst [.var 8])
@[simp] theorem isV_q1__law_fields_right : Y.C.isV q1__law_fields_right = false := rfl
def q2__law_fields_right : Y.C := .comp [8] (.one 8) .any [.slc (.call f__law_no_kinds [.var 0]) none (some (.int 9))] none (.lst [.str "num", .str "truth", .var 8])
@[simp] theorem isV_q2__law_fields_right : Y.C.isV q2__law_fields_right = false := rfl
def q3__law_fields_right : Y.C := .comp [9, 10] (.tup [9, 10]) .enum [.var 5] none (.call f__law_within [.call f__law_within [.var 10, .bin .add (.var 0) (.var 9)], .bin .add (.bin .fdiv (.var 0) (.int 9)) (.var 9)])
@[simp] theorem isV_q3__law_fields_right : Y.C.isV q3__law_fields_right = false := rfl
def ss__law_fields_right : List Y.SE := [.s (.par2 6 7 (.bin .mod (.var 0) (.int 9)) (.tup [.str "num", .int 1])), .s (.asg 1 (.lst [.non, .int 5, .str "", .str "F", .str "a b", .str "abcdefghi", .str "f1", .str "a\n", .lst [.str "f"], .tup [.str "f"], .bl true, .str "_f"])), .s (.asg 2 (.lst [.non, .str "1", .bl true, .neg (.int 1), .int 3, .bin .add (.int 3) (.var 0), .bin .sub (.neg (.var 0)) (.int 1), .lst [.int 1], .tup [.int 1]])), .s (.asg 3 (.bin .add (.lst [.non, .str "num", .tup [.str "num"], .dnew, .bin .mul (.lst [.str "num"]) (.int 4), .bin .mul (.lst [.str "num"]) (.bin .add (.int 4) (.var 6)), .int 5]) (q1__law_fields_right))), .s (.asg 3 (.bin .add (.var 3) (q2__law_fields_right))), .fz [7], .ifV 4 [(0, [7])] none [.var 1, .int 0] [([(1, [7])], [.var 2, .int 0])], .fz [7], .ifE [([(2, [7])], [.var 3, .int 0])], .fz [7], .ifE [([(3, [7])], [.call f__law_no_kinds [.var 0], .int 0])], .s (.asg 5 (.call f__law_no_terms [.var 0])), .s (.asg 5 (.bin .add (.var 5) (q3__law_fields_right))), .rtE [([(4, [])], [.var 5, .int 0])]]
theorem c__law_fields_right (a b : Nat → Y.Fn) : Y.chkSE ⟨Y.mkE tb.st a b, N__law_fields_right, tb.blt, tb.exB, true⟩ 60 (defScope s__law_fields_right) "_law_every" (("_law_fields_right" ++ ".<locals>.") ++ "<lambda>") 2 60 ss__law_fields_right (defBody s__law_fields_right) = true := by kernel_rfl
theorem l__law_fields_right (a b : Nat → Y.Fn) : Y.LamEq (Y.lamsSE ⟨Y.mkE tb.st a b, N__law_fields_right, tb.blt, tb.exB, true⟩ (defScope s__law_fields_right) (("_law_fields_right" ++ ".<locals>.") ++ "<lambda>") 60 ss__law_fields_right (defBody s__law_fields_right)) (Y.idxSE 60 ss__law_fields_right) := by unfold Y.LamEq; kernel_rfl
theorem e__law_fields_right (a b : Nat → Y.Fn) : Y.EvF ⟨Y.mkE tb.st a b, N__law_fields_right, tb.blt, tb.exB, true⟩ (defScope s__law_fields_right) "_law_every" f__law_every 2 := ⟨by kernel_rfl, by kernel_rfl, by kernel_rfl, by kernel_rfl, by kernel_rfl, by kernel_rfl⟩
def N_law : List Str := ["_law_script", "_law_at", "_law_wide", "_law_cell", "_law_late", "_law_six", "_law_forty", "_law_far", "_law_wrong", "_law_good", "_law_lists", "_law_book", "_law_k"]
def l1_law : List Y.S := [.asg 5 (.ife (.cmp .eq (.bin .mod (.var 1) (.int 2)) (.int 0)) (.tup [.str "plus", .var 5, .tup [.str "num", .int 1]]) (.tup [.str "plus", .tup [.str "num", .int 1], .var 5]))]
def q2_law : Y.C := .comp [1] (.one 1) .rng1 [.int 39] none (.tup [.str "num", .var 1])
@[simp] theorem isV_q2_law : Y.C.isV q2_law = false := rfl
def q3_law : Y.C := .comp [12] (.one 12) .rng1 [.int 9] none (.new "Function" f_Function___init__ [.idx (.str "abcdefghi") (.var 12), .int 0, .lst [], .str "num", .tup [.str "num", .int 1]])
@[simp] theorem isV_q3_law : Y.C.isV q3_law = false := rfl
def q4_law : Y.C := .comp [12] (.one 12) .rng1 [.int 8] none (.new "Function" f_Function___init__ [.idx (.str "abcdefgh") (.var 12), .int 0, .lst [], .str "num", .tup [.str "num", .int 1]])
@[simp] theorem isV_q4_law : Y.C.isV q4_law = false := rfl
def ss_law : List Y.SE := [.s (.asgT [5, 6] (.tup [.tup [.str "num", .int 1], .tup [.str "yes"]])), .s (.for_ (.one 1) .rng1 [.int 5] l1_law), .s (.asg 2 (.tup [.str "ask", .str "f", .lst [], q2_law])), .fr (.one 3) .any [.bin .add (.lst [.int 0]) (.slc (.var 0) none (some (.int 2)))] [.s (.asg 7 (.bin .mod (.bi .abs [.var 3]) (.bin .pow (.int 10) (.int 20)))), .s (.ife (.not_ (.call f__law_fields_right [.var 7])) [.ret (.bl false)] []), .s (.asg 8 (.lst [.tup [.str "first", .var 5], .bin .add (.slc (.var 2) none (some (.int 3))) (.tup [.bin .add (.idx (.var 2) (.int 3)) (.lst [.var 6])])])), .ifE [([(5, [])], [.var 8, .int 0])], .s (.asg 9 (.new "Function" f_Function___init__ [.str "f", .int 1, .lst [], .str "num", .var 5])), .s (.asg 10 (.lst [.non, .int 5, .var 9, .tup [.var 9], .lst [], .dnew, .lst [.var 9, .non], .lst [.var 9, .var 9], .lst [.non], .lst [.str "f"], .bin .mul (.lst [.var 9]) (.int 9)])), .s (.app 10 (q3_law)), .ifE [([(6, [])], [.var 10, .int 1])], .s (.asg 11 (.new "Book" f_Book___init__ [.lst [.var 9]])), .fz [11], .ifE [([(7, [11])], [.lst [.non, .int 5, .str "", .str "g", .str "F", .lst [.str "f"], .bl true], .int 2])], .s (.asg 8 (.lst [.non, .int 5, .str "nums", .tup [.str "open", .int 0], .tup [.str "pair", .str "num"], .call f__law_deep [.int 5], .lst [.str "num"]])), .ifE [([(8, [])], [.var 8, .int 3])]], .s (.asg 4 (.new "Function" f_Function___init__ [.str "abcdefgh", .int 2, .lst [.str "num", .str "num", .call f__law_deep [.int 4]], .tup [.str "open", .int 1], .var 2])), .s (.ife (.or_ (.cmp .ne (.idx (.meth "told" none (.var 4) []) (.int 1)) (.int 2)) (.cmp .ne (.call f_cells [.call f__law_deep [.int 4]]) (.int 5))) [.ret (.bl false)] []), .s (.ret (.cmp .eq (.bi .len [.meth "names" none (.new "Book" f_Book___init__ [q4_law]) []]) (.int 8)))]
theorem c_law (a b : Nat → Y.Fn) : Y.chkSE ⟨Y.mkE tb.st a b, N_law, tb.blt, tb.exB, true⟩ 60 (defScope s_law) "_law_every" (("law" ++ ".<locals>.") ++ "<lambda>") 2 60 ss_law (defBody s_law) = true := by kernel_rfl
theorem l_law (a b : Nat → Y.Fn) : Y.LamEq (Y.lamsSE ⟨Y.mkE tb.st a b, N_law, tb.blt, tb.exB, true⟩ (defScope s_law) (("law" ++ ".<locals>.") ++ "<lambda>") 60 ss_law (defBody s_law)) (Y.idxSE 60 ss_law) := by unfold Y.LamEq; kernel_rfl
theorem e_law (a b : Nat → Y.Fn) : Y.EvF ⟨Y.mkE tb.st a b, N_law, tb.blt, tb.exB, true⟩ (defScope s_law) "_law_every" f__law_every 2 := ⟨by kernel_rfl, by kernel_rfl, by kernel_rfl, by kernel_rfl, by kernel_rfl, by kernel_rfl⟩
def N__law_refused : List Str := ["_law_ask", "_law_thing", "_law_which", "_law_sorts", "_law_error", "_law_at"]
def q1__law_refused : Y.C := .comp [5] (.one 5) .rng1 [.int 9] none (.cmp .eq (.var 5) (.var 2))
@[simp] theorem isV_q1__law_refused : Y.C.isV q1__law_refused = false := rfl
def s0__law_refused : Y.S := .asg 3 (.lst [])
def s2__law_refused : Y.S := .ret (.cmp .eq (.var 3) (.bin .add (q1__law_refused) (.lst [.bl true])))
theorem c__law_refused (a b : Nat → Y.Fn) : Y.refC ⟨Y.mkE tb.st a b, N__law_refused, tb.blt, tb.exB, true⟩ 60 (defScope s__law_refused) "MakingError" "_law_kinds_of" s0__law_refused s2__law_refused 0 1 3 4 (defBody s__law_refused) = true := by kernel_rfl
def flT : List Nat := [25, 26, 27, 28, 29, 30, 31, 32, 33]
def r_is_whole (E : Y.Ev) : Y.Fn := Y.runF E (tb.st.io 0) 1 (tb.st.np 0) b_is_whole
def r_is_name (E : Y.Ev) : Y.Fn := Y.runF E (tb.st.io 1) 2 (tb.st.np 1) b_is_name
def r_is_kind (E : Y.Ev) : Y.Fn := Y.runF E (tb.st.io 2) 3 (tb.st.np 2) b_is_kind
def r_cells_of (E : Y.Ev) : Y.Fn := Y.runF E (tb.st.io 3) 1 (tb.st.np 3) b_cells_of
def r_fits_part (E : Y.Ev) : Y.Fn := Y.runF E (tb.st.io 4) 4 (tb.st.np 4) b_fits_part
def r_terms_room (E : Y.Ev) : Y.Fn := Y.runF E (tb.st.io 5) 5 (tb.st.np 5) b_terms_room
def r_term_room (E : Y.Ev) : Y.Fn := Y.runF E (tb.st.io 6) 7 (tb.st.np 6) b_term_room
def r_is_term (E : Y.Ev) : Y.Fn := Y.runF E (tb.st.io 7) 2 (tb.st.np 7) b_is_term
def r_copied (E : Y.Ev) : Y.Fn := Y.runF E (tb.st.io 8) 2 (tb.st.np 8) b_copied
def r_Function___init__ (E : Y.Ev) : Y.Fn := Y.runF E (tb.st.io 9) 7 (tb.st.np 9) b_Function___init__
def r_Function_told (E : Y.Ev) : Y.Fn := Y.runF E (tb.st.io 10) 1 (tb.st.np 10) b_Function_told
def r_Book___init__ (E : Y.Ev) : Y.Fn := Y.runG (tb.st.io 11) 3 (tb.st.np 11) (ev_Book___init__ E)
def r_Book_names (E : Y.Ev) : Y.Fn := Y.runF E (tb.st.io 12) 1 (tb.st.np 12) b_Book_names
def r_Book_function (E : Y.Ev) : Y.Fn := Y.runF E (tb.st.io 13) 2 (tb.st.np 13) b_Book_function
def r_cells (E : Y.Ev) : Y.Fn := Y.runF E (tb.st.io 14) 1 (tb.st.np 14) b_cells
def r__law_cell_at (E : Y.Ev) : Y.Fn := Y.runF E (tb.st.io 15) 2 (tb.st.np 15) b__law_cell_at
def r__law_kinds_of (E : Y.Ev) : Y.Fn := Y.runF E (tb.st.io 16) 2 (tb.st.np 16) b__law_kinds_of
def r__law_refused (E : Y.Ev) : Y.Fn := Y.runG (tb.st.io 17) 6 (tb.st.np 17) ((Y.evRef s0__law_refused s2__law_refused flT b__law_kinds_of 2 0 1 3 4 hsT) E)
def r__law_every (E : Y.Ev) : Y.Fn := Y.runF E (tb.st.io 18) 5 (tb.st.np 18) b__law_every
def r__law_deep (E : Y.Ev) : Y.Fn := Y.runF E (tb.st.io 19) 3 (tb.st.np 19) b__law_deep
def r__law_no_kinds (E : Y.Ev) : Y.Fn := Y.runF E (tb.st.io 20) 2 (tb.st.np 20) b__law_no_kinds
def r__law_no_terms (E : Y.Ev) : Y.Fn := Y.runF E (tb.st.io 21) 5 (tb.st.np 21) b__law_no_terms
def r__law_within (E : Y.Ev) : Y.Fn := Y.runF E (tb.st.io 22) 4 (tb.st.np 22) b__law_within
def r__law_fields_right (E : Y.Ev) : Y.Fn := Y.runG (tb.st.io 23) 11 (tb.st.np 23) (Y.evSEs E f__law_every ss__law_fields_right)
def r_law (E : Y.Ev) : Y.Fn := Y.runG (tb.st.io 24) 13 (tb.st.np 24) (Y.evSEs E f__law_every ss_law)
def stL0 (E : Y.Ev) : List Y.Fn := [r_is_whole E, r_is_name E, r_is_kind E, r_cells_of E, r_fits_part E, r_terms_room E, r_term_room E, r_is_term E, r_copied E, r_Function___init__ E, r_Function_told E, r_Book___init__ E, r_Book_names E, r_Book_function E, r_cells E, r__law_cell_at E, r__law_kinds_of E, r__law_refused E, r__law_every E, r__law_deep E, r__law_no_kinds E, r__law_no_terms E, r__law_within E, r__law_fields_right E, r_law E]
def stL1 (E : Y.Ev) : List Y.Fn := [Y.semC lc_0 E, Y.semC lc_1 E, Y.semC lc_2 E, Y.semC lc_3 E, Y.semC lc_4 E, Y.semC lc_5 E, Y.semC lc_6 E, Y.semC lc_7 E, Y.semC lc_8 E]
def stp (E : Y.Ev) (i : Nat) : Y.Fn := (stL0 E ++ stL1 E).getD i (fun _ => none)
theorem lamF_0 : ∃ t x c, Y.lamTab[0]? = some t ∧ (∀ E, stp E 25 = Y.semC c E) ∧ Y.lamB tb.st tb.blt tb.exB t x c := ⟨Y.lamTab.getD 0 Y.lt0, "_law_a", lc_0, by kernel_rfl, fun E => by kernel_rfl, Y.lamB_of (by kernel_rfl) (by kernel_rfl) (fun a b => by kernel_rfl)⟩
theorem lamF_1 : ∃ t x c, Y.lamTab[1]? = some t ∧ (∀ E, stp E 26 = Y.semC c E) ∧ Y.lamB tb.st tb.blt tb.exB t x c := ⟨Y.lamTab.getD 1 Y.lt0, "_law_a", lc_1, by kernel_rfl, fun E => by kernel_rfl, Y.lamB_of (by kernel_rfl) (by kernel_rfl) (fun a b => by kernel_rfl)⟩
theorem lamF_2 : ∃ t x c, Y.lamTab[2]? = some t ∧ (∀ E, stp E 27 = Y.semC c E) ∧ Y.lamB tb.st tb.blt tb.exB t x c := ⟨Y.lamTab.getD 2 Y.lt0, "_law_a", lc_2, by kernel_rfl, fun E => by kernel_rfl, Y.lamB_of (by kernel_rfl) (by kernel_rfl) (fun a b => by kernel_rfl)⟩
theorem lamF_3 : ∃ t x c, Y.lamTab[3]? = some t ∧ (∀ E, stp E 28 = Y.semC c E) ∧ Y.lamB tb.st tb.blt tb.exB t x c := ⟨Y.lamTab.getD 3 Y.lt0, "_law_a", lc_3, by kernel_rfl, fun E => by kernel_rfl, Y.lamB_of (by kernel_rfl) (by kernel_rfl) (fun a b => by kernel_rfl)⟩
theorem lamF_4 : ∃ t x c, Y.lamTab[4]? = some t ∧ (∀ E, stp E 29 = Y.semC c E) ∧ Y.lamB tb.st tb.blt tb.exB t x c := ⟨Y.lamTab.getD 4 Y.lt0, "_law_a", lc_4, by kernel_rfl, fun E => by kernel_rfl, Y.lamB_of (by kernel_rfl) (by kernel_rfl) (fun a b => by kernel_rfl)⟩
theorem lamF_5 : ∃ t x c, Y.lamTab[5]? = some t ∧ (∀ E, stp E 30 = Y.semC c E) ∧ Y.lamB tb.st tb.blt tb.exB t x c := ⟨Y.lamTab.getD 5 Y.lt0, "_law_a", lc_5, by kernel_rfl, fun E => by kernel_rfl, Y.lamB_of (by kernel_rfl) (by kernel_rfl) (fun a b => by kernel_rfl)⟩
theorem lamF_6 : ∃ t x c, Y.lamTab[6]? = some t ∧ (∀ E, stp E 31 = Y.semC c E) ∧ Y.lamB tb.st tb.blt tb.exB t x c := ⟨Y.lamTab.getD 6 Y.lt0, "_law_a", lc_6, by kernel_rfl, fun E => by kernel_rfl, Y.lamB_of (by kernel_rfl) (by kernel_rfl) (fun a b => by kernel_rfl)⟩
theorem lamF_7 : ∃ t x c, Y.lamTab[7]? = some t ∧ (∀ E, stp E 32 = Y.semC c E) ∧ Y.lamB tb.st tb.blt tb.exB t x c := ⟨Y.lamTab.getD 7 Y.lt0, "_law_a", lc_7, by kernel_rfl, fun E => by kernel_rfl, Y.lamB_of (by kernel_rfl) (by kernel_rfl) (fun a b => by kernel_rfl)⟩
theorem lamF_8 : ∃ t x c, Y.lamTab[8]? = some t ∧ (∀ E, stp E 33 = Y.semC c E) ∧ Y.lamB tb.st tb.blt tb.exB t x c := ⟨Y.lamTab.getD 8 Y.lt0, "_law_a", lc_8, by kernel_rfl, fun E => by kernel_rfl, Y.lamB_of (by kernel_rfl) (by kernel_rfl) (fun a b => by kernel_rfl)⟩
theorem hlam : ∀ (i f : Nat), flT[i]? = some f → ∃ t x c, Y.lamTab[i]? = some t ∧ (∀ E, stp E f = Y.semC c E) ∧ Y.lamB tb.st tb.blt tb.exB t x c := fun i f h => match i, h with
 | 0, h => (Option.some.inj (show some 25 = some f from h)) ▸ lamF_0
 | 1, h => (Option.some.inj (show some 26 = some f from h)) ▸ lamF_1
 | 2, h => (Option.some.inj (show some 27 = some f from h)) ▸ lamF_2
 | 3, h => (Option.some.inj (show some 28 = some f from h)) ▸ lamF_3
 | 4, h => (Option.some.inj (show some 29 = some f from h)) ▸ lamF_4
 | 5, h => (Option.some.inj (show some 30 = some f from h)) ▸ lamF_5
 | 6, h => (Option.some.inj (show some 31 = some f from h)) ▸ lamF_6
 | 7, h => (Option.some.inj (show some 32 = some f from h)) ▸ lamF_7
 | 8, h => (Option.some.inj (show some 33 = some f from h)) ▸ lamF_8
 | _ + 9, h => nomatch (show (none : Option Nat) = some f from h)
theorem lam_hd : ∀ t ∈ Y.lamTab, ∀ env, defaultsOf t.params env = ([], []) := Y.hd_of (by kernel_rfl)
section
variable {P : Program} {w : World} {K : PySem.W.Frag} {mg : Str → Option Value} {base : Heap}
abbrev FE (K : PySem.W.Frag) (d : He.DefD) : Prop := ∃ fd, L2.FunD K d.name d.qual d.params d.body d.scope (d.dvs K) (d.kws K) (He.fAd K d.at_) fd
abbrev FF (K : PySem.W.Frag) (d : He.DefD) (p : Y.Pl) : Prop := L2.FunD K d.name d.qual d.params d.body d.scope (d.dvs K) (d.kws K) p.f p.fd
theorem df_is_whole (M : Y.Md P w K mg tb.st tb.blt tb.exB) (h : FE K d_is_whole) : Y.Df P w K mg base tb.st stp 0 (pl K 0) := by
 have F : FF K d_is_whole (pl K 0) := Y.fdOf_ok h
 exact Y.df_core (N := N_is_whole) (nN := 1) (Ss := b_is_whole) M F (Y.fnScB_ok (by kernel_rfl)) (by kernel_rfl) (by kernel_rfl) (Y.binds0 F (by kernel_rfl) (fun _ _ _ _ _ _ us hl => match us, hl with | [_], _ => rfl)) (fun E => by kernel_rfl) c_is_whole
theorem df_is_name (M : Y.Md P w K mg tb.st tb.blt tb.exB) (h : FE K d_is_name) : Y.Df P w K mg base tb.st stp 1 (pl K 1) := by
 have F : FF K d_is_name (pl K 1) := Y.fdOf_ok h
 exact Y.df_core (N := N_is_name) (nN := 2) (Ss := b_is_name) M F (Y.fnScB_ok (by kernel_rfl)) (by kernel_rfl) (by kernel_rfl) (Y.binds0 F (by kernel_rfl) (fun _ _ _ _ _ _ us hl => match us, hl with | [_], _ => rfl)) (fun E => by kernel_rfl) c_is_name
theorem df_is_kind (M : Y.Md P w K mg tb.st tb.blt tb.exB) (h : FE K d_is_kind) : Y.Df P w K mg base tb.st stp 2 (pl K 2) := by
 have F : FF K d_is_kind (pl K 2) := Y.fdOf_ok h
 exact Y.df_core (N := N_is_kind) (nN := 3) (Ss := b_is_kind) M F (Y.fnScB_ok (by kernel_rfl)) (by kernel_rfl) (by kernel_rfl) (Y.binds1d (m := 2) F (by kernel_rfl) (by kernel_rfl) (by kernel_rfl) (fun _ _ _ _ _ _ _ us its hl hi => match us, its, hl, hi with | [_, _], [_], _, _ => ⟨_, rfl, rfl⟩) (fun _ _ _ _ _ _ _ us its hl hi => match us, its, hl, hi with | [_, _, _], [_], _, _ => ⟨_, rfl, rfl⟩)) (fun E => by kernel_rfl) c_is_kind
theorem df_cells_of (M : Y.Md P w K mg tb.st tb.blt tb.exB) (h : FE K d_cells_of) : Y.Df P w K mg base tb.st stp 3 (pl K 3) := by
 have F : FF K d_cells_of (pl K 3) := Y.fdOf_ok h
 exact Y.df_core (N := N_cells_of) (nN := 1) (Ss := b_cells_of) M F (Y.fnScB_ok (by kernel_rfl)) (by kernel_rfl) (by kernel_rfl) (Y.binds0 F (by kernel_rfl) (fun _ _ _ _ _ _ us hl => match us, hl with | [_], _ => rfl)) (fun E => by kernel_rfl) c_cells_of
theorem df_fits_part (M : Y.Md P w K mg tb.st tb.blt tb.exB) (h : FE K d_fits_part) : Y.Df P w K mg base tb.st stp 4 (pl K 4) := by
 have F : FF K d_fits_part (pl K 4) := Y.fdOf_ok h
 exact Y.df_core (N := N_fits_part) (nN := 4) (Ss := b_fits_part) M F (Y.fnScB_ok (by kernel_rfl)) (by kernel_rfl) (by kernel_rfl) (Y.binds0 F (by kernel_rfl) (fun _ _ _ _ _ _ us hl => match us, hl with | [_, _, _], _ => rfl)) (fun E => by kernel_rfl) c_fits_part
theorem df_terms_room (M : Y.Md P w K mg tb.st tb.blt tb.exB) (h : FE K d_terms_room) : Y.Df P w K mg base tb.st stp 5 (pl K 5) := by
 have F : FF K d_terms_room (pl K 5) := Y.fdOf_ok h
 exact Y.df_core (N := N_terms_room) (nN := 5) (Ss := b_terms_room) M F (Y.fnScB_ok (by kernel_rfl)) (by kernel_rfl) (by kernel_rfl) (Y.binds0 F (by kernel_rfl) (fun _ _ _ _ _ _ us hl => match us, hl with | [_, _, _, _], _ => rfl)) (fun E => by kernel_rfl) c_terms_room
theorem df_term_room (M : Y.Md P w K mg tb.st tb.blt tb.exB) (h : FE K d_term_room) : Y.Df P w K mg base tb.st stp 6 (pl K 6) := by
 have F : FF K d_term_room (pl K 6) := Y.fdOf_ok h
 exact Y.df_core (N := N_term_room) (nN := 7) (Ss := b_term_room) M F (Y.fnScB_ok (by kernel_rfl)) (by kernel_rfl) (by kernel_rfl) (Y.binds0 F (by kernel_rfl) (fun _ _ _ _ _ _ us hl => match us, hl with | [_, _, _, _], _ => rfl)) (fun E => by kernel_rfl) c_term_room
theorem df_is_term (M : Y.Md P w K mg tb.st tb.blt tb.exB) (h : FE K d_is_term) : Y.Df P w K mg base tb.st stp 7 (pl K 7) := by
 have F : FF K d_is_term (pl K 7) := Y.fdOf_ok h
 exact Y.df_core (N := N_is_term) (nN := 2) (Ss := b_is_term) M F (Y.fnScB_ok (by kernel_rfl)) (by kernel_rfl) (by kernel_rfl) (Y.binds0 F (by kernel_rfl) (fun _ _ _ _ _ _ us hl => match us, hl with | [_, _], _ => rfl)) (fun E => by kernel_rfl) c_is_term
theorem df_copied (M : Y.Md P w K mg tb.st tb.blt tb.exB) (h : FE K d_copied) : Y.Df P w K mg base tb.st stp 8 (pl K 8) := by
 have F : FF K d_copied (pl K 8) := Y.fdOf_ok h
 exact Y.df_core (N := N_copied) (nN := 2) (Ss := b_copied) M F (Y.fnScB_ok (by kernel_rfl)) (by kernel_rfl) (by kernel_rfl) (Y.binds0 F (by kernel_rfl) (fun _ _ _ _ _ _ us hl => match us, hl with | [_], _ => rfl)) (fun E => by kernel_rfl) c_copied
theorem df_Function___init__ (M : Y.Md P w K mg tb.st tb.blt tb.exB) (h : FE K d_Function___init__) : Y.Df P w K mg base tb.st stp 9 (pl K 9) := by
 have F : FF K d_Function___init__ (pl K 9) := Y.fdOf_ok h
 exact Y.df_core (N := N_Function___init__) (nN := 7) (Ss := b_Function___init__) M F (Y.fnScB_ok (by kernel_rfl)) (by kernel_rfl) (by kernel_rfl) (Y.binds0 F (by kernel_rfl) (fun _ _ _ _ _ _ us hl => match us, hl with | [_, _, _, _, _, _], _ => rfl)) (fun E => by kernel_rfl) c_Function___init__
theorem df_Function_told (M : Y.Md P w K mg tb.st tb.blt tb.exB) (h : FE K d_Function_told) : Y.Df P w K mg base tb.st stp 10 (pl K 10) := by
 have F : FF K d_Function_told (pl K 10) := Y.fdOf_ok h
 exact Y.df_core (N := N_Function_told) (nN := 1) (Ss := b_Function_told) M F (Y.fnScB_ok (by kernel_rfl)) (by kernel_rfl) (by kernel_rfl) (Y.binds0 F (by kernel_rfl) (fun _ _ _ _ _ _ us hl => match us, hl with | [_], _ => rfl)) (fun E => by kernel_rfl) c_Function_told
theorem df_Book___init__ (M : Y.Md P w K mg tb.st tb.blt tb.exB) (h : FE K d_Book___init__) : Y.Df P w K mg base tb.st stp 11 (pl K 11) := by
 have F : FF K d_Book___init__ (pl K 11) := Y.fdOf_ok h
 exact Y.df_ev (N := N_Book___init__) (nN := 3) (ev := ev_Book___init__) M F (Y.fnScB_ok (by kernel_rfl)) (by kernel_rfl) (by kernel_rfl) (Y.binds0 F (by kernel_rfl) (fun _ _ _ _ _ _ us hl => match us, hl with | [_, _], _ => rfl)) (fun E => by kernel_rfl) (fun a b k X R W bg _ _ _ => Y.bookC_ok bg (c_Book___init__ a b))
theorem df_Book_names (M : Y.Md P w K mg tb.st tb.blt tb.exB) (h : FE K d_Book_names) : Y.Df P w K mg base tb.st stp 12 (pl K 12) := by
 have F : FF K d_Book_names (pl K 12) := Y.fdOf_ok h
 exact Y.df_core (N := N_Book_names) (nN := 1) (Ss := b_Book_names) M F (Y.fnScB_ok (by kernel_rfl)) (by kernel_rfl) (by kernel_rfl) (Y.binds0 F (by kernel_rfl) (fun _ _ _ _ _ _ us hl => match us, hl with | [_], _ => rfl)) (fun E => by kernel_rfl) c_Book_names
theorem df_Book_function (M : Y.Md P w K mg tb.st tb.blt tb.exB) (h : FE K d_Book_function) : Y.Df P w K mg base tb.st stp 13 (pl K 13) := by
 have F : FF K d_Book_function (pl K 13) := Y.fdOf_ok h
 exact Y.df_core (N := N_Book_function) (nN := 2) (Ss := b_Book_function) M F (Y.fnScB_ok (by kernel_rfl)) (by kernel_rfl) (by kernel_rfl) (Y.binds0 F (by kernel_rfl) (fun _ _ _ _ _ _ us hl => match us, hl with | [_, _], _ => rfl)) (fun E => by kernel_rfl) c_Book_function
theorem df_cells (M : Y.Md P w K mg tb.st tb.blt tb.exB) (h : FE K d_cells) : Y.Df P w K mg base tb.st stp 14 (pl K 14) := by
 have F : FF K d_cells (pl K 14) := Y.fdOf_ok h
 exact Y.df_core (N := N_cells) (nN := 1) (Ss := b_cells) M F (Y.fnScB_ok (by kernel_rfl)) (by kernel_rfl) (by kernel_rfl) (Y.binds0 F (by kernel_rfl) (fun _ _ _ _ _ _ us hl => match us, hl with | [_], _ => rfl)) (fun E => by kernel_rfl) c_cells
theorem df__law_cell_at (M : Y.Md P w K mg tb.st tb.blt tb.exB) (h : FE K d__law_cell_at) : Y.Df P w K mg base tb.st stp 15 (pl K 15) := by
 have F : FF K d__law_cell_at (pl K 15) := Y.fdOf_ok h
 exact Y.df_core (N := N__law_cell_at) (nN := 2) (Ss := b__law_cell_at) M F (Y.fnScB_ok (by kernel_rfl)) (by kernel_rfl) (by kernel_rfl) (Y.binds0 F (by kernel_rfl) (fun _ _ _ _ _ _ us hl => match us, hl with | [_, _], _ => rfl)) (fun E => by kernel_rfl) c__law_cell_at
theorem df__law_kinds_of (M : Y.Md P w K mg tb.st tb.blt tb.exB) (h : FE K d__law_kinds_of) : Y.Df P w K mg base tb.st stp 16 (pl K 16) := by
 have F : FF K d__law_kinds_of (pl K 16) := Y.fdOf_ok h
 exact Y.df_core (N := N__law_kinds_of) (nN := 2) (Ss := b__law_kinds_of) M F (Y.fnScB_ok (by kernel_rfl)) (by kernel_rfl) (by kernel_rfl) (Y.binds0 F (by kernel_rfl) (fun _ _ _ _ _ _ us hl => match us, hl with | [_], _ => rfl)) (fun E => by kernel_rfl) c__law_kinds_of
theorem df__law_refused (KD : Y.KdF K mg tb.st tb.blt "_law_kinds_of" (pl K 16).f (pl K 16).fd b__law_kinds_of 2) (ok : Y.TryOkX K "MakingError" fun c => hsT.contains c) (M : Y.Md P w K mg tb.st tb.blt tb.exB) (h : FE K d__law_refused) : Y.Df P w K mg base tb.st stp 17 (pl K 17) := by
 have F : FF K d__law_refused (pl K 17) := Y.fdOf_ok h
 exact Y.df_ref (N := N__law_refused) (nN := 6) M F (Y.fnScB_ok (by kernel_rfl)) (by kernel_rfl) (by kernel_rfl) (Y.binds0 F (by kernel_rfl) (fun _ _ _ _ _ _ us hl => match us, hl with | [_, _, _], _ => rfl)) (fun E => by kernel_rfl) KD ok hlam c__law_refused
theorem df__law_every (M : Y.Md P w K mg tb.st tb.blt tb.exB) (h : FE K d__law_every) : Y.Df P w K mg base tb.st stp 18 (pl K 18) := by
 have F : FF K d__law_every (pl K 18) := Y.fdOf_ok h
 exact Y.df_core (N := N__law_every) (nN := 5) (Ss := b__law_every) M F (Y.fnScB_ok (by kernel_rfl)) (by kernel_rfl) (by kernel_rfl) (Y.binds0 F (by kernel_rfl) (fun _ _ _ _ _ _ us hl => match us, hl with | [_, _, _], _ => rfl)) (fun E => by kernel_rfl) c__law_every
theorem df__law_deep (M : Y.Md P w K mg tb.st tb.blt tb.exB) (h : FE K d__law_deep) : Y.Df P w K mg base tb.st stp 19 (pl K 19) := by
 have F : FF K d__law_deep (pl K 19) := Y.fdOf_ok h
 exact Y.df_core (N := N__law_deep) (nN := 3) (Ss := b__law_deep) M F (Y.fnScB_ok (by kernel_rfl)) (by kernel_rfl) (by kernel_rfl) (Y.binds0 F (by kernel_rfl) (fun _ _ _ _ _ _ us hl => match us, hl with | [_], _ => rfl)) (fun E => by kernel_rfl) c__law_deep
theorem df__law_no_kinds (M : Y.Md P w K mg tb.st tb.blt tb.exB) (h : FE K d__law_no_kinds) : Y.Df P w K mg base tb.st stp 20 (pl K 20) := by
 have F : FF K d__law_no_kinds (pl K 20) := Y.fdOf_ok h
 exact Y.df_core (N := N__law_no_kinds) (nN := 2) (Ss := b__law_no_kinds) M F (Y.fnScB_ok (by kernel_rfl)) (by kernel_rfl) (by kernel_rfl) (Y.binds0 F (by kernel_rfl) (fun _ _ _ _ _ _ us hl => match us, hl with | [_], _ => rfl)) (fun E => by kernel_rfl) c__law_no_kinds
theorem df__law_no_terms (M : Y.Md P w K mg tb.st tb.blt tb.exB) (h : FE K d__law_no_terms) : Y.Df P w K mg base tb.st stp 21 (pl K 21) := by
 have F : FF K d__law_no_terms (pl K 21) := Y.fdOf_ok h
 exact Y.df_core (N := N__law_no_terms) (nN := 5) (Ss := b__law_no_terms) M F (Y.fnScB_ok (by kernel_rfl)) (by kernel_rfl) (by kernel_rfl) (Y.binds0 F (by kernel_rfl) (fun _ _ _ _ _ _ us hl => match us, hl with | [_], _ => rfl)) (fun E => by kernel_rfl) c__law_no_terms
theorem df__law_within (M : Y.Md P w K mg tb.st tb.blt tb.exB) (h : FE K d__law_within) : Y.Df P w K mg base tb.st stp 22 (pl K 22) := by
 have F : FF K d__law_within (pl K 22) := Y.fdOf_ok h
 exact Y.df_core (N := N__law_within) (nN := 4) (Ss := b__law_within) M F (Y.fnScB_ok (by kernel_rfl)) (by kernel_rfl) (by kernel_rfl) (Y.binds0 F (by kernel_rfl) (fun _ _ _ _ _ _ us hl => match us, hl with | [_, _], _ => rfl)) (fun E => by kernel_rfl) c__law_within
theorem df__law_fields_right (TB : LamX.TabB base mg (He.cT K ("_law_fields_right", none)).1 (He.cT K ("_law_fields_right", none)).2) (hT : Y.tabC K "_law_fields_right" = true) (M : Y.Md P w K mg tb.st tb.blt tb.exB) (h : FE K d__law_fields_right) : Y.Df P w K mg base tb.st stp 23 (pl K 23) := by
 have F : FF K d__law_fields_right (pl K 23) := Y.fdOf_ok h
 exact Y.df_se (N := N__law_fields_right) (nN := 11) (fe := f__law_every) (m := 2) (ss := ss__law_fields_right) M F rfl (Y.fnScB_ok (by kernel_rfl)) (by kernel_rfl) (by kernel_rfl) (Y.binds0 F (by kernel_rfl) (fun _ _ _ _ _ _ us hl => match us, hl with | [_], _ => rfl)) (fun E => by kernel_rfl) (by kernel_rfl) TB hT lam_hd e__law_fields_right c__law_fields_right l__law_fields_right
theorem df_law (TB : LamX.TabB base mg (He.cT K ("law", none)).1 (He.cT K ("law", none)).2) (hT : Y.tabC K "law" = true) (M : Y.Md P w K mg tb.st tb.blt tb.exB) (h : FE K d_law) : Y.Df P w K mg base tb.st stp 24 (pl K 24) := by
 have F : FF K d_law (pl K 24) := Y.fdOf_ok h
 exact Y.df_se (N := N_law) (nN := 13) (fe := f__law_every) (m := 2) (ss := ss_law) M F rfl (Y.fnScB_ok (by kernel_rfl)) (by kernel_rfl) (by kernel_rfl) (Y.binds0 F (by kernel_rfl) (fun _ _ _ _ _ _ us hl => match us, hl with | [_], _ => rfl)) (fun E => by kernel_rfl) (by kernel_rfl) TB hT lam_hd e_law c_law l_law
end
end Hd
namespace Hd
open PySem PySem.Spec L2
def sm : Nat → Nat → Y.Fn := Y.sem tb.st stp
def En (k : Nat) : Y.Ev := Y.mkE tb.st (sm (k + 1)) (sm k)
@[simp] theorem En_fn (k f : Nat) : (En k).fn f = sm (k + 1) f := rfl
@[simp] theorem En_fm (k f : Nat) : (En k).fm f = sm k f := rfl
@[simp] theorem io_is_whole (k : Nat) : (En k).io f_is_whole = none := by kernel_rfl
@[simp] theorem np_is_whole (k : Nat) : (En k).np f_is_whole = 1 := by kernel_rfl
@[simp] theorem more_is_whole (k : Nat) : Y.moreOf (En k) f_is_whole 1 = [] := by kernel_rfl
@[simp] theorem io_is_name (k : Nat) : (En k).io f_is_name = none := by kernel_rfl
@[simp] theorem np_is_name (k : Nat) : (En k).np f_is_name = 1 := by kernel_rfl
@[simp] theorem more_is_name (k : Nat) : Y.moreOf (En k) f_is_name 1 = [] := by kernel_rfl
theorem sem_is_kind (k : Nat) (as : List Y.D) : sm (k + 2) f_is_kind as = Y.runF (En k) none 3 3 b_is_kind as := by kernel_rfl
@[simp] theorem io_is_kind (k : Nat) : (En k).io f_is_kind = none := by kernel_rfl
@[simp] theorem np_is_kind (k : Nat) : (En k).np f_is_kind = 3 := by kernel_rfl
@[simp] theorem more_is_kind (k : Nat) : Y.moreOf (En k) f_is_kind 3 = [] := by kernel_rfl
@[simp] theorem more1_is_kind (k : Nat) : Y.moreOf (En k) f_is_kind 2 = [.int 4] := by kernel_rfl
@[simp] theorem io_cells_of (k : Nat) : (En k).io f_cells_of = none := by kernel_rfl
@[simp] theorem np_cells_of (k : Nat) : (En k).np f_cells_of = 1 := by kernel_rfl
@[simp] theorem more_cells_of (k : Nat) : Y.moreOf (En k) f_cells_of 1 = [] := by kernel_rfl
theorem sem_fits_part (k : Nat) (as : List Y.D) : sm (k + 2) f_fits_part as = Y.runF (En k) none 4 3 b_fits_part as := by kernel_rfl
@[simp] theorem io_fits_part (k : Nat) : (En k).io f_fits_part = none := by kernel_rfl
@[simp] theorem np_fits_part (k : Nat) : (En k).np f_fits_part = 3 := by kernel_rfl
@[simp] theorem more_fits_part (k : Nat) : Y.moreOf (En k) f_fits_part 3 = [] := by kernel_rfl
theorem sem_terms_room (k : Nat) (as : List Y.D) : sm (k + 2) f_terms_room as = Y.runF (En k) none 5 4 b_terms_room as := by kernel_rfl
@[simp] theorem io_terms_room (k : Nat) : (En k).io f_terms_room = none := by kernel_rfl
@[simp] theorem np_terms_room (k : Nat) : (En k).np f_terms_room = 4 := by kernel_rfl
@[simp] theorem more_terms_room (k : Nat) : Y.moreOf (En k) f_terms_room 4 = [] := by kernel_rfl
theorem sem_term_room (k : Nat) (as : List Y.D) : sm (k + 2) f_term_room as = Y.runF (En k) none 7 4 b_term_room as := by kernel_rfl
@[simp] theorem io_term_room (k : Nat) : (En k).io f_term_room = none := by kernel_rfl
@[simp] theorem np_term_room (k : Nat) : (En k).np f_term_room = 4 := by kernel_rfl
@[simp] theorem more_term_room (k : Nat) : Y.moreOf (En k) f_term_room 4 = [] := by kernel_rfl
theorem sem_is_term (k : Nat) (as : List Y.D) : sm (k + 2) f_is_term as = Y.runF (En k) none 2 2 b_is_term as := by kernel_rfl
@[simp] theorem io_is_term (k : Nat) : (En k).io f_is_term = none := by kernel_rfl
@[simp] theorem np_is_term (k : Nat) : (En k).np f_is_term = 2 := by kernel_rfl
@[simp] theorem more_is_term (k : Nat) : Y.moreOf (En k) f_is_term 2 = [] := by kernel_rfl
@[simp] theorem io_copied (k : Nat) : (En k).io f_copied = none := by kernel_rfl
@[simp] theorem np_copied (k : Nat) : (En k).np f_copied = 1 := by kernel_rfl
@[simp] theorem more_copied (k : Nat) : Y.moreOf (En k) f_copied 1 = [] := by kernel_rfl
theorem sem_Function___init__ (k : Nat) (as : List Y.D) : sm (k + 2) f_Function___init__ as = Y.runF (En k) (some 0) 7 6 b_Function___init__ as := by kernel_rfl
@[simp] theorem io_Function___init__ (k : Nat) : (En k).io f_Function___init__ = (some 0) := by kernel_rfl
@[simp] theorem np_Function___init__ (k : Nat) : (En k).np f_Function___init__ = 6 := by kernel_rfl
@[simp] theorem more_Function___init__ (k : Nat) : Y.moreOf (En k) f_Function___init__ 6 = [] := by kernel_rfl
@[simp] theorem io_Function_told (k : Nat) : (En k).io f_Function_told = none := by kernel_rfl
@[simp] theorem np_Function_told (k : Nat) : (En k).np f_Function_told = 1 := by kernel_rfl
@[simp] theorem more_Function_told (k : Nat) : Y.moreOf (En k) f_Function_told 1 = [] := by kernel_rfl
@[simp] theorem io_Book___init__ (k : Nat) : (En k).io f_Book___init__ = (some 0) := by kernel_rfl
@[simp] theorem np_Book___init__ (k : Nat) : (En k).np f_Book___init__ = 2 := by kernel_rfl
@[simp] theorem more_Book___init__ (k : Nat) : Y.moreOf (En k) f_Book___init__ 2 = [] := by kernel_rfl
@[simp] theorem io_Book_names (k : Nat) : (En k).io f_Book_names = none := by kernel_rfl
@[simp] theorem np_Book_names (k : Nat) : (En k).np f_Book_names = 1 := by kernel_rfl
@[simp] theorem more_Book_names (k : Nat) : Y.moreOf (En k) f_Book_names 1 = [] := by kernel_rfl
@[simp] theorem io_Book_function (k : Nat) : (En k).io f_Book_function = none := by kernel_rfl
@[simp] theorem np_Book_function (k : Nat) : (En k).np f_Book_function = 2 := by kernel_rfl
@[simp] theorem more_Book_function (k : Nat) : Y.moreOf (En k) f_Book_function 2 = [] := by kernel_rfl
@[simp] theorem io_cells (k : Nat) : (En k).io f_cells = none := by kernel_rfl
@[simp] theorem np_cells (k : Nat) : (En k).np f_cells = 1 := by kernel_rfl
@[simp] theorem more_cells (k : Nat) : Y.moreOf (En k) f_cells 1 = [] := by kernel_rfl
@[simp] theorem io__law_cell_at (k : Nat) : (En k).io f__law_cell_at = none := by kernel_rfl
@[simp] theorem np__law_cell_at (k : Nat) : (En k).np f__law_cell_at = 2 := by kernel_rfl
@[simp] theorem more__law_cell_at (k : Nat) : Y.moreOf (En k) f__law_cell_at 2 = [] := by kernel_rfl
@[simp] theorem io__law_kinds_of (k : Nat) : (En k).io f__law_kinds_of = none := by kernel_rfl
@[simp] theorem np__law_kinds_of (k : Nat) : (En k).np f__law_kinds_of = 1 := by kernel_rfl
@[simp] theorem more__law_kinds_of (k : Nat) : Y.moreOf (En k) f__law_kinds_of 1 = [] := by kernel_rfl
theorem sem__law_refused (k : Nat) (as : List Y.D) : sm (k + 2) f__law_refused as = Y.runG none 6 3 ((Y.evRef s0__law_refused s2__law_refused flT b__law_kinds_of 2 0 1 3 4 hsT) (En k)) as := by kernel_rfl
@[simp] theorem io__law_refused (k : Nat) : (En k).io f__law_refused = none := by kernel_rfl
@[simp] theorem np__law_refused (k : Nat) : (En k).np f__law_refused = 3 := by kernel_rfl
@[simp] theorem more__law_refused (k : Nat) : Y.moreOf (En k) f__law_refused 3 = [] := by kernel_rfl
theorem sem__law_every (k : Nat) (as : List Y.D) : sm (k + 2) f__law_every as = Y.runF (En k) none 5 3 b__law_every as := by kernel_rfl
@[simp] theorem io__law_every (k : Nat) : (En k).io f__law_every = none := by kernel_rfl
@[simp] theorem np__law_every (k : Nat) : (En k).np f__law_every = 3 := by kernel_rfl
@[simp] theorem more__law_every (k : Nat) : Y.moreOf (En k) f__law_every 3 = [] := by kernel_rfl
@[simp] theorem io__law_deep (k : Nat) : (En k).io f__law_deep = none := by kernel_rfl
@[simp] theorem np__law_deep (k : Nat) : (En k).np f__law_deep = 1 := by kernel_rfl
@[simp] theorem more__law_deep (k : Nat) : Y.moreOf (En k) f__law_deep 1 = [] := by kernel_rfl
@[simp] theorem io__law_no_kinds (k : Nat) : (En k).io f__law_no_kinds = none := by kernel_rfl
@[simp] theorem np__law_no_kinds (k : Nat) : (En k).np f__law_no_kinds = 1 := by kernel_rfl
@[simp] theorem more__law_no_kinds (k : Nat) : Y.moreOf (En k) f__law_no_kinds 1 = [] := by kernel_rfl
@[simp] theorem io__law_no_terms (k : Nat) : (En k).io f__law_no_terms = none := by kernel_rfl
@[simp] theorem np__law_no_terms (k : Nat) : (En k).np f__law_no_terms = 1 := by kernel_rfl
@[simp] theorem more__law_no_terms (k : Nat) : Y.moreOf (En k) f__law_no_terms 1 = [] := by kernel_rfl
theorem sem__law_within (k : Nat) (as : List Y.D) : sm (k + 2) f__law_within as = Y.runF (En k) none 4 2 b__law_within as := by kernel_rfl
@[simp] theorem io__law_within (k : Nat) : (En k).io f__law_within = none := by kernel_rfl
@[simp] theorem np__law_within (k : Nat) : (En k).np f__law_within = 2 := by kernel_rfl
@[simp] theorem more__law_within (k : Nat) : Y.moreOf (En k) f__law_within 2 = [] := by kernel_rfl
theorem sem__law_fields_right (k : Nat) (as : List Y.D) : sm (k + 2) f__law_fields_right as = Y.runG none 11 1 (Y.evSEs (En k) f__law_every ss__law_fields_right) as := by kernel_rfl
@[simp] theorem io__law_fields_right (k : Nat) : (En k).io f__law_fields_right = none := by kernel_rfl
@[simp] theorem np__law_fields_right (k : Nat) : (En k).np f__law_fields_right = 1 := by kernel_rfl
@[simp] theorem more__law_fields_right (k : Nat) : Y.moreOf (En k) f__law_fields_right 1 = [] := by kernel_rfl
theorem sem_law (k : Nat) (as : List Y.D) : sm (k + 2) f_law as = Y.runG none 13 1 (Y.evSEs (En k) f__law_every ss_law) as := by kernel_rfl
@[simp] theorem io_law (k : Nat) : (En k).io f_law = none := by kernel_rfl
@[simp] theorem np_law (k : Nat) : (En k).np f_law = 1 := by kernel_rfl
@[simp] theorem more_law (k : Nat) : Y.moreOf (En k) f_law 1 = [] := by kernel_rfl
theorem sem_lc_1 (k : Nat) (as : List Y.D) : sm (k + 2) 26 as = Y.semC lc_1 (En k) as := by kernel_rfl
theorem sem_lc_2 (k : Nat) (as : List Y.D) : sm (k + 2) 27 as = Y.semC lc_2 (En k) as := by kernel_rfl
theorem sem_lc_3 (k : Nat) (as : List Y.D) : sm (k + 2) 28 as = Y.semC lc_3 (En k) as := by kernel_rfl
theorem sem_lc_4 (k : Nat) (as : List Y.D) : sm (k + 2) 29 as = Y.semC lc_4 (En k) as := by kernel_rfl
@[simp] theorem att_Function_name (k : Nat) : (En k).att "Function" "name" = true := by kernel_rfl
@[simp] theorem att_Function_opens (k : Nat) : (En k).att "Function" "opens" = true := by kernel_rfl
@[simp] theorem att_Function_takes (k : Nat) : (En k).att "Function" "takes" = true := by kernel_rfl
@[simp] theorem att_Function_gives (k : Nat) : (En k).att "Function" "gives" = true := by kernel_rfl
@[simp] theorem att_Function_body (k : Nat) : (En k).att "Function" "body" = true := by kernel_rfl
@[simp] theorem att_Book_table (k : Nat) : (En k).att "Book" "table" = true := by kernel_rfl
@[simp] theorem con_LETTERS (k : Nat) : (En k).con "LETTERS" = some (.str "abcdefghijklmnopqrstuvwxyz") := by kernel_rfl
@[simp] theorem con_MOST_TERMS (k : Nat) : (En k).con "MOST_TERMS" = some (.int 40) := by kernel_rfl
@[simp] theorem con_DEEPEST_TERM (k : Nat) : (En k).con "DEEPEST_TERM" = some (.int 6) := by kernel_rfl
@[simp] theorem con_MOST_OPENS (k : Nat) : (En k).con "MOST_OPENS" = some (.int 2) := by kernel_rfl
@[simp] theorem con_MOST_TAKES (k : Nat) : (En k).con "MOST_TAKES" = some (.int 3) := by kernel_rfl
@[simp] theorem con_MOST_FUNCTIONS (k : Nat) : (En k).con "MOST_FUNCTIONS" = some (.int 8) := by kernel_rfl
@[simp] theorem ini_Function (k : Nat) : (En k).ini "Function" = some f_Function___init__ := by kernel_rfl
@[simp] theorem mt_Function_told (k : Nat) : (En k).mt "Function" "told" = some f_Function_told := by kernel_rfl
@[simp] theorem ini_Book (k : Nat) : (En k).ini "Book" = some f_Book___init__ := by kernel_rfl
@[simp] theorem mt_Book_names (k : Nat) : (En k).mt "Book" "names" = some f_Book_names := by kernel_rfl
@[simp] theorem mt_Book_function (k : Nat) : (En k).mt "Book" "function" = some f_Book_function := by kernel_rfl
@[simp] theorem isi0 (k : Nat) : (En k).isi (.inl "NoneType") (.cls "Function") = some false := by kernel_rfl
@[simp] theorem isi1 (k : Nat) : (En k).isi (.inl "bool") (.cls "Function") = some false := by kernel_rfl
@[simp] theorem isi2 (k : Nat) : (En k).isi (.inl "int") (.cls "Function") = some false := by kernel_rfl
@[simp] theorem isi3 (k : Nat) : (En k).isi (.inl "str") (.cls "Function") = some false := by kernel_rfl
@[simp] theorem isi4 (k : Nat) : (En k).isi (.inl "list") (.cls "Function") = some false := by kernel_rfl
@[simp] theorem isi5 (k : Nat) : (En k).isi (.inl "tuple") (.cls "Function") = some false := by kernel_rfl
@[simp] theorem isi6 (k : Nat) : (En k).isi (.inl "dict") (.cls "Function") = some false := by kernel_rfl
@[simp] theorem isi7 (k : Nat) : (En k).isi (.inr "Function") (.cls "Function") = some true := by kernel_rfl
@[simp] theorem isi8 (k : Nat) : (En k).isi (.inr "Book") (.cls "Function") = some false := by kernel_rfl
@[simp] theorem isi9 (k : Nat) : (En k).isi (.inl "NoneType") (.cls "BadFunction") = some false := by kernel_rfl
@[simp] theorem isi10 (k : Nat) : (En k).isi (.inl "bool") (.cls "BadFunction") = some false := by kernel_rfl
@[simp] theorem isi11 (k : Nat) : (En k).isi (.inl "int") (.cls "BadFunction") = some false := by kernel_rfl
@[simp] theorem isi12 (k : Nat) : (En k).isi (.inl "str") (.cls "BadFunction") = some false := by kernel_rfl
@[simp] theorem isi13 (k : Nat) : (En k).isi (.inl "list") (.cls "BadFunction") = some false := by kernel_rfl
@[simp] theorem isi14 (k : Nat) : (En k).isi (.inl "tuple") (.cls "BadFunction") = some false := by kernel_rfl
@[simp] theorem isi15 (k : Nat) : (En k).isi (.inl "dict") (.cls "BadFunction") = some false := by kernel_rfl
@[simp] theorem isi16 (k : Nat) : (En k).isi (.inr "Function") (.cls "BadFunction") = some false := by kernel_rfl
@[simp] theorem isi17 (k : Nat) : (En k).isi (.inr "Book") (.cls "BadFunction") = some false := by kernel_rfl
@[simp] theorem isi18 (k : Nat) : (En k).isi (.inl "NoneType") (.cls "BadBook") = some false := by kernel_rfl
@[simp] theorem isi19 (k : Nat) : (En k).isi (.inl "bool") (.cls "BadBook") = some false := by kernel_rfl
@[simp] theorem isi20 (k : Nat) : (En k).isi (.inl "int") (.cls "BadBook") = some false := by kernel_rfl
@[simp] theorem isi21 (k : Nat) : (En k).isi (.inl "str") (.cls "BadBook") = some false := by kernel_rfl
@[simp] theorem isi22 (k : Nat) : (En k).isi (.inl "list") (.cls "BadBook") = some false := by kernel_rfl
@[simp] theorem isi23 (k : Nat) : (En k).isi (.inl "tuple") (.cls "BadBook") = some false := by kernel_rfl
@[simp] theorem isi24 (k : Nat) : (En k).isi (.inl "dict") (.cls "BadBook") = some false := by kernel_rfl
@[simp] theorem isi25 (k : Nat) : (En k).isi (.inr "Function") (.cls "BadBook") = some false := by kernel_rfl
@[simp] theorem isi26 (k : Nat) : (En k).isi (.inr "Book") (.cls "BadBook") = some false := by kernel_rfl
@[simp] theorem isi27 (k : Nat) : (En k).isi (.inl "NoneType") (.cls "BadName") = some false := by kernel_rfl
@[simp] theorem isi28 (k : Nat) : (En k).isi (.inl "bool") (.cls "BadName") = some false := by kernel_rfl
@[simp] theorem isi29 (k : Nat) : (En k).isi (.inl "int") (.cls "BadName") = some false := by kernel_rfl
@[simp] theorem isi30 (k : Nat) : (En k).isi (.inl "str") (.cls "BadName") = some false := by kernel_rfl
@[simp] theorem isi31 (k : Nat) : (En k).isi (.inl "list") (.cls "BadName") = some false := by kernel_rfl
@[simp] theorem isi32 (k : Nat) : (En k).isi (.inl "tuple") (.cls "BadName") = some false := by kernel_rfl
@[simp] theorem isi33 (k : Nat) : (En k).isi (.inl "dict") (.cls "BadName") = some false := by kernel_rfl
@[simp] theorem isi34 (k : Nat) : (En k).isi (.inr "Function") (.cls "BadName") = some false := by kernel_rfl
@[simp] theorem isi35 (k : Nat) : (En k).isi (.inr "Book") (.cls "BadName") = some false := by kernel_rfl
@[simp] theorem isi36 (k : Nat) : (En k).isi (.inl "NoneType") (.cls "BadKinds") = some false := by kernel_rfl
@[simp] theorem isi37 (k : Nat) : (En k).isi (.inl "bool") (.cls "BadKinds") = some false := by kernel_rfl
@[simp] theorem isi38 (k : Nat) : (En k).isi (.inl "int") (.cls "BadKinds") = some false := by kernel_rfl
@[simp] theorem isi39 (k : Nat) : (En k).isi (.inl "str") (.cls "BadKinds") = some false := by kernel_rfl
@[simp] theorem isi40 (k : Nat) : (En k).isi (.inl "list") (.cls "BadKinds") = some false := by kernel_rfl
@[simp] theorem isi41 (k : Nat) : (En k).isi (.inl "tuple") (.cls "BadKinds") = some false := by kernel_rfl
@[simp] theorem isi42 (k : Nat) : (En k).isi (.inl "dict") (.cls "BadKinds") = some false := by kernel_rfl
@[simp] theorem isi43 (k : Nat) : (En k).isi (.inr "Function") (.cls "BadKinds") = some false := by kernel_rfl
@[simp] theorem isi44 (k : Nat) : (En k).isi (.inr "Book") (.cls "BadKinds") = some false := by kernel_rfl
@[simp] theorem isi45 (k : Nat) : (En k).isi (.inl "NoneType") (.cls "BadWorths") = some false := by kernel_rfl
@[simp] theorem isi46 (k : Nat) : (En k).isi (.inl "bool") (.cls "BadWorths") = some false := by kernel_rfl
@[simp] theorem isi47 (k : Nat) : (En k).isi (.inl "int") (.cls "BadWorths") = some false := by kernel_rfl
@[simp] theorem isi48 (k : Nat) : (En k).isi (.inl "str") (.cls "BadWorths") = some false := by kernel_rfl
@[simp] theorem isi49 (k : Nat) : (En k).isi (.inl "list") (.cls "BadWorths") = some false := by kernel_rfl
@[simp] theorem isi50 (k : Nat) : (En k).isi (.inl "tuple") (.cls "BadWorths") = some false := by kernel_rfl
@[simp] theorem isi51 (k : Nat) : (En k).isi (.inl "dict") (.cls "BadWorths") = some false := by kernel_rfl
@[simp] theorem isi52 (k : Nat) : (En k).isi (.inr "Function") (.cls "BadWorths") = some false := by kernel_rfl
@[simp] theorem isi53 (k : Nat) : (En k).isi (.inr "Book") (.cls "BadWorths") = some false := by kernel_rfl
@[simp] theorem isi54 (k : Nat) : (En k).isi (.inl "NoneType") (.cls "BadMost") = some false := by kernel_rfl
@[simp] theorem isi55 (k : Nat) : (En k).isi (.inl "bool") (.cls "BadMost") = some false := by kernel_rfl
@[simp] theorem isi56 (k : Nat) : (En k).isi (.inl "int") (.cls "BadMost") = some false := by kernel_rfl
@[simp] theorem isi57 (k : Nat) : (En k).isi (.inl "str") (.cls "BadMost") = some false := by kernel_rfl
@[simp] theorem isi58 (k : Nat) : (En k).isi (.inl "list") (.cls "BadMost") = some false := by kernel_rfl
@[simp] theorem isi59 (k : Nat) : (En k).isi (.inl "tuple") (.cls "BadMost") = some false := by kernel_rfl
@[simp] theorem isi60 (k : Nat) : (En k).isi (.inl "dict") (.cls "BadMost") = some false := by kernel_rfl
@[simp] theorem isi61 (k : Nat) : (En k).isi (.inr "Function") (.cls "BadMost") = some false := by kernel_rfl
@[simp] theorem isi62 (k : Nat) : (En k).isi (.inr "Book") (.cls "BadMost") = some false := by kernel_rfl
@[simp] theorem isi63 (k : Nat) : (En k).isi (.inl "NoneType") (.cls "Unfit") = some false := by kernel_rfl
@[simp] theorem isi64 (k : Nat) : (En k).isi (.inl "bool") (.cls "Unfit") = some false := by kernel_rfl
@[simp] theorem isi65 (k : Nat) : (En k).isi (.inl "int") (.cls "Unfit") = some false := by kernel_rfl
@[simp] theorem isi66 (k : Nat) : (En k).isi (.inl "str") (.cls "Unfit") = some false := by kernel_rfl
@[simp] theorem isi67 (k : Nat) : (En k).isi (.inl "list") (.cls "Unfit") = some false := by kernel_rfl
@[simp] theorem isi68 (k : Nat) : (En k).isi (.inl "tuple") (.cls "Unfit") = some false := by kernel_rfl
@[simp] theorem isi69 (k : Nat) : (En k).isi (.inl "dict") (.cls "Unfit") = some false := by kernel_rfl
@[simp] theorem isi70 (k : Nat) : (En k).isi (.inr "Function") (.cls "Unfit") = some false := by kernel_rfl
@[simp] theorem isi71 (k : Nat) : (En k).isi (.inr "Book") (.cls "Unfit") = some false := by kernel_rfl
@[simp] theorem isi72 (k : Nat) : (En k).isi (.inl "NoneType") (.cls "TooMany") = some false := by kernel_rfl
@[simp] theorem isi73 (k : Nat) : (En k).isi (.inl "bool") (.cls "TooMany") = some false := by kernel_rfl
@[simp] theorem isi74 (k : Nat) : (En k).isi (.inl "int") (.cls "TooMany") = some false := by kernel_rfl
@[simp] theorem isi75 (k : Nat) : (En k).isi (.inl "str") (.cls "TooMany") = some false := by kernel_rfl
@[simp] theorem isi76 (k : Nat) : (En k).isi (.inl "list") (.cls "TooMany") = some false := by kernel_rfl
@[simp] theorem isi77 (k : Nat) : (En k).isi (.inl "tuple") (.cls "TooMany") = some false := by kernel_rfl
@[simp] theorem isi78 (k : Nat) : (En k).isi (.inl "dict") (.cls "TooMany") = some false := by kernel_rfl
@[simp] theorem isi79 (k : Nat) : (En k).isi (.inr "Function") (.cls "TooMany") = some false := by kernel_rfl
@[simp] theorem isi80 (k : Nat) : (En k).isi (.inr "Book") (.cls "TooMany") = some false := by kernel_rfl
@[simp] theorem isi81 (k : Nat) : (En k).isi (.inl "NoneType") (.cls "Unending") = some false := by kernel_rfl
@[simp] theorem isi82 (k : Nat) : (En k).isi (.inl "bool") (.cls "Unending") = some false := by kernel_rfl
@[simp] theorem isi83 (k : Nat) : (En k).isi (.inl "int") (.cls "Unending") = some false := by kernel_rfl
@[simp] theorem isi84 (k : Nat) : (En k).isi (.inl "str") (.cls "Unending") = some false := by kernel_rfl
@[simp] theorem isi85 (k : Nat) : (En k).isi (.inl "list") (.cls "Unending") = some false := by kernel_rfl
@[simp] theorem isi86 (k : Nat) : (En k).isi (.inl "tuple") (.cls "Unending") = some false := by kernel_rfl
@[simp] theorem isi87 (k : Nat) : (En k).isi (.inl "dict") (.cls "Unending") = some false := by kernel_rfl
@[simp] theorem isi88 (k : Nat) : (En k).isi (.inr "Function") (.cls "Unending") = some false := by kernel_rfl
@[simp] theorem isi89 (k : Nat) : (En k).isi (.inr "Book") (.cls "Unending") = some false := by kernel_rfl
@[simp] theorem isi90 (k : Nat) : (En k).isi (.inr "Function") (.ty "int") = some false := by kernel_rfl
@[simp] theorem isi91 (k : Nat) : (En k).isi (.inr "Function") (.ty "bool") = some false := by kernel_rfl
@[simp] theorem isi92 (k : Nat) : (En k).isi (.inr "Function") (.ty "str") = some false := by kernel_rfl
@[simp] theorem isi93 (k : Nat) : (En k).isi (.inr "Function") (.ty "list") = some false := by kernel_rfl
@[simp] theorem isi94 (k : Nat) : (En k).isi (.inr "Function") (.ty "tuple") = some false := by kernel_rfl
@[simp] theorem isi95 (k : Nat) : (En k).isi (.inr "Function") (.ty "dict") = some false := by kernel_rfl
@[simp] theorem isi96 (k : Nat) : (En k).isi (.inr "Book") (.ty "int") = some false := by kernel_rfl
@[simp] theorem isi97 (k : Nat) : (En k).isi (.inr "Book") (.ty "bool") = some false := by kernel_rfl
@[simp] theorem isi98 (k : Nat) : (En k).isi (.inr "Book") (.ty "str") = some false := by kernel_rfl
@[simp] theorem isi99 (k : Nat) : (En k).isi (.inr "Book") (.ty "list") = some false := by kernel_rfl
@[simp] theorem isi100 (k : Nat) : (En k).isi (.inr "Book") (.ty "tuple") = some false := by kernel_rfl
@[simp] theorem isi101 (k : Nat) : (En k).isi (.inr "Book") (.ty "dict") = some false := by kernel_rfl
end Hd
namespace Hd
open PySem PySem.Spec PyProof.Rows L2
section
variable {P : Program} {w : World} {K : PySem.W.Frag} {mg : Str → Option Value} {base h : Heap} {f : Addr}
theorem nm (X : K.In h) (G : h.Ns mainGlobals mg) (ok : tb.ok K = true) : Y.Nm K mg tb.st (fun i => decide (i < 25)) (pl K) := by
 have h1 : (tb.glT.all fun p => decide (p.2 < 25) && decide ((plT.getD p.2 (("", none), [])).1 = (p.1, none))) = true := by kernel_rfl
 have h2 : (tb.mtT.all fun p => decide (p.2 < 25) && decide ((plT.getD p.2 (("", none), [])).1 = (p.1.1, some p.1.2))) = true := by kernel_rfl
 have h3 : (tb.iniT.all fun p => decide (p.2 < 25) && decide ((plT.getD p.2 (("", none), [])).1 = (p.1, some ("__init__" : Str)))) = true := by kernel_rfl
 rw [List.all_eq_true] at h1 h2 h3
 refine Y.nm_of X G ok (fun p hp => ?_) (fun p hp => ?_) (fun p hp => ?_)
 ·have z := h1 p hp
  rw [Bool.and_eq_true] at z
  refine ⟨z.1, ?_⟩
  show He.fAd K (plT.getD p.2 (("", none), [])).1 = _
  rw [of_decide_eq_true z.2]
  rfl
 ·have z := h2 p hp
  rw [Bool.and_eq_true] at z
  refine ⟨z.1, ?_⟩
  show He.fAd K (plT.getD p.2 (("", none), [])).1 = _
  rw [of_decide_eq_true z.2]
  rfl
 ·have z := h3 p hp
  rw [Bool.and_eq_true] at z
  refine ⟨z.1, ?_⟩
  show He.fAd K (plT.getD p.2 (("", none), [])).1 = _
  rw [of_decide_eq_true z.2]
  rfl
theorem dfs (M : Y.Md P w K mg tb.st tb.blt tb.exB) (c : He.SaysD [] fn K) (KD : Y.KdF K mg tb.st tb.blt "_law_kinds_of" (pl K 16).f (pl K 16).fd b__law_kinds_of 2) (OK : Y.TryOkX K "MakingError" fun c => hsT.contains c) (TB__law_fields_right : LamX.TabB base mg (He.cT K ("_law_fields_right", none)).1 (He.cT K ("_law_fields_right", none)).2) (T__law_fields_right : Y.tabC K "_law_fields_right" = true) (TB_law : LamX.TabB base mg (He.cT K ("law", none)).1 (He.cT K ("law", none)).2) (T_law : Y.tabC K "law" = true) : ∀ fid, decide (fid < 25) = true → Y.Df P w K mg base tb.st stp fid (pl K fid) := fun fid hu => match fid, hu with
 | 0, _ => df_is_whole M (c.def_ 0 (d := d_is_whole) (by kernel_rfl))
 | 1, _ => df_is_name M (c.def_ 1 (d := d_is_name) (by kernel_rfl))
 | 2, _ => df_is_kind M (c.def_ 2 (d := d_is_kind) (by kernel_rfl))
 | 3, _ => df_cells_of M (c.def_ 3 (d := d_cells_of) (by kernel_rfl))
 | 4, _ => df_fits_part M (c.def_ 4 (d := d_fits_part) (by kernel_rfl))
 | 5, _ => df_terms_room M (c.def_ 5 (d := d_terms_room) (by kernel_rfl))
 | 6, _ => df_term_room M (c.def_ 6 (d := d_term_room) (by kernel_rfl))
 | 7, _ => df_is_term M (c.def_ 7 (d := d_is_term) (by kernel_rfl))
 | 8, _ => df_copied M (c.def_ 8 (d := d_copied) (by kernel_rfl))
 | 9, _ => df_Function___init__ M (c.def_ 9 (d := d_Function___init__) (by kernel_rfl))
 | 10, _ => df_Function_told M (c.def_ 10 (d := d_Function_told) (by kernel_rfl))
 | 11, _ => df_Book___init__ M (c.def_ 11 (d := d_Book___init__) (by kernel_rfl))
 | 12, _ => df_Book_names M (c.def_ 12 (d := d_Book_names) (by kernel_rfl))
 | 13, _ => df_Book_function M (c.def_ 13 (d := d_Book_function) (by kernel_rfl))
 | 14, _ => df_cells M (c.def_ 14 (d := d_cells) (by kernel_rfl))
 | 15, _ => df__law_cell_at M (c.def_ 15 (d := d__law_cell_at) (by kernel_rfl))
 | 16, _ => df__law_kinds_of M (c.def_ 16 (d := d__law_kinds_of) (by kernel_rfl))
 | 17, _ => df__law_refused KD OK M (c.def_ 17 (d := d__law_refused) (by kernel_rfl))
 | 18, _ => df__law_every M (c.def_ 18 (d := d__law_every) (by kernel_rfl))
 | 19, _ => df__law_deep M (c.def_ 19 (d := d__law_deep) (by kernel_rfl))
 | 20, _ => df__law_no_kinds M (c.def_ 20 (d := d__law_no_kinds) (by kernel_rfl))
 | 21, _ => df__law_no_terms M (c.def_ 21 (d := d__law_no_terms) (by kernel_rfl))
 | 22, _ => df__law_within M (c.def_ 22 (d := d__law_within) (by kernel_rfl))
 | 23, _ => df__law_fields_right TB__law_fields_right T__law_fields_right M (c.def_ 23 (d := d__law_fields_right) (by kernel_rfl))
 | 24, _ => df_law TB_law T_law M (c.def_ 24 (d := d_law) (by kernel_rfl))
 | k + 25, hu => absurd (of_decide_eq_true hu) (by omega)
theorem facts2 (X : K.In h) (G : h.Ns mainGlobals mg) (hfa : mg ("law" : Str) = some (.ref f)) (c : He.SaysX [] fn ts tf ex w h K) :
  ∃ (fd : FuncData) (cs : List (Addr × Addr)), (∀ p ∈ cs, h.get? p.2 = some { cls := .none, data := .fields #[] }) ∧ (∀ p ∈ cs, K.lookup p.2 = none) ∧ (∀ p ∈ cs, PySem.W.CodeHd h p.1 p.2) ∧ (∀ q ∈ Y.lamT K, ∃ p ∈ cs, p.2 = q.1) ∧ (∀ (s : Shared) (v : Value), BindsTo s fd ⟨[v], []⟩ [("_law_script", v)]) ∧
   ∀ base : Heap, K.In base → base.Ns mainGlobals mg → (∀ p ∈ cs, LamX.TabB base mg p.1 p.2) → Y.FnG P w K mg base (RX.CX P w) 120 f fd ["_law_script"] (Y.spD K none 1 (Y.sem tb.st stp 120 24)) := by
 have hex : ex K = true := c.more
 unfold ex at hex
 simp only [Bool.and_eq_true] at hex
 obtain ⟨⟨hok, hrf⟩, hrun⟩ := hex
 obtain ⟨r3, r5⟩ := hrun
 have N := nm X G hok
 have FK : FF K d__law_kinds_of (pl K 16) := Y.fdOf_ok (c.t.d.def_ 16 (d := d__law_kinds_of) (by kernel_rfl))
 have KD : Y.KdF K mg tb.st tb.blt "_law_kinds_of" (pl K 16).f (pl K 16).fd b__law_kinds_of 2 := ⟨⟨_, _, _, N__law_kinds_of, "_law_error", fun _ => false, FK, Y.fnScB_ok (by kernel_rfl), by kernel_rfl, fun a b => by kernel_rfl, FK.bindsN fun _ _ _ _ _ _ us hl => match us, hl with | [_], _ => rfl⟩, (N.gl "_law_kinds_of" 16 (by kernel_rfl)).2.1, (N.gl "_law_kinds_of" 16 (by kernel_rfl)).2.2⟩
 have OK : Y.TryOkX K "MakingError" fun c => hsT.contains c := Y.tryXB_ok hrf
 have M0 : Y.Md P w K mg tb.st tb.blt (fun c => tb.exB c) := Y.md_of X G hok (fun p hp => by
  have e : tb.kdT = [tb.kdT.getD 0 ("", [])] := by kernel_rfl
  rw [e] at hp
  simp only [List.mem_cons, List.not_mem_nil, or_false] at hp
  subst hp
  exact c.t.tab 0 rfl)
 have M : Y.Md P w K mg tb.st tb.blt tb.exB := M0
 have F : FF K d_law (pl K 24) := Y.fdOf_ok (c.t.d.def_ 24 (d := d_law) (by kernel_rfl))
 have e := hfa.symm.trans (N.gl "law" 24 (by kernel_rfl)).2.1
 cases e
 have b := FunD.bindsA (ps := ["_law_script"]) F fun _ _ _ _ _ _ us hl => match us, hl with | [_], _ => rfl
 rw [List.all_eq_true] at r3 r5
 refine ⟨_, tf.map (He.cT K), fun p hp => ?_, fun p hp => ?_, fun p hp => ?_, fun q hq => ?_, fun s v => b s [v] rfl, fun base _ _ TB => ?_⟩
 ·obtain ⟨x, hx, e⟩ := List.mem_map.mp hp
  subst e
  exact c.empty x hx
 ·obtain ⟨x, hx, e⟩ := List.mem_map.mp hp
  subst e
  exact c.out x hx
 ·obtain ⟨x, hx, e⟩ := List.mem_map.mp hp
  subst e
  exact PySem.W.codeHd_of_K X (c.hd x hx)
 ·obtain ⟨x, hx, e⟩ := List.any_eq_true.mp (r5 q hq)
  exact ⟨He.cT K (x, none), List.mem_map.mpr ⟨(x, none), by simpa [tf] using hx, rfl⟩, of_decide_eq_true e⟩
 ·exact Y.sem_ok N (fun fid hu => dfs M c.t.d   KD OK (TB _ (List.mem_map.mpr ⟨("_law_fields_right", none), by simp [tf], rfl⟩)) (r3 "_law_fields_right" (by simp)) (TB _ (List.mem_map.mpr ⟨("law", none), by simp [tf], rfl⟩)) (r3 "law" (by simp)) fid hu) 120 24 (by decide)
end
end Hd
namespace Y
open PySem PySem.Spec L2
@[simp] theorem atom_obj (c : Str) (fs : List Str) (xs : List D) : D.atom (.obj c fs xs) = false := rfl
@[simp] theorem atom_dct (ks : List Key) (xs : List D) : D.atom (.dct ks xs) = false := rfl
@[simp] theorem atom_dctT (ks : List (List Key)) (xs : List D) : D.atom (.dctT ks xs) = false := rfl
@[simp] theorem atom_ktup (ks : List Str) : D.atom (.ktup ks) = false := rfl
@[simp] theorem atom_scr (ks : List Int) : D.atom (.scr ks) = false := rfl
def rtD (m : M (Fl × G)) : M (D × Mode) := M.bnd m fun (fl, g) => match fl with
 | .rt s => some (.ok (s.d, s.m))
 | _ => none
@[simp] theorem rtD_ok (d : D) (m : Mode) (n : Bool) (g : G) : rtD (some (.ok (.rt ⟨d, m, n⟩, g))) = some (.ok (d, m)) := rfl
end Y
namespace Y
open PySem PySem.Spec L2
mutual
def D.cop : Nat → D → Bool
 | _, .non => true
 | _, .bl _ => true
 | _, .int _ => true
 | _, .str _ => true
 | n + 1, .lst xs => decide (xs.length < 100000) && copL n xs
 | n + 1, .tup xs => decide (xs.length < 100000) && copL n xs
 | _, _ => false
def copL : Nat → List D → Bool
 | _, [] => true
 | n, x :: xs => D.cop n x && copL n xs
end
@[simp] theorem cop_str (n : Nat) (s : Str) : D.cop n (.str s) = true := by cases n <;> rfl
@[simp] theorem cop_int (n : Nat) (s : Int) : D.cop n (.int s) = true := by cases n <;> rfl
@[simp] theorem cop_bl (n : Nat) (s : Bool) : D.cop n (.bl s) = true := by cases n <;> rfl
@[simp] theorem cop_lst (n : Nat) (xs : List D) : D.cop (n + 1) (.lst xs) = (decide (xs.length < 100000) && copL n xs) := rfl
@[simp] theorem cop_tup (n : Nat) (xs : List D) : D.cop (n + 1) (.tup xs) = (decide (xs.length < 100000) && copL n xs) := rfl
@[simp] theorem copL_nil (n : Nat) : copL n [] = true := by cases n <;> rfl
@[simp] theorem copL_cons (n : Nat) (x : D) (xs : List D) : copL n (x :: xs) = (D.cop n x && copL n xs) := by cases n <;> rfl
@[simp] theorem kit_blt : kitB "bool" "tuple" = some false := by kernel_rfl
@[simp] theorem kit_bll : kitB "bool" "list" = some false := by kernel_rfl
end Y
namespace Y
open PySem PySem.Spec L2
section
variable {E : Ev} {g g0 : G} {a0 : Option Sl}
@[simp] theorem arsD_slot (i : Nat) (as : List Ar) : arsD (a0 :: g0) (.slot i :: as) = match G.get (a0 :: g0) i with
  | some s => if s.m = .fr then none else (arsD (a0 :: g0) as).map (s.d :: ·)
  | none => none := by
 show (match Ar.d (a0 :: g0) (.slot i), arsD (a0 :: g0) as with
  | some d, some ds => some (d :: ds)
  | _, _ => none) = _
 have e : Ar.d (a0 :: g0) (.slot i) = match G.get (a0 :: g0) i with
  | some s => if s.m = .fr then none else some s.d
  | none => none := rfl
 rw [e]
 cases arsD (a0 :: g0) as with
 | none =>
  cases G.get (a0 :: g0) i with
  | none => rfl
  | some s => by_cases h : s.m = .fr <;> simp [h]
 | some ds =>
  cases G.get (a0 :: g0) i with
  | none => rfl
  | some s => by_cases h : s.m = .fr <;> simp [h]
@[simp] theorem ioOf_slot (i : Nat) (as : List Ar) : ioOf (.slot i :: as) = some (some i) := rfl
@[simp] theorem ioOf_tmp (s : Sl) (as : List Ar) : ioOf (.tmp s :: as) = some none := rfl
@[simp] theorem arsD_tmp (s : Sl) (as : List Ar) : arsD g (.tmp s :: as) = (arsD g as).map (s.d :: ·) := by
 show (match Ar.d g (.tmp s), arsD g as with
  | some d, some ds => some (d :: ds)
  | _, _ => none) = _
 cases arsD g as <;> rfl
@[simp] theorem doCall_io {fn : List D → M (Sl × Option (D × Bool))} {j np : Nat} {more : List D} {as : List Ar} : doCall fn (some j) np more as (a0 :: g0) = if as.length + more.length = np ∧ j < as.length ∧ j ≠ 100 then (match arsD (a0 :: g0) as with
  | some ds => M.bnd (fn (ds ++ more)) fun (r, o) => match ioOf as with
   | none => (match o with
    | none => some (.ok (⟨r.d, r.m, r.n || r.d.atom⟩, a0 :: g0))
    | some _ => none)
   | some none => (match o with
    | some _ => some (.ok (⟨r.d, r.m, r.n || r.d.atom⟩, a0 :: g0))
    | none => none)
   | some (some i) => (match o with
    | some dn => (match G.get (a0 :: g0) i with
     | some s => if s.m = .fr then none else some (.ok (⟨r.d, r.m, r.n || r.d.atom⟩, G.put (a0 :: g0) i ⟨dn.1, s.m, dn.1.kidsAtom⟩))
     | none => none)
    | none => none)
  | none => none)
  else none := by
 unfold doCall
 simp only [ioLt, Bool.and_eq_true, decide_eq_true_eq] <;> rfl
end
end Y
namespace Hd
open PySem PySem.Spec L2
abbrev D := Y.D
abbrev Res := Y.M (Y.Sl × Option (Y.D × Bool))
def okB (b : Bool) : Res := some (.ok (⟨.bl b, .fr, true⟩, none))
def okI (i : Int) : Res := some (.ok (⟨.int i, .fr, true⟩, none))
def isT (m : Res) : Bool := match m with
 | some (.ok (⟨.bl true, .fr, true⟩, none)) => true
 | _ => false
def isF (m : Res) : Bool := match m with
 | some (.ok (⟨.bl false, .fr, true⟩, none)) => true
 | _ => false
def isM1 (m : Res) : Bool := match m with
 | some (.ok (⟨.int (.negSucc 0), .fr, true⟩, none)) => true
 | _ => false
theorem isT_ok {m : Res} (h : isT m = true) : m = okB true := by
 unfold isT at h
 split at h
 ·rfl
 ·cases h
theorem isF_ok {m : Res} (h : isF m = true) : m = okB false := by
 unfold isF at h
 split at h
 ·rfl
 ·cases h
theorem isM1_ok {m : Res} (h : isM1 m = true) : m = okI (-1) := by
 unfold isM1 at h
 split at h
 ·rfl
 ·cases h
def num1 : D := .tup [.str "num", .int 1]
def deep (n : Nat) : D := match n with
 | 0 => .str "num"
 | n + 1 => if n % 2 = 0 then .tup [.str "pair", deep n, .str "truth"] else .tup [.str "pair", .str "num", deep n]
def nkA : List D := [.non, .int 5, .str "", .str "nums", .str "Num", .tup [.str "num"], .lst [.str "num"], .tup [], .tup [.str "open"], .tup [.str "open", .int 1]]
def nkB : List D := [.tup [.str "open", .int (-1)], .tup [.str "open", .str "0"], .tup [.str "open", .bl true], .tup [.str "pair", .str "num"], .tup [.str "pair", .str "num", .str "num", .str "num"], .tup [.str "pair", .str "num", .non],
 .tup [.str "pair", .lst [.str "num"], .str "num"], .tup [.str "both", .str "num", .str "num"], deep 5, .tup [.str "pair", .tup [.str "open", .int 2], .str "num"], .bl true, .dct [] []]
def opn (m : Int) : D := .tup [.str "open", .int m]
def nk (m : Int) : List D := nkA ++ opn m :: nkB
def siz (κ : D) : D := .tup [.str "size", κ]
def fai (κ : D) : D := .tup [.str "fail", .int 1, κ]
def ntA : List D := [.non, .int 5, .str "yes", .tup [], .lst [.str "yes"], .tup [.str "yes", .int 1], .tup [.str "no", .tup []], .tup [.str "num"], .tup [.str "num", .str "1"], .tup [.str "num", .bl true], .tup [.str "num", .int 1, .int 2], .tup [.str "take"], .tup [.str "take", .int (-1)]]
def ntB : List D := [.tup [.str "take", .str "0"], .tup [.str "take", .bl false], .tup [.str "plus", num1], .tup [.str "plus", num1, .int 1], .tup [.str "less", num1, .non], .tup [.str "pair", num1], .tup [.str "pair", num1, num1, num1], .tup [.str "first"], .tup [.str "second", num1, num1],
 .tup [.str "if", num1, num1], .tup [.str "if", num1, num1, num1, num1], .tup [.str "fail", .int 1], .tup [.str "fail", .non, .str "num"], .tup [.str "go", .int 1, .lst []], .tup [.str "ask", .str "f", .lst [], .tup []], .tup [.str "ask", .str "f", .tup [], .lst []], .tup [.str "ask", .str "F", .lst [], .lst []],
 .tup [.str "ask", .str "f", .lst []], .tup [.str "ask", .int 5, .lst [], .lst []], .tup [.str "ask", .str "f", .lst [.str "nums"], .lst []], .tup [.str "ask", .str "f", .lst [], .lst [.non]], .tup [.str "ask", .str "f", .lst [], num1], .tup [.str "ask", .str "", .lst [], .lst []]]
def ntC : List D := [.tup [.str "Yes"], .tup [.str "term"]]
def tak (t : Int) : D := .tup [.str "take", .int t]
def nt (m t : Int) : List D := (ntA ++ tak t :: ntB) ++ (nk m).map siz ++ ntC ++ (((nk m).drop 3).take 9).map fai
def wth (j : Nat) (t : D) : D := match j with
 | 0 => .tup [.str "plus", num1, t]
 | 1 => .tup [.str "plus", t, num1]
 | 2 => .tup [.str "pair", num1, t]
 | 3 => .tup [.str "first", t]
 | 4 => .tup [.str "second", .tup [.str "pair", t, num1]]
 | 5 => .tup [.str "if", .tup [.str "yes"], num1, t]
 | 6 => .tup [.str "if", t, num1, num1]
 | 7 => .tup [.str "ask", .str "f", .lst [], .lst [num1, t, num1]]
 | _ => .tup [.str "less", t, num1]
theorem nk_A : ∀ d ∈ nkA ++ nkB, ∀ k, sm (k + 20) f_is_kind [d, .int 1, .int 4] = okB false := fun d hd k => by
 have h : ((nkA ++ nkB).all fun d => isF (sm (k + 20) f_is_kind [d, .int 1, .int 4])) = true := by kernel_rfl
 exact isF_ok (List.all_eq_true.mp h d hd)
end Hd
namespace Hd
open PySem PySem.Spec L2
theorem okB_def (b : Bool) : okB b = some (.ok (⟨.bl b, .fr, true⟩, none)) := rfl
theorem okI_def (i : Int) : okI i = some (.ok (⟨.int i, .fr, true⟩, none)) := rfl
def NoK (κ : D) : Prop := ∀ k, 20 ≤ k → sm k f_is_kind [κ, .int 1, .int 4] = okB false
theorem nok_con : ∀ d ∈ nkA ++ nkB, NoK d := fun d hd k hk => by
 obtain ⟨j, rfl⟩ : ∃ j, k = j + 20 := ⟨k - 20, by omega⟩
 exact nk_A d hd j
theorem whole (i : Int) (k : Nat) : sm (k + 2) f_is_whole [.int i] = okB true := by kernel_rfl
theorem nok_opn {m : Int} (hm : 1 ≤ m) : NoK (opn m) := fun k hk => by
 obtain ⟨k, rfl⟩ : ∃ j, k = j + 3 := ⟨k - 3, by omega⟩
 have h1 := whole m k
 have e : Y.D.eqE (opn m) (.tup []) = some false := by kernel_rfl
 have hz : ¬ (m < 1) := by omega
 have h0 : 0 ≤ m := by omega
 rw [okB_def] at h1
 unfold opn at *
 rw [sem_is_kind, okB_def]
 simp [Y.runF, Y.runG, b_is_kind, Y.ent, Y.outD, Y.lim, Y.dsL, h1, e, hz, h0]
theorem nok_nk {m : Int} (hm : 1 ≤ m) : ∀ d ∈ nk m, NoK d := fun d hd => by
 unfold nk at hd
 rw [List.mem_append, List.mem_cons] at hd
 rcases hd with h | rfl | h
 ·exact nok_con d (List.mem_append.mpr (.inl h))
 ·exact nok_opn hm
 ·exact nok_con d (List.mem_append.mpr (.inr h))
def Bad (n : Nat) (t : D) (d r : Int) : Prop := ∀ k, n ≤ k → sm k f_term_room [t, .int 1, .int d, .int r] = okI (-1)
theorem Bad.mono {n m : Nat} {t : D} {d r : Int} (h : Bad n t d r) (l : n ≤ m) : Bad m t d r := fun k hk => h k (by omega)
def rooms : List (Int × Int) := [(6, 40), (4, 38), (4, 37), (3, 37), (4, 36), (3, 36), (4, 35), (2, 36), (3, 35), (4, 34)]
def ntCon : List D := ntA ++ ntB ++ (nkA ++ nkB).map siz ++ ntC ++ (nkA.drop 3 ++ nkB.take 1).map fai
theorem bad_con : ∀ t ∈ ntCon, ∀ p ∈ rooms, Bad 30 t p.1 p.2 := fun t ht p hp k hk => by
 obtain ⟨j, rfl⟩ : ∃ j, k = j + 30 := ⟨k - 30, by omega⟩
 have h : (ntCon.all fun t => rooms.all fun p => isM1 (sm (j + 30) f_term_room [t, .int 1, .int p.1, .int p.2])) = true := by kernel_rfl
 exact isM1_ok (List.all_eq_true.mp (List.all_eq_true.mp h t ht) p hp)
theorem fp_kind0 {κ : D} (h : NoK κ) (k : Nat) (hk : 22 ≤ k) : sm k f_fits_part [κ, .str "kind", .int 1] = okB false := by
 obtain ⟨k, rfl⟩ : ∃ j, k = j + 2 := ⟨k - 2, by omega⟩
 have h1 := h (k + 1) (by omega)
 rw [okB_def] at h1
 rw [sem_fits_part, okB_def]
 simp [b_fits_part, h1]
theorem fp_num1 (k : Nat) : sm (k + 3) f_fits_part [.int 1, .str "number", .int 1] = okB true := by kernel_rfl
theorem fp_count0 {t : Int} (ht : t < 0) (k : Nat) : sm (k + 3) f_fits_part [.int t, .str "count", .int 1] = okB false := by
 have h1 := whole t k
 rw [okB_def] at h1
 have hz : ¬ (0 ≤ t) := by omega
 rw [sem_fits_part, okB_def]
 simp [b_fits_part, h1]
 omega
@[simp] theorem kinw_num (k : Nat) : Y.kinS (En k) true "FORMS" ⟨.str "num", .fr, true⟩ = some ⟨.bl false, .fr, true⟩ := by kernel_rfl
@[simp] theorem kgew_num (k : Nat) : Y.kgetS (En k) "FORMS" ⟨.str "num", .fr, true⟩ = some ⟨.ktup ["number"], .fr, true⟩ := by kernel_rfl
@[simp] theorem kinw_yes (k : Nat) : Y.kinS (En k) true "FORMS" ⟨.str "yes", .fr, true⟩ = some ⟨.bl false, .fr, true⟩ := by kernel_rfl
@[simp] theorem kgew_yes (k : Nat) : Y.kgetS (En k) "FORMS" ⟨.str "yes", .fr, true⟩ = some ⟨.ktup [], .fr, true⟩ := by kernel_rfl
@[simp] theorem kinw_no (k : Nat) : Y.kinS (En k) true "FORMS" ⟨.str "no", .fr, true⟩ = some ⟨.bl false, .fr, true⟩ := by kernel_rfl
@[simp] theorem kgew_no (k : Nat) : Y.kgetS (En k) "FORMS" ⟨.str "no", .fr, true⟩ = some ⟨.ktup [], .fr, true⟩ := by kernel_rfl
@[simp] theorem kinw_take (k : Nat) : Y.kinS (En k) true "FORMS" ⟨.str "take", .fr, true⟩ = some ⟨.bl false, .fr, true⟩ := by kernel_rfl
@[simp] theorem kgew_take (k : Nat) : Y.kgetS (En k) "FORMS" ⟨.str "take", .fr, true⟩ = some ⟨.ktup ["count"], .fr, true⟩ := by kernel_rfl
@[simp] theorem kinw_size (k : Nat) : Y.kinS (En k) true "FORMS" ⟨.str "size", .fr, true⟩ = some ⟨.bl false, .fr, true⟩ := by kernel_rfl
@[simp] theorem kgew_size (k : Nat) : Y.kgetS (En k) "FORMS" ⟨.str "size", .fr, true⟩ = some ⟨.ktup ["kind"], .fr, true⟩ := by kernel_rfl
@[simp] theorem kinw_plus (k : Nat) : Y.kinS (En k) true "FORMS" ⟨.str "plus", .fr, true⟩ = some ⟨.bl false, .fr, true⟩ := by kernel_rfl
@[simp] theorem kgew_plus (k : Nat) : Y.kgetS (En k) "FORMS" ⟨.str "plus", .fr, true⟩ = some ⟨.ktup ["term", "term"], .fr, true⟩ := by kernel_rfl
@[simp] theorem kinw_less (k : Nat) : Y.kinS (En k) true "FORMS" ⟨.str "less", .fr, true⟩ = some ⟨.bl false, .fr, true⟩ := by kernel_rfl
@[simp] theorem kgew_less (k : Nat) : Y.kgetS (En k) "FORMS" ⟨.str "less", .fr, true⟩ = some ⟨.ktup ["term", "term"], .fr, true⟩ := by kernel_rfl
@[simp] theorem kinw_pair (k : Nat) : Y.kinS (En k) true "FORMS" ⟨.str "pair", .fr, true⟩ = some ⟨.bl false, .fr, true⟩ := by kernel_rfl
@[simp] theorem kgew_pair (k : Nat) : Y.kgetS (En k) "FORMS" ⟨.str "pair", .fr, true⟩ = some ⟨.ktup ["term", "term"], .fr, true⟩ := by kernel_rfl
@[simp] theorem kinw_first (k : Nat) : Y.kinS (En k) true "FORMS" ⟨.str "first", .fr, true⟩ = some ⟨.bl false, .fr, true⟩ := by kernel_rfl
@[simp] theorem kgew_first (k : Nat) : Y.kgetS (En k) "FORMS" ⟨.str "first", .fr, true⟩ = some ⟨.ktup ["term"], .fr, true⟩ := by kernel_rfl
@[simp] theorem kinw_second (k : Nat) : Y.kinS (En k) true "FORMS" ⟨.str "second", .fr, true⟩ = some ⟨.bl false, .fr, true⟩ := by kernel_rfl
@[simp] theorem kgew_second (k : Nat) : Y.kgetS (En k) "FORMS" ⟨.str "second", .fr, true⟩ = some ⟨.ktup ["term"], .fr, true⟩ := by kernel_rfl
@[simp] theorem kinw_if (k : Nat) : Y.kinS (En k) true "FORMS" ⟨.str "if", .fr, true⟩ = some ⟨.bl false, .fr, true⟩ := by kernel_rfl
@[simp] theorem kgew_if (k : Nat) : Y.kgetS (En k) "FORMS" ⟨.str "if", .fr, true⟩ = some ⟨.ktup ["term", "term", "term"], .fr, true⟩ := by kernel_rfl
@[simp] theorem kinw_fail (k : Nat) : Y.kinS (En k) true "FORMS" ⟨.str "fail", .fr, true⟩ = some ⟨.bl false, .fr, true⟩ := by kernel_rfl
@[simp] theorem kgew_fail (k : Nat) : Y.kgetS (En k) "FORMS" ⟨.str "fail", .fr, true⟩ = some ⟨.ktup ["number", "kind"], .fr, true⟩ := by kernel_rfl
@[simp] theorem kinw_ask (k : Nat) : Y.kinS (En k) true "FORMS" ⟨.str "ask", .fr, true⟩ = some ⟨.bl false, .fr, true⟩ := by kernel_rfl
@[simp] theorem kgew_ask (k : Nat) : Y.kgetS (En k) "FORMS" ⟨.str "ask", .fr, true⟩ = some ⟨.ktup ["name", "kinds", "terms"], .fr, true⟩ := by kernel_rfl
theorem bad_tak {t : Int} (ht : t < 0) (d r : Int) : Bad 30 (tak t) d r := fun k hk => by
 obtain ⟨k, rfl⟩ : ∃ j, k = j + 4 := ⟨k - 4, by omega⟩
 have h1 := fp_count0 ht k
 have e : Y.D.eqE (tak t) (.tup []) = some false := by kernel_rfl
 rw [okB_def] at h1
 unfold tak at *
 rw [sem_term_room, okI_def]
 by_cases hd : d = 0 <;> simp [b_term_room, l1_term_room, e, hd, Y.cut_tail, Y.zipL, h1]
theorem bad_siz {κ : D} (h : NoK κ) (e : Y.D.eqE (siz κ) (.tup []) = some false) (d r : Int) : Bad 30 (siz κ) d r := fun k hk => by
 obtain ⟨k, rfl⟩ : ∃ j, k = j + 2 := ⟨k - 2, by omega⟩
 have h1 := fp_kind0 h (k + 1) (by omega)
 rw [okB_def] at h1
 unfold siz at *
 rw [sem_term_room, okI_def]
 by_cases hd : d = 0 <;> simp [b_term_room, l1_term_room, e, hd, Y.cut_tail, Y.zipL, h1]
theorem bad_fai {κ : D} (h : NoK κ) (e : Y.D.eqE (fai κ) (.tup []) = some false) (d r : Int) : Bad 30 (fai κ) d r := fun k hk => by
 obtain ⟨k, rfl⟩ : ∃ j, k = j + 4 := ⟨k - 4, by omega⟩
 have h1 := fp_kind0 h (k + 3) (by omega)
 have h2 := fp_num1 k
 rw [okB_def] at h1 h2
 unfold fai at *
 rw [sem_term_room, okI_def]
 by_cases hd : d = 0
 ·simp [b_term_room, l1_term_room, e, hd, Y.cut_tail, Y.zipL]
 ·by_cases hr : r - 1 < 0 <;> simp [b_term_room, l1_term_room, e, hd, Y.cut_tail, Y.zipL, h1, h2, hr]
theorem room_one (d r : Int) (hd : d ≠ 0) (hr : 1 ≤ r) (k : Nat) (hk : 30 ≤ k) : sm k f_term_room [num1, .int 1, .int d, .int r] = okI (r - 1) := by
 obtain ⟨k, rfl⟩ : ∃ j, k = j + 4 := ⟨k - 4, by omega⟩
 have h2 := fp_num1 k
 have e : Y.D.eqE num1 (.tup []) = some false := by kernel_rfl
 rw [okB_def] at h2
 have hr2 : ¬ (r - 1 < 0) := by omega
 unfold num1 at *
 rw [sem_term_room, okI_def]
 simp [b_term_room, l1_term_room, e, hd, Y.cut_tail, Y.zipL, h2, hr2]
theorem room_yes (d r : Int) (hd : d ≠ 0) (hr : 1 ≤ r) (k : Nat) (hk : 30 ≤ k) : sm k f_term_room [.tup [.str "yes"], .int 1, .int d, .int r] = okI (r - 1) := by
 obtain ⟨k, rfl⟩ : ∃ j, k = j + 4 := ⟨k - 4, by omega⟩
 have e : Y.D.eqE (.tup [.str "yes"]) (.tup []) = some false := by kernel_rfl
 rw [sem_term_room, okI_def]
 simp [b_term_room, l1_term_room, e, hd, Y.cut_tail, Y.zipL]
end Hd
namespace Hd
open PySem PySem.Spec L2
section
variable {n : Nat} {t : D} {d r : Int}
theorem okI_m : okI (-1) = some (.ok (⟨.int (-1), .fr, true⟩, none)) := rfl
theorem wth0 (hn : 30 ≤ n) (h : Bad n t (d - 1) (r - 2)) (e : Y.D.eqE (wth 0 t) (.tup []) = some false) (hd : 2 ≤ d) (hr : 4 ≤ r) : Bad (n + 2) (wth 0 t) d r := fun k hk => by
 obtain ⟨k, rfl⟩ : ∃ j, k = j + 2 := ⟨k - 2, by omega⟩
 have h1 := h (k + 1) (by omega)
 have h2 := room_one (d - 1) (r - 1) (by omega) (by omega) (k + 1) (by omega)
 rw [show r - 1 - 1 = r - 2 by omega] at h2
 rw [okI_def] at h1 h2
 have hz : ¬ (d = 0) := by omega
 have hy : ¬ (r - 2 < 0) := by omega
 simp only [wth] at e ⊢
 rw [sem_term_room, okI_m]
 simp [b_term_room, l1_term_room, e, hz, hy, Y.cut_tail, Y.zipL, h1, h2]
theorem wth1 (hn : 30 ≤ n) (h : Bad n t (d - 1) (r - 1)) (e : Y.D.eqE (wth 1 t) (.tup []) = some false) (hd : 2 ≤ d) (hr : 4 ≤ r) : Bad (n + 2) (wth 1 t) d r := fun k hk => by
 obtain ⟨k, rfl⟩ : ∃ j, k = j + 2 := ⟨k - 2, by omega⟩
 have h1 := h (k + 1) (by omega)
 rw [okI_def] at h1
 have hz : ¬ (d = 0) := by omega
 simp only [wth] at e ⊢
 rw [sem_term_room, okI_m]
 simp [b_term_room, l1_term_room, e, hz, Y.cut_tail, Y.zipL, h1]
theorem wth2 (hn : 30 ≤ n) (h : Bad n t (d - 1) (r - 2)) (e : Y.D.eqE (wth 2 t) (.tup []) = some false) (hd : 2 ≤ d) (hr : 4 ≤ r) : Bad (n + 2) (wth 2 t) d r := fun k hk => by
 obtain ⟨k, rfl⟩ : ∃ j, k = j + 2 := ⟨k - 2, by omega⟩
 have h1 := h (k + 1) (by omega)
 have h2 := room_one (d - 1) (r - 1) (by omega) (by omega) (k + 1) (by omega)
 rw [show r - 1 - 1 = r - 2 by omega] at h2
 rw [okI_def] at h1 h2
 have hz : ¬ (d = 0) := by omega
 have hy : ¬ (r - 2 < 0) := by omega
 simp only [wth] at e ⊢
 rw [sem_term_room, okI_m]
 simp [b_term_room, l1_term_room, e, hz, hy, Y.cut_tail, Y.zipL, h1, h2]
theorem wth3 (hn : 30 ≤ n) (h : Bad n t (d - 1) (r - 1)) (e : Y.D.eqE (wth 3 t) (.tup []) = some false) (hd : 2 ≤ d) (hr : 4 ≤ r) : Bad (n + 2) (wth 3 t) d r := fun k hk => by
 obtain ⟨k, rfl⟩ : ∃ j, k = j + 2 := ⟨k - 2, by omega⟩
 have h1 := h (k + 1) (by omega)
 rw [okI_def] at h1
 have hz : ¬ (d = 0) := by omega
 simp only [wth] at e ⊢
 rw [sem_term_room, okI_m]
 simp [b_term_room, l1_term_room, e, hz, Y.cut_tail, Y.zipL, h1]
theorem bad_pr (hn : 30 ≤ n) (h : Bad n t (d - 1) (r - 1)) (e : Y.D.eqE (.tup [.str "pair", t, num1]) (.tup []) = some false) (hd : 1 ≤ d) : Bad (n + 2) (.tup [.str "pair", t, num1]) d r := fun k hk => by
 obtain ⟨k, rfl⟩ : ∃ j, k = j + 2 := ⟨k - 2, by omega⟩
 have h1 := h (k + 1) (by omega)
 rw [okI_def] at h1
 have hz : ¬ (d = 0) := by omega
 rw [sem_term_room, okI_m]
 simp [b_term_room, l1_term_room, e, hz, Y.cut_tail, Y.zipL, h1]
theorem wth4 (hn : 30 ≤ n) (h : Bad n t (d - 2) (r - 2)) (e : Y.D.eqE (wth 4 t) (.tup []) = some false) (e2 : Y.D.eqE (.tup [.str "pair", t, num1]) (.tup []) = some false) (hd : 2 ≤ d) (hr : 4 ≤ r) : Bad (n + 4) (wth 4 t) d r := fun k hk => by
 obtain ⟨k, rfl⟩ : ∃ j, k = j + 2 := ⟨k - 2, by omega⟩
 have h1 := bad_pr (d := d - 1) (r := r - 1) hn (by rw [show d - 1 - 1 = d - 2 by omega, show r - 1 - 1 = r - 2 by omega]; exact h) e2 (by omega) (k + 1) (by omega)
 rw [okI_def] at h1
 have hz : ¬ (d = 0) := by omega
 simp only [wth] at e ⊢
 rw [sem_term_room, okI_m]
 simp [b_term_room, l1_term_room, e, hz, Y.cut_tail, Y.zipL, h1]
theorem wth5 (hn : 30 ≤ n) (h : Bad n t (d - 1) (r - 3)) (e : Y.D.eqE (wth 5 t) (.tup []) = some false) (hd : 2 ≤ d) (hr : 4 ≤ r) : Bad (n + 2) (wth 5 t) d r := fun k hk => by
 obtain ⟨k, rfl⟩ : ∃ j, k = j + 2 := ⟨k - 2, by omega⟩
 have h1 := h (k + 1) (by omega)
 have h2 := room_yes (d - 1) (r - 1) (by omega) (by omega) (k + 1) (by omega)
 have h3 := room_one (d - 1) (r - 2) (by omega) (by omega) (k + 1) (by omega)
 rw [show r - 1 - 1 = r - 2 by omega] at h2
 rw [show r - 2 - 1 = r - 3 by omega] at h3
 rw [okI_def] at h1 h2 h3
 have hz : ¬ (d = 0) := by omega
 have hy : ¬ (r - 2 < 0) := by omega
 have hx : ¬ (r - 3 < 0) := by omega
 simp only [wth] at e ⊢
 rw [sem_term_room, okI_m]
 simp [b_term_room, l1_term_room, e, hz, hy, hx, Y.cut_tail, Y.zipL, h1, h2, h3]
theorem wth6 (hn : 30 ≤ n) (h : Bad n t (d - 1) (r - 1)) (e : Y.D.eqE (wth 6 t) (.tup []) = some false) (hd : 2 ≤ d) (hr : 4 ≤ r) : Bad (n + 2) (wth 6 t) d r := fun k hk => by
 obtain ⟨k, rfl⟩ : ∃ j, k = j + 2 := ⟨k - 2, by omega⟩
 have h1 := h (k + 1) (by omega)
 rw [okI_def] at h1
 have hz : ¬ (d = 0) := by omega
 simp only [wth] at e ⊢
 rw [sem_term_room, okI_m]
 simp [b_term_room, l1_term_room, e, hz, Y.cut_tail, Y.zipL, h1]
theorem wth8 (hn : 30 ≤ n) (h : Bad n t (d - 1) (r - 1)) (e : Y.D.eqE (wth 8 t) (.tup []) = some false) (hd : 2 ≤ d) (hr : 4 ≤ r) : Bad (n + 2) (wth 8 t) d r := fun k hk => by
 obtain ⟨k, rfl⟩ : ∃ j, k = j + 2 := ⟨k - 2, by omega⟩
 have h1 := h (k + 1) (by omega)
 rw [okI_def] at h1
 have hz : ¬ (d = 0) := by omega
 simp only [wth] at e ⊢
 rw [sem_term_room, okI_m]
 simp [b_term_room, l1_term_room, e, hz, Y.cut_tail, Y.zipL, h1]
theorem rooms_bad (hn : 30 ≤ n) (h : Bad n t d (r - 1)) (hd : 1 ≤ d) (hr : 2 ≤ r) (k : Nat) (hk : n + 2 ≤ k) : sm k f_terms_room [.lst [num1, t, num1], .int 1, .int d, .int r] = okI (-1) := by
 obtain ⟨k, rfl⟩ : ∃ j, k = j + 2 := ⟨k - 2, by omega⟩
 have h1 := h (k + 1) (by omega)
 have h2 := room_one d r (by omega) (by omega) (k + 1) (by omega)
 rw [okI_def] at h1 h2
 have hy : ¬ (r - 1 < 0) := by omega
 rw [sem_terms_room, okI_m]
 simp [b_terms_room, l1_terms_room, h1, h2, hy]
theorem fp_name1 (k : Nat) : sm (k + 10) f_fits_part [.str "f", .str "name", .int 1] = okB true := by kernel_rfl
theorem fp_kinds0 (k : Nat) : sm (k + 10) f_fits_part [.lst [], .str "kinds", .int 1] = okB true := by kernel_rfl
theorem wth7 (hn : 30 ≤ n) (h : Bad n t (d - 1) (r - 2)) (e : Y.D.eqE (wth 7 t) (.tup []) = some false) (hd : 2 ≤ d) (hr : 4 ≤ r) : Bad (n + 4) (wth 7 t) d r := fun k hk => by
 obtain ⟨k, rfl⟩ : ∃ j, k = j + 11 := ⟨k - 11, by omega⟩
 have h1 := rooms_bad (d := d - 1) (r := r - 1) hn (by rw [show r - 1 - 1 = r - 2 by omega]; exact h) (by omega) (by omega) (k + 10) (by omega)
 have h2 := fp_name1 k
 have h3 := fp_kinds0 k
 rw [okI_def] at h1
 rw [okB_def] at h2 h3
 have hz : ¬ (d = 0) := by omega
 have hy : ¬ (r - 1 < 0) := by omega
 simp only [wth] at e ⊢
 rw [sem_term_room, okI_m]
 simp [b_term_room, l1_term_room, e, hz, hy, Y.cut_tail, Y.zipL, h1, h2, h3]
end
end Hd
namespace Hd
open PySem PySem.Spec L2
def isSF (o : Option Bool) : Bool := match o with
 | some false => true
 | _ => false
theorem isSF_ok {o : Option Bool} (h : isSF o = true) : o = some false := by
 unfold isSF at h
 split at h
 ·rfl
 ·cases h
def prD (t : D) : D := .tup [.str "pair", t, num1]
abbrev nE (t : D) : Bool := isSF (Y.D.eqE t (.tup []))
theorem eqs (m u : Int) : ((nt m u).all fun t => nE (prD t) && (List.range 9).all fun j => nE (wth j t) && nE (prD (wth j t)) && (List.range 9).all fun i => nE (wth i (wth j t))) = true := by kernel_rfl
theorem eqs2 (m : Int) : ((nk m).all fun κ => (match κ with | .tup [] => true | .tup xs => nE κ | _ => true) && nE (siz κ) && nE (fai κ)) = true := by kernel_rfl
section
variable {m u : Int} {t : D}
theorem eq1 (ht : t ∈ nt m u) {j : Nat} (hj : j < 9) : Y.D.eqE (wth j t) (.tup []) = some false := by
 have h := List.all_eq_true.mp (eqs m u) t ht
 rw [Bool.and_eq_true] at h
 have h2 := List.all_eq_true.mp h.2 j (List.mem_range.mpr hj)
 rw [Bool.and_eq_true, Bool.and_eq_true] at h2
 exact isSF_ok h2.1.1
theorem eq1p (ht : t ∈ nt m u) : Y.D.eqE (prD t) (.tup []) = some false := by
 have h := List.all_eq_true.mp (eqs m u) t ht
 rw [Bool.and_eq_true] at h
 exact isSF_ok h.1
theorem eq2p (ht : t ∈ nt m u) {j : Nat} (hj : j < 9) : Y.D.eqE (prD (wth j t)) (.tup []) = some false := by
 have h := List.all_eq_true.mp (eqs m u) t ht
 rw [Bool.and_eq_true] at h
 have h2 := List.all_eq_true.mp h.2 j (List.mem_range.mpr hj)
 rw [Bool.and_eq_true, Bool.and_eq_true] at h2
 exact isSF_ok h2.1.2
theorem eq2 (ht : t ∈ nt m u) {i j : Nat} (hi : i < 9) (hj : j < 9) : Y.D.eqE (wth i (wth j t)) (.tup []) = some false := by
 have h := List.all_eq_true.mp (eqs m u) t ht
 rw [Bool.and_eq_true] at h
 have h2 := List.all_eq_true.mp h.2 j (List.mem_range.mpr hj)
 rw [Bool.and_eq_true, Bool.and_eq_true] at h2
 exact isSF_ok (List.all_eq_true.mp h2.2 i (List.mem_range.mpr hi))
def dl (j : Nat) : Int := if j = 4 then 2 else 1
def rh (j : Nat) : Int := if j = 0 then 2 else if j = 2 then 2 else if j = 4 then 2 else if j = 5 then 3 else if j = 7 then 2 else 1
theorem wth_bad {n : Nat} {d r : Int} (j : Nat) (hj : j < 9) (hn : 30 ≤ n) (h : Bad n t (d - dl j) (r - rh j)) (e : Y.D.eqE (wth j t) (.tup []) = some false) (e2 : Y.D.eqE (prD t) (.tup []) = some false) (hd : 2 ≤ d) (hr : 4 ≤ r) : Bad (n + 4) (wth j t) d r := by
 match j, hj with
 | 0, _ => exact (wth0 hn h e hd hr).mono (by omega)
 | 1, _ => exact (wth1 hn h e hd hr).mono (by omega)
 | 2, _ => exact (wth2 hn h e hd hr).mono (by omega)
 | 3, _ => exact (wth3 hn h e hd hr).mono (by omega)
 | 4, _ => exact (wth4 hn h e e2 hd hr).mono (by omega)
 | 5, _ => exact (wth5 hn h e hd hr).mono (by omega)
 | 6, _ => exact (wth6 hn h e hd hr).mono (by omega)
 | 7, _ => exact (wth7 hn h e hd hr).mono (by omega)
 | 8, _ => exact (wth8 hn h e hd hr).mono (by omega)
theorem fais (m : Int) : (((nk m).drop 3).take 9).map fai = (nkA.drop 3).map fai ++ fai (opn m) :: (nkB.take 1).map fai := by kernel_rfl
theorem bad_nt (hm : 1 ≤ m) (hu : u < 0) (ht : t ∈ nt m u) : ∀ p ∈ rooms, Bad 30 t p.1 p.2 := fun p hp => by
 have con : ∀ t ∈ ntCon, Bad 30 t p.1 p.2 := fun t h => bad_con t h p hp
 unfold nt at ht
 rw [fais] at ht
 unfold nk at ht
 have e2 := List.all_eq_true.mp (eqs2 m) (opn m) (by unfold nk; simp)
 rw [Bool.and_eq_true, Bool.and_eq_true] at e2
 simp only [List.map_append, List.map_cons, List.mem_append, List.mem_cons] at ht
 have mem : ∀ t, t ∈ ntCon ↔ (((t ∈ ntA ∨ t ∈ ntB) ∨ (t ∈ nkA.map siz ∨ t ∈ nkB.map siz)) ∨ t ∈ ntC) ∨ (t ∈ (nkA.drop 3).map fai ∨ t ∈ (nkB.take 1).map fai) := fun t => by
  unfold ntCon
  simp only [List.map_append, List.mem_append]
 rcases ht with (((h | rfl | h) | (h | rfl | h)) | h) | (h | rfl | h)
 ·exact con t ((mem t).mpr (.inl (.inl (.inl (.inl h)))))
 ·exact bad_tak hu _ _
 ·exact con t ((mem t).mpr (.inl (.inl (.inl (.inr h)))))
 ·exact con t ((mem t).mpr (.inl (.inl (.inr (.inl h)))))
 ·exact bad_siz (nok_opn hm) (isSF_ok e2.1.2) _ _
 ·exact con t ((mem t).mpr (.inl (.inl (.inr (.inr h)))))
 ·exact con t ((mem t).mpr (.inl (.inr h)))
 ·exact con t ((mem t).mpr (.inr (.inl h)))
 ·exact bad_fai (nok_opn hm) (isSF_ok e2.2) _ _
 ·exact con t ((mem t).mpr (.inr (.inr h)))
theorem rooms2 : ∀ i, i < 9 → ∀ j, j < 9 → ((6 - dl i - dl j, 40 - rh i - rh j) : Int × Int) ∈ rooms ∧ 2 ≤ 6 - dl i ∧ 4 ≤ 40 - rh i := by decide +kernel
theorem bad_two (hm : 1 ≤ m) (hu : u < 0) (ht : t ∈ nt m u) {i j : Nat} (hi : i < 9) (hj : j < 9) : Bad 38 (wth i (wth j t)) 6 40 := by
 obtain ⟨h1, h2, h3⟩ := rooms2 i hi j hj
 have b := bad_nt hm hu ht _ h1
 have b1 := wth_bad j hj (Nat.le_refl _) b (eq1 ht hj) (eq1p ht) h2 h3
 exact wth_bad i hi (by omega) b1 (eq2 ht hi hj) (eq2p ht hj) (by decide) (by decide)
theorem bad_0 (hm : 1 ≤ m) (hu : u < 0) (ht : t ∈ nt m u) : Bad 38 t 6 40 := (bad_nt hm hu ht (6, 40) (by decide)).mono (by omega)
end
section
open Y
variable {α : Type} {a b c d e f g h i : α} {xs : List α}
@[simp] theorem atI_4 : atI (a :: b :: c :: d :: e :: xs) 4 = some e := atI_nat 4
@[simp] theorem atI_5 : atI (a :: b :: c :: d :: e :: f :: xs) 5 = some f := atI_nat 5
@[simp] theorem atI_6 : atI (a :: b :: c :: d :: e :: f :: g :: xs) 6 = some g := atI_nat 6
@[simp] theorem atI_7 : atI (a :: b :: c :: d :: e :: f :: g :: h :: xs) 7 = some h := atI_nat 7
@[simp] theorem atI_8 : atI (a :: b :: c :: d :: e :: f :: g :: h :: i :: xs) 8 = some i := atI_nat 8
end
theorem mod9 {a : Int} {j : Int} (ha : a.fmod 9 = j) : Y.D.bin .mod (.int a) (.int 9) = some (.int j) := by
 subst ha
 kernel_rfl
@[simp] theorem bySh_int (i : Int) (n : Bool) : Y.bySh (.int i) n = ⟨.int i, .fr, true⟩ := rfl
theorem t_within (t : D) (a : Int) (j : Nat) (hj : j < 9) (ha : a.fmod 9 = j) (k : Nat) : Y.Gives (sm (k + 2) f__law_within [t, .int a]) .fr (wth j t) := by
 rw [sem__law_within]
 match j, hj with
 | 0, _ | 1, _ | 2, _ | 3, _ | 4, _ | 5, _ | 6, _ | 7, _ | 8, _ =>
  have hm := mod9 ha
  simp [Y.gives_iff, b__law_within, hm, wth, num1]
end Hd
namespace Hd
open PySem PySem.Spec L2
def exR (c : Str) : Res := some (.ex ⟨c, []⟩)
def CWs : List (Str × Int) := [("BadFunction", 0), ("BadBook", 1), ("BadName", 2), ("BadKinds", 3), ("BadWorths", 4), ("BadMost", 5), ("Unfit", 6), ("TooMany", 7), ("Unending", 8)]
def bits (w : Int) : List D := [.bl (decide (0 = w)), .bl (decide (1 = w)), .bl (decide (2 = w)), .bl (decide (3 = w)), .bl (decide (4 = w)), .bl (decide (5 = w)), .bl (decide (6 = w)), .bl (decide (7 = w)), .bl (decide (8 = w)), .bl true]
def isRt (m : Y.M (Y.Fl × Y.G)) : Bool := match m with
 | some (.ok (.rt ⟨.bl true, .fr, true⟩, _)) => true
 | _ => false
theorem isRt_ok {m : Y.M (Y.Fl × Y.G)} (h : isRt m = true) : ∃ g, m = some (.ok (.rt ⟨.bl true, .fr, true⟩, g)) := by
 unfold isRt at h
 split at h
 ·exact ⟨_, rfl⟩
 ·cases h
def isKd (m : Res) (w : Int) : Bool := match m with
 | some (.ok (⟨.lst [.bl b0, .bl b1, .bl b2, .bl b3, .bl b4, .bl b5, .bl b6, .bl b7, .bl b8, .bl true], .ow, true⟩, none)) => [b0, b1, b2, b3, b4, b5, b6, b7, b8] == [decide (0 = w), decide (1 = w), decide (2 = w), decide (3 = w), decide (4 = w), decide (5 = w), decide (6 = w), decide (7 = w), decide (8 = w)]
 | _ => false
theorem isKd_ok {m : Res} {w : Int} (h : isKd m w = true) : m = some (.ok (⟨.lst (bits w), .ow, true⟩, none)) := by
 unfold isKd at h
 split at h
 ·have e := eq_of_beq h
  injection e with e0 e
  injection e with e1 e
  injection e with e2 e
  injection e with e3 e
  injection e with e4 e
  injection e with e5 e
  injection e with e6 e
  injection e with e7 e
  injection e with e8 e
  unfold bits
  rw [e0, e1, e2, e3, e4, e5, e6, e7, e8]
 ·cases h
theorem kinds_of (k : Nat) (p : Str × Int) (hp : p ∈ CWs) : Y.runF (En k) none 2 1 b__law_kinds_of [.xcp p.1] = some (.ok (⟨.lst (bits p.2), .ow, true⟩, none)) := by
 have h : (CWs.all fun p => isKd (Y.runF (En k) none 2 1 b__law_kinds_of [.xcp p.1]) p.2) = true := by kernel_rfl
 exact isKd_ok (List.all_eq_true.mp h p hp)
theorem hs_of (p : Str × Int) (hp : p ∈ CWs) : hsT.contains p.1 = true := by
 have h : (CWs.all fun p => hsT.contains p.1) = true := by kernel_rfl
 exact List.all_eq_true.mp h p hp
theorem end_of' (k : Nat) (p : Str × Int) (hp : p ∈ CWs) (c d : D) (n1 n2 n3 : Bool) : ∃ g, Y.evSs (En k) [s2__law_refused] [some ⟨c, .fr, n1⟩, some ⟨d, .fr, n2⟩, some ⟨.int p.2, .fr, n3⟩, some ⟨.lst (bits p.2), .ow, true⟩, none, none] = some (.ok (.rt ⟨.bl true, .fr, true⟩, g)) := by
 have h : (CWs.all fun p => isRt (Y.evSs (En k) [s2__law_refused] [some ⟨c, .fr, n1⟩, some ⟨d, .fr, n2⟩, some ⟨.int p.2, .fr, n3⟩, some ⟨.lst (bits p.2), .ow, true⟩, none, none])) = true := by kernel_rfl
 exact isRt_ok (List.all_eq_true.mp h p hp)
theorem bits_atom (w : Int) : (bits w).all Y.D.atom = true := by kernel_rfl
theorem refused_of {i f : Nat} {caps : List D} {d : D} {c : Str} {w : Int} (hw : (c, w) ∈ CWs) (hf : flT[i]? = some f) (p1 : Y.D.plain d = true) (p2 : Y.plainL caps = true) (k : Nat) (h : sm (k + 1) f (d :: caps) = exR c) : sm (k + 2) f__law_refused [.clo i caps, d, .int w] = okB true := by
 have h1 := kinds_of k (c, w) hw
 have h2 := hs_of (c, w) hw
 obtain ⟨g, h3⟩ := end_of' k (c, w) hw (.clo i caps) d (Y.D.atom (.clo i caps)) (Y.D.atom d) true
 rw [sem__law_refused, okB_def]
 have h4 : Y.evCatch (En k) (fun i => flT[i]?) (Y.runF (En k) none 2 1 b__law_kinds_of) 0 1 3 4 (fun c => hsT.contains c) [some ⟨.clo i caps, .fr, Y.D.atom (.clo i caps)⟩, some ⟨d, .fr, Y.D.atom d⟩, some ⟨.int w, .fr, true⟩, some ⟨.lst [], .ow, true⟩, none, none] = some (.ok (.nx, [some ⟨.clo i caps, .fr, Y.D.atom (.clo i caps)⟩, some ⟨d, .fr, Y.D.atom d⟩, some ⟨.int w, .fr, true⟩, some ⟨.lst (bits w), .ow, true⟩, none, none])) := by
  unfold Y.evCatch
  have h' : (En k).fn f (d :: caps) = some (.ex ⟨c, []⟩) := h
  have h1' : Y.runF (En k) none 2 1 b__law_kinds_of [.xcp c] = some (.ok (⟨.lst (bits w), .ow, true⟩, none)) := h1
  have h2' : hsT.contains c = true := h2
  simp only [Y.G.get_zero, Y.G.get_succ, p1, p2, Option.isNone_none, hf, h', h2', h1', bits_atom]
  simp
 have h0 : Y.evS (En k) s0__law_refused [some ⟨.clo i caps, .fr, Y.D.atom (.clo i caps)⟩, some ⟨d, .fr, Y.D.atom d⟩, some ⟨.int w, .fr, true⟩, none, none, none] = some (.ok (.nx, [some ⟨.clo i caps, .fr, Y.D.atom (.clo i caps)⟩, some ⟨d, .fr, Y.D.atom d⟩, some ⟨.int w, .fr, true⟩, some ⟨.lst [], .ow, true⟩, none, none])) := by kernel_rfl
 have h5 : Y.evRef s0__law_refused s2__law_refused flT b__law_kinds_of 2 0 1 3 4 hsT (En k) [some ⟨.clo i caps, .fr, Y.D.atom (.clo i caps)⟩, some ⟨d, .fr, Y.D.atom d⟩, some ⟨.int w, .fr, true⟩, none, none, none] = some (.ok (.rt ⟨.bl true, .fr, true⟩, g)) := by
  unfold Y.evRef Y.seqM
  rw [h0]
  simp only [Y.bnd_ok, h4]
  exact h3
 show Y.runG none 6 3 _ _ = _
 unfold Y.runG
 rw [if_pos ⟨rfl, by simp⟩]
 have e0 : Y.ent none 0 [.clo i caps, d, .int w] ++ List.replicate (6 - 3) none = [some ⟨.clo i caps, .fr, Y.D.atom (.clo i caps)⟩, some ⟨d, .fr, Y.D.atom d⟩, some ⟨.int w, .fr, true⟩, none, none, none] := by kernel_rfl
 rw [e0, h5]
 rfl
theorem every_of {cs ds : List D} {w : Int} {n : Nat} (hl : ds.length < 100000) (hl2 : cs.length < 100000) (h : ∀ c ∈ cs, ∀ d ∈ ds, ∀ k, n ≤ k → sm k f__law_refused [c, d, .int w] = okB true) (k : Nat) (hk : n + 1 ≤ k) (hk2 : 2 ≤ k) : sm k f__law_every [.lst cs, .lst ds, .int w] = okB true := by
 obtain ⟨k, rfl⟩ : ∃ j, k = j + 2 := ⟨k - 2, by omega⟩
 have lp : ∀ (us : List D) (o : Option (Y.D × Bool)) (f : Bool), (∀ u ∈ us, u ∈ cs) → ∃ o2, Y.forL (Y.forB (En k) (.one 3) f l2__law_every) us [some ⟨.lst cs, .fr, false⟩, some ⟨.lst ds, .fr, false⟩, some ⟨.int w, .fr, true⟩, Y.fro o, none] = some (.ok (.nx, [some ⟨.lst cs, .fr, false⟩, some ⟨.lst ds, .fr, false⟩, some ⟨.int w, .fr, true⟩, Y.fro o2, none])) := by
  intro us
  induction us with
  | nil => exact fun o f _ => ⟨o, by simp⟩
  | cons u us ih =>
   intro o f hu
   obtain ⟨o2, h2⟩ := ih (some (u, f || Y.D.atom u)) f (fun v hv => hu v (by simp [hv]))
   obtain ⟨f2, q⟩ := Y.comp1 (E := En k) (i := 4) (c := .var 1) (elt := .call f__law_refused [.var 3, .var 4, .var 2]) (dl := .lst ds) (m := .fr) (n := false) (g := [some ⟨.lst cs, .fr, false⟩, some ⟨.lst ds, .fr, false⟩, some ⟨.int w, .fr, true⟩, some ⟨u, .fr, f || Y.D.atom u⟩, none]) ds id (fun _ => .bl true) (by simp) (by simp) (by simp) (by simp) (by simpa using hl) (fun x hx nf => by
    have h1 := h u (hu u (by simp)) x hx (k + 1) (by omega)
    rw [okB_def] at h1
    simp [Y.evD, h1])
   rw [show Y.C.comp [4] (.one 4) .any [.var 1] none (.call f__law_refused [.var 3, .var 4, .var 2]) = q1__law_every from rfl] at q
   refine ⟨o2, ?_⟩
   have e : Y.blsD (ds.map fun _ => (.bl true : D)) = some (ds.map fun _ => true) := by
    clear q h hl
    induction ds with
    | nil => rfl
    | cons d ds ih => simp [Y.blsD, ih]
   rw [Y.fro_some] at q
   rw [Y.forL_cons]
   simp only [← Y.fro_some, l2__law_every] at h2 q
   simp [l2__law_every, q, Y.biD, e, h2, Y.tst]
 obtain ⟨o2, h2⟩ := lp cs none false fun _ h => h
 rw [sem__law_every, okB_def]
 simp only [← Y.fro_none] at h2
 simp [b__law_every, h2]
end Hd
namespace Hd
open PySem PySem.Spec L2
theorem exR_def (c : Str) : exR c = some (.ex ⟨c, []⟩) := rfl
def ob0 : D := .obj "Function" [] []
theorem nm_f (k : Nat) : sm (k + 4) f_is_name [.str "f"] = okB true := by kernel_rfl
theorem nk_num (k : Nat) : sm (k + 4) f_is_kind [.str "num", .int 1, .int 4] = okB true := by kernel_rfl
section
variable {k : Nat}
theorem init_opens {x : Int} (hx : x < 0 ∨ 2 < x) (b : D) : sm (k + 6) f_Function___init__ [ob0, .str "f", .int x, .lst [], .str "num", b] = exR "BadFunction" := by
 have h1 := nm_f (k + 1)
 have h2 := whole x (k + 3)
 rw [okB_def] at h1 h2
 rw [sem_Function___init__, exR_def]
 rcases hx with h | h
 ·have h3 : ¬ (0 ≤ x) := by omega
  simp [b_Function___init__, ob0, h1, h2, h3]
 ·have h3 : 0 ≤ x := by omega
  have h4 : ¬ (x ≤ 2) := by omega
  simp [b_Function___init__, ob0, h1, h2, h3, h4]
theorem init_gives {κ : D} (hκ : NoK κ) (hk : 20 ≤ k) (b : D) : sm (k + 6) f_Function___init__ [ob0, .str "f", .int 1, .lst [], κ, b] = exR "BadFunction" := by
 have h1 := nm_f (k + 1)
 have h2 := whole 1 (k + 3)
 have h3 := hκ (k + 5) (by omega)
 have h4 : Y.evE (En (k + 4)) q1_Function___init__ [some ⟨ob0, .io, true⟩, some ⟨.str "f", .fr, true⟩, some ⟨.int 1, .fr, true⟩, some ⟨.lst [], .fr, false⟩, some ⟨κ, .fr, Y.D.atom κ⟩, some ⟨b, .fr, Y.D.atom b⟩, none] = some (.ok (⟨.lst [], .ow, true⟩, [some ⟨ob0, .io, true⟩, some ⟨.str "f", .fr, true⟩, some ⟨.int 1, .fr, true⟩, some ⟨.lst [], .fr, false⟩, some ⟨κ, .fr, Y.D.atom κ⟩, some ⟨b, .fr, Y.D.atom b⟩, none])) := by kernel_rfl
 rw [okB_def] at h1 h2 h3
 rw [sem_Function___init__, exR_def]
 unfold ob0 at *
 simp [b_Function___init__, h1, h2, h3, h4, Y.blsD, Y.D.kidsAtom]
theorem init_body {t : D} (ht : Bad 38 t 6 40) (hk : 40 ≤ k) : sm (k + 6) f_Function___init__ [ob0, .str "f", .int 1, .lst [], .str "num", t] = exR "BadFunction" := by
 have h1 := nm_f (k + 1)
 have h2 := whole 1 (k + 3)
 have h3 := nk_num (k + 1)
 have h5 := ht (k + 4) (by omega)
 have h4 : Y.evE (En (k + 4)) q1_Function___init__ [some ⟨ob0, .io, true⟩, some ⟨.str "f", .fr, true⟩, some ⟨.int 1, .fr, true⟩, some ⟨.lst [], .fr, false⟩, some ⟨.str "num", .fr, true⟩, some ⟨t, .fr, Y.D.atom t⟩, none] = some (.ok (⟨.lst [], .ow, true⟩, [some ⟨ob0, .io, true⟩, some ⟨.str "f", .fr, true⟩, some ⟨.int 1, .fr, true⟩, some ⟨.lst [], .fr, false⟩, some ⟨.str "num", .fr, true⟩, some ⟨t, .fr, Y.D.atom t⟩, none])) := by kernel_rfl
 have h6 : sm (k + 5) f_is_term [t, .int 1] = okB false := by
  rw [okI_def] at h5
  rw [sem_is_term, okB_def]
  simp [b_is_term, h5]
 rw [okB_def] at h1 h2 h3 h6
 rw [sem_Function___init__, exR_def]
 unfold ob0 at *
 simp [b_Function___init__, h1, h2, h3, h4, h6, Y.blsD, Y.D.kidsAtom]
theorem init_takes {κ : D} (hκ : NoK κ) (hk : 20 ≤ k) (b : D) : sm (k + 6) f_Function___init__ [ob0, .str "f", .int 1, .lst [κ], .str "num", b] = exR "BadFunction" := by
 have h1 := nm_f (k + 1)
 have h2 := whole 1 (k + 3)
 have h3 := hκ (k + 5) (by omega)
 rw [okB_def] at h1 h2 h3
 obtain ⟨f2, q⟩ := Y.comp1 (E := En (k + 4)) (i := 6) (c := .var 3) (elt := .call f_is_kind [.var 6, .var 2]) (dl := .lst [κ]) (m := .fr) (n := false) (g := [some ⟨.obj "Function" [] [], .io, true⟩, some ⟨.str "f", .fr, true⟩, some ⟨.int 1, .fr, true⟩, some ⟨.lst [κ], .fr, false⟩, some ⟨.str "num", .fr, true⟩, some ⟨b, .fr, Y.D.atom b⟩, none]) [κ] id (fun _ => .bl false) (by simp) (by simp) (by simp) (by simp) (by simp) (fun x hx nf => by
    simp at hx
    subst hx
    simp [Y.evD, h3])
 rw [show Y.C.comp [6] (.one 6) .any [.var 3] none (.call f_is_kind [.var 6, .var 2]) = q1_Function___init__ from rfl] at q
 rw [sem_Function___init__, exR_def]
 unfold ob0 at *
 simp [b_Function___init__, h1, h2, q, Y.blsD, Y.D.kidsAtom]
end
theorem lam_opens {x : Int} (hx : x < 0 ∨ 2 < x) (b : D) (k : Nat) (hk : 50 ≤ k) : sm k 26 [.int x, b] = exR "BadFunction" := by
 obtain ⟨k, rfl⟩ : ∃ j, k = j + 8 := ⟨k - 8, by omega⟩
 have h := init_opens (k := k) hx b
 rw [exR_def] at h
 rw [sem_lc_1, exR_def]
 unfold ob0 at h
 simp [Y.semC, lc_1, h]
theorem lam_takes {κ : D} (hκ : NoK κ) (b : D) (k : Nat) (hk : 50 ≤ k) : sm k 27 [.lst [κ], b] = exR "BadFunction" := by
 obtain ⟨k, rfl⟩ : ∃ j, k = j + 8 := ⟨k - 8, by omega⟩
 have h := init_takes (k := k) hκ (by omega) b
 rw [exR_def] at h
 rw [sem_lc_2, exR_def]
 unfold ob0 at h
 simp [Y.semC, lc_2, h]
theorem lam_gives {κ : D} (hκ : NoK κ) (b : D) (k : Nat) (hk : 50 ≤ k) : sm k 28 [κ, b] = exR "BadFunction" := by
 obtain ⟨k, rfl⟩ : ∃ j, k = j + 8 := ⟨k - 8, by omega⟩
 have h := init_gives (k := k) hκ (by omega) b
 rw [exR_def] at h
 rw [sem_lc_3, exR_def]
 unfold ob0 at h
 simp [Y.semC, lc_3, h]
theorem lam_body {t : D} (ht : Bad 38 t 6 40) (k : Nat) (hk : 50 ≤ k) : sm k 29 [t] = exR "BadFunction" := by
 obtain ⟨k, rfl⟩ : ∃ j, k = j + 8 := ⟨k - 8, by omega⟩
 have h := init_body (k := k) ht (by omega)
 rw [exR_def] at h
 rw [sem_lc_4, exR_def]
 unfold ob0 at h
 simp [Y.semC, lc_4, h]
end Hd
namespace Hd
open PySem PySem.Spec L2
def Ref (i : Nat) (caps : List D) (w : Int) (d : D) : Prop := ∀ k, 60 ≤ k → sm k f__law_refused [.clo i caps, d, .int w] = okB true
theorem ref_con {i : Nat} {caps : List D} {w : Int} {ds : List D} (h : ∀ k, (ds.all fun d => isT (sm (k + 60) f__law_refused [.clo i caps, d, .int w])) = true) : ∀ d ∈ ds, Ref i caps w d := fun d hd k hk => by
 obtain ⟨j, rfl⟩ : ∃ j, k = j + 60 := ⟨k - 60, by omega⟩
 exact isT_ok (List.all_eq_true.mp (h j) d hd)
theorem ref_lam {i f : Nat} {caps : List D} {w : Int} {c : Str} {d : D} (hw : (c, w) ∈ CWs) (hf : flT[i]? = some f) (p1 : Y.D.plain d = true) (p2 : Y.plainL caps = true) (h : ∀ k, 50 ≤ k → sm k f (d :: caps) = exR c) : Ref i caps w d := fun k hk => by
 obtain ⟨j, rfl⟩ : ∃ j, k = j + 2 := ⟨k - 2, by omega⟩
 exact refused_of hw hf p1 p2 j (h (j + 1) (by omega))
theorem ref_every {i : Nat} {caps : List D} {w : Int} {ds : List D} (hl : ds.length < 100000) (h : ∀ d ∈ ds, Ref i caps w d) (k : Nat) (hk : 61 ≤ k) : sm k f__law_every [.lst [.clo i caps], .lst ds, .int w] = okB true :=
 every_of (n := 60) hl (by simp) (fun c hc d hd j hj => by
  simp at hc
  subst hc
  exact h d hd j hj) k (by omega) (by omega)
def namesL : List D := [.non, .int 5, .str "", .str "F", .str "a b", .str "abcdefghi", .str "f1", .str "a\n", .lst [.str "f"], .tup [.str "f"], .bl true, .str "_f"]
def opensA : List D := [.non, .str "1", .bl true, .int (-1), .int 3]
def opensB : List D := [.lst [.int 1], .tup [.int 1]]
def opensL (a b : Int) : List D := opensA ++ .int a :: .int b :: opensB
def reps (n : Nat) : D := .lst (List.replicate n (.str "num"))
def takesA (r : Nat) : List D := [.non, .str "num", .tup [.str "num"], .dct [] [], reps 4, reps (4 + r), .int 5]
def ntt (κ : D) : D := .lst [.str "num", .str "truth", κ]
def takesL (r : Nat) (m : Int) : List D := takesA r ++ (nk m).map (fun κ => .lst [κ]) ++ ((nk m).take 9).map ntt
theorem ref_names : ∀ d ∈ namesL, Ref 0 [num1] 0 d := ref_con fun k => by kernel_rfl
theorem ref_opens {a b : Int} (ha : 3 ≤ a) (hb : b < 0) : ∀ d ∈ opensL a b, Ref 1 [num1] 0 d := fun d hd => by
 have h1 : ∀ d ∈ opensA ++ opensB, Ref 1 [num1] 0 d := ref_con fun k => by kernel_rfl
 unfold opensL at hd
 rw [List.mem_append, List.mem_cons, List.mem_cons] at hd
 rcases hd with h | rfl | rfl | h
 ·exact h1 d (List.mem_append.mpr (.inl h))
 ·exact ref_lam (c := "BadFunction") (by simp [CWs]) (f := 26) (by kernel_rfl) rfl (by kernel_rfl) (lam_opens (.inr (by omega)) num1)
 ·exact ref_lam (c := "BadFunction") (by simp [CWs]) (f := 26) (by kernel_rfl) rfl (by kernel_rfl) (lam_opens (.inl hb) num1)
 ·exact h1 d (List.mem_append.mpr (.inr h))
theorem take9 (m : Int) : (nk m).take 9 = nkA.take 9 := by kernel_rfl
theorem ref_takes {m : Int} (hm : 1 ≤ m) {r : Nat} (hr : r < 9) : ∀ d ∈ takesL r m, Ref 2 [num1] 0 d := fun d hd => by
 have hA : ∀ d ∈ [reps 4, reps 5, reps 6, reps 7, reps 8, reps 9, reps 10, reps 11, reps 12, .non, .str "num", .tup [.str "num"], .dct [] [], .int 5], Ref 2 [num1] 0 d := ref_con fun k => by kernel_rfl
 have hB : ∀ d ∈ (nkA.take 9).map ntt, Ref 2 [num1] 0 d := ref_con fun k => by kernel_rfl
 have hC : ∀ κ ∈ nkA ++ nkB, Y.D.plain (.lst [κ] : D) = true := fun κ hκ => by
  have h : ((nkA ++ nkB).all fun κ => Y.D.plain (.lst [κ] : D)) = true := by kernel_rfl
  exact List.all_eq_true.mp h κ hκ
 unfold takesL at hd
 rw [take9, List.mem_append, List.mem_append] at hd
 rcases hd with (h | h) | h
 ·refine hA d ?_
  unfold takesA at h
  match r, hr with
  | 0, _ | 1, _ | 2, _ | 3, _ | 4, _ | 5, _ | 6, _ | 7, _ | 8, _ =>
   simp only [List.mem_cons, List.not_mem_nil, or_false] at h ⊢
   rcases h with h | h | h | h | h | h | h <;> simp [h]
 ·obtain ⟨κ, hκ, rfl⟩ := List.mem_map.mp h
  have hp : Y.D.plain (.lst [κ] : D) = true := by
   unfold nk at hκ
   rw [List.mem_append, List.mem_cons] at hκ
   rcases hκ with z | rfl | z
   ·exact hC κ (List.mem_append.mpr (.inl z))
   ·rfl
   ·exact hC κ (List.mem_append.mpr (.inr z))
  exact ref_lam (c := "BadFunction") (by simp [CWs]) (f := 27) (by kernel_rfl) hp (by kernel_rfl) (lam_takes (nok_nk hm κ hκ) num1)
 ·exact hB d h
theorem ref_gives {m : Int} (hm : 1 ≤ m) : ∀ d ∈ nk m, Ref 3 [num1] 0 d := fun κ hκ => by
 have h : ((nk m).all fun κ => Y.D.plain κ) = true := by kernel_rfl
 exact ref_lam (c := "BadFunction") (by simp [CWs]) (f := 28) (by kernel_rfl) (List.all_eq_true.mp h κ hκ) (by kernel_rfl) (lam_gives (nok_nk hm κ hκ) num1)
theorem plain_wth {t : D} (h : Y.D.plain t = true) (j : Nat) : Y.D.plain (wth j t) = true := by
 unfold wth
 split <;> simp [Y.D.plain, Y.plainL, h, num1]
def two (far : Int) (p : D × Nat) : D := wth (((far.fdiv 9 + (p.2 : Int)).fmod 9).toNat) (wth (((far + (p.2 : Int)).fmod 9).toNat) p.1)
theorem fm9 (a : Int) : ∃ j : Nat, j < 9 ∧ a.fmod 9 = j ∧ (a.fmod 9).toNat = j := by
 have h1 := Int.fmod_nonneg_of_pos a (show (0 : Int) < 9 by omega)
 have h2 := Int.fmod_lt_of_pos a (show (0 : Int) < 9 by omega)
 exact ⟨(a.fmod 9).toNat, by omega, by omega, rfl⟩
theorem ref_terms {m u : Int} (hm : 1 ≤ m) (hu : u < 0) (far : Int) : ∀ d ∈ nt m u ++ ((nt m u).zipIdx).map (two far), Ref 4 [] 0 d := fun d hd => by
 have hpl : ∀ t ∈ nt m u, Y.D.plain t = true := fun t ht => by
  have h : ((nt m u).all fun t => Y.D.plain t) = true := by kernel_rfl
  exact List.all_eq_true.mp h t ht
 rw [List.mem_append] at hd
 rcases hd with h | h
 ·exact ref_lam (c := "BadFunction") (by simp [CWs]) (f := 29) (by kernel_rfl) (hpl d h) (by kernel_rfl) (lam_body (bad_0 hm hu h))
 ·obtain ⟨⟨t, i⟩, hp, rfl⟩ := List.mem_map.mp h
  have ht : t ∈ nt m u := by
   obtain ⟨_, _, e⟩ := List.mem_zipIdx hp
   rw [e]
   exact List.getElem_mem _
  obtain ⟨j1, h1, _, e1⟩ := fm9 (far.fdiv 9 + (i : Int))
  obtain ⟨j2, h2, _, e2⟩ := fm9 (far + (i : Int))
  unfold two
  dsimp only
  rw [e1, e2]
  exact ref_lam (c := "BadFunction") (by simp [CWs]) (f := 29) (by kernel_rfl) (plain_wth (plain_wth (hpl t ht) _) _) (by kernel_rfl) (lam_body (bad_two hm hu ht h1 h2))
end Hd
namespace Hd
open PySem PySem.Spec L2
theorem evEv_ok {k : Nat} {ls : List (Nat × List Nat)} {cs : List Y.C} {g g1 : Y.G} {as : List Y.Ar} {ds cl : List D} (hn : cs.length = 2) (h1 : Y.evA (En k) none 1 cs g = some (.ok (as, g1))) (h2 : Y.arsD g1 as = some ds) (h3 : Y.closD g1 ls = some cl) (h4 : sm (k + 1) f__law_every (.lst cl :: ds) = okB true) : Y.evEv (En k) f__law_every ls cs g = some (.ok (true, g1)) := by
 unfold Y.evEv
 rw [hn, if_pos ⟨io__law_every k, np__law_every k, by rw [more__law_every]; rfl⟩, h1]
 try dsimp only
 rw [h2, h3]
 try dsimp only
 rw [show (En k).fn f__law_every (.lst cl :: ds) = okB true from h4]
 rfl
theorem if1 {k : Nat} {e : Y.EvA} {g g1 : Y.G} (h : Y.evEv (En k) f__law_every e.1 e.2 g = some (.ok (true, g1))) : Y.evIfE (En k) f__law_every [e] g = some (.ok (.nx, g1)) := by
 unfold Y.evIfE Y.evAll
 rw [h]
 rfl
theorem if2 {k : Nat} {e e2 : Y.EvA} {g g1 g2 : Y.G} (h : Y.evEv (En k) f__law_every e.1 e.2 g = some (.ok (true, g1))) (h2 : Y.evEv (En k) f__law_every e2.1 e2.2 g1 = some (.ok (true, g2))) : Y.evIfE (En k) f__law_every [e, e2] g = some (.ok (.nx, g2)) := by
 unfold Y.evIfE Y.evAll
 rw [h]
 simp only [Y.bnd_ok]
 unfold Y.evAll
 rw [h2]
 rfl
theorem rt1 {k : Nat} {e : Y.EvA} {g g1 : Y.G} (h : Y.evEv (En k) f__law_every e.1 e.2 g = some (.ok (true, g1))) : Y.evRtE (En k) f__law_every [e] g = some (.ok (.rt ⟨.bl true, .fr, true⟩, g1)) := by
 unfold Y.evRtE Y.evAll
 rw [h]
 rfl
theorem seq_nx {a b : Y.G → Y.M (Y.Fl × Y.G)} {g g1 : Y.G} (h : a g = some (.ok (.nx, g1))) : Y.seqM a b g = b g1 := by
 unfold Y.seqM
 rw [h]
 rfl
def fs0 (far : Int) : Y.G := [some ⟨.int far, .fr, true⟩, none, none, none, none, none, none, none, none, none, none]
def fs (far : Int) (s1 s2 s3 s5 : Option Y.Sl) (r : Int) : Y.G := [some ⟨.int far, .fr, true⟩, s1, s2, s3, none, s5, some ⟨.int r, .fr, true⟩, some ⟨num1, .fr, true⟩, none, none, none]
section
variable {k : Nat} {far r : Int}
theorem f_1 : Y.evS (En k) (.par2 6 7 (.bin .mod (.var 0) (.int 9)) (.tup [.str "num", .int 1])) (fs0 far) = some (.ok (.nx, fs far none none none none (far.fmod 9))) := by kernel_rfl
theorem f_2 : Y.evS (En k) (.asg 1 (.lst [.non, .int 5, .str "", .str "F", .str "a b", .str "abcdefghi", .str "f1", .str "a\n", .lst [.str "f"], .tup [.str "f"], .bl true, .str "_f"])) (fs far none none none none r) = some (.ok (.nx, fs far (some ⟨.lst namesL, .ow, true⟩) none none none r)) := by kernel_rfl
theorem f_3 : Y.evS (En k) (.asg 2 (.lst [.non, .str "1", .bl true, .neg (.int 1), .int 3, .bin .add (.int 3) (.var 0), .bin .sub (.neg (.var 0)) (.int 1), .lst [.int 1], .tup [.int 1]])) (fs far (some ⟨.lst namesL, .ow, true⟩) none none none r) = some (.ok (.nx, fs far (some ⟨.lst namesL, .ow, true⟩) (some ⟨.lst (opensL (3 + far) (-far - 1)), .ow, true⟩) none none r)) := by kernel_rfl
end
theorem f_4 {k : Nat} {far : Int} {s1 s2 : Y.Sl} {r : Nat} (hr : r < 9) : Y.evS (En (k + 10)) (.asg 3 (.bin .add (.lst [.non, .str "num", .tup [.str "num"], .dnew, .bin .mul (.lst [.str "num"]) (.int 4), .bin .mul (.lst [.str "num"]) (.bin .add (.int 4) (.var 6)), .int 5]) (q1__law_fields_right))) (fs far (some s1) (some s2) none none r)
  = some (.ok (.nx, fs far (some s1) (some s2) (some ⟨.lst (takesA r ++ (nk (1 + far)).map (fun κ => .lst [κ])), .ow, true⟩) none r)) := by
 match r, hr with
 | 0, _ => kernel_rfl
 | 1, _ => kernel_rfl
 | 2, _ => kernel_rfl
 | 3, _ => kernel_rfl
 | 4, _ => kernel_rfl
 | 5, _ => kernel_rfl
 | 6, _ => kernel_rfl
 | 7, _ => kernel_rfl
 | 8, _ => kernel_rfl
theorem f_5 {k : Nat} {far : Int} {s1 s2 : Y.Sl} {r : Nat} : Y.evS (En (k + 10)) (.asg 3 (.bin .add (.var 3) (q2__law_fields_right))) (fs far (some s1) (some s2) (some ⟨.lst (takesA r ++ (nk (1 + far)).map (fun κ => .lst [κ])), .ow, true⟩) none r)
  = some (.ok (.nx, fs far (some s1) (some s2) (some ⟨.lst (takesL r (1 + far)), .ow, true⟩) none r)) := by kernel_rfl
theorem f_6 {k : Nat} {far : Int} {s1 s2 s3 : Y.Sl} {r : Int} : Y.evS (En (k + 10)) (.asg 5 (.call f__law_no_terms [.var 0])) (fs far (some s1) (some s2) (some s3) none r)
  = some (.ok (.nx, fs far (some s1) (some s2) (some s3) (some ⟨.lst (nt (1 + far) (-1 - far)), .ow, true⟩) r)) := by kernel_rfl
theorem nt_len (m u : Int) : (nt m u).length = 71 := by kernel_rfl
theorem q3_ev {k : Nat} {far : Int} {s1 s2 s3 : Y.Sl} {r : Int} {n : Bool} : ∃ f, Y.evE (En (k + 10)) q3__law_fields_right (fs far (some s1) (some s2) (some s3) (some ⟨.lst (nt (1 + far) (-1 - far)), .ow, n⟩) r) = some (.ok (⟨.lst (((nt (1 + far) (-1 - far)).zipIdx).map (two far)), .ow, f⟩, fs far (some s1) (some s2) (some s3) (some ⟨.lst (nt (1 + far) (-1 - far)), .fr, n⟩) r)) := by
 obtain ⟨f, h⟩ := Y.comp_rule (E := En (k + 10)) (own := [9, 10]) (tg := .tup [9, 10]) (k := .enum) (its := [.var 5]) (elt := .call f__law_within [.call f__law_within [.var 10, .bin .add (.var 0) (.var 9)], .bin .add (.bin .fdiv (.var 0) (.int 9)) (.var 9)])
  (ss := [⟨.lst (nt (1 + far) (-1 - far)), .fr, n⟩]) (g := fs far (some s1) (some s2) (some s3) (some ⟨.lst (nt (1 + far) (-1 - far)), .ow, n⟩) r) (g1 := fs far (some s1) (some s2) (some s3) (some ⟨.lst (nt (1 + far) (-1 - far)), .fr, n⟩) r) (n := n) ((nt (1 + far) (-1 - far)).zipIdx) (fun p => .tup [.int (p.2 : Nat), p.1]) (two far)
  (by simp [fs]) rfl rfl (by simp [nt_len]) (fun p hp => by
   obtain ⟨t, i⟩ := p
   obtain ⟨j1, h1, a1, e1⟩ := fm9 (far.fdiv 9 + (i : Int))
   obtain ⟨j2, h2, a2, e2⟩ := fm9 (far + (i : Int))
   obtain ⟨n2, w2⟩ := (t_within t (far + (i : Int)) j2 h2 a2 (k + 9)).n
   obtain ⟨n1, w1⟩ := (t_within (wth j2 t) (far.fdiv 9 + (i : Int)) j1 h1 a1 (k + 9)).n
   have hd : Y.D.bin .fdiv (.int far) (.int 9) = some (.int (far.fdiv 9)) := by kernel_rfl
   refine ⟨[some ⟨.int far, .fr, true⟩, some s1, some s2, some s3, none, some ⟨.lst (nt (1 + far) (-1 - far)), .fr, n⟩, some ⟨.int r, .fr, true⟩, some ⟨num1, .fr, true⟩, none, some ⟨.int i, .fr, true⟩, some ⟨t, .fr, n || Y.D.atom t⟩], two far (t, i), .fr, n1 || Y.D.atom (two far (t, i)), [some ⟨.int far, .fr, true⟩, some s1, some s2, some s3, none, some ⟨.lst (nt (1 + far) (-1 - far)), .fr, n⟩, some ⟨.int r, .fr, true⟩, some ⟨num1, .fr, true⟩, none, some ⟨.int i, .fr, true⟩, some ⟨t, .fr, n || Y.D.atom t⟩], ?_, ?_, rfl, ?_⟩
   ·simp [fs]
   ·unfold two
    dsimp only
    rw [e1, e2]
    simp [hd, w1, w2]
   ·simp [fs])
 refine ⟨f, h.trans ?_⟩
 simp [fs]
theorem add_l (a b : List D) : Y.D.bin .add (.lst a) (.lst b) = if a.length + b.length ≤ Y.lim then some (.lst (a ++ b)) else none := rfl
theorem op_len (a b : Int) : (opensL a b).length = 9 := rfl
theorem nk_len (m : Int) : (nk m).length = 23 := by kernel_rfl
theorem tk_len (r : Nat) (m : Int) : (takesL r m).length = 39 := by kernel_rfl
theorem f_7 {k : Nat} {far : Int} {s1 s2 s3 : Y.Sl} {r : Int} : ∃ n, Y.evS (En (k + 10)) (.asg 5 (.bin .add (.var 5) (q3__law_fields_right))) (fs far (some s1) (some s2) (some s3) (some ⟨.lst (nt (1 + far) (-1 - far)), .ow, true⟩) r)
  = some (.ok (.nx, fs far (some s1) (some s2) (some s3) (some ⟨.lst (nt (1 + far) (-1 - far) ++ ((nt (1 + far) (-1 - far)).zipIdx).map (two far)), .ow, n⟩) r)) := by
 obtain ⟨f, h⟩ := q3_ev (k := k) (far := far) (s1 := s1) (s2 := s2) (s3 := s3) (r := r) (n := true)
 refine ⟨true && f, ?_⟩
 have hadd : Y.D.bin .add (.lst (nt (1 + far) (-1 - far))) (.lst (((nt (1 + far) (-1 - far)).zipIdx).map (two far))) = some (.lst (nt (1 + far) (-1 - far) ++ ((nt (1 + far) (-1 - far)).zipIdx).map (two far))) := by
  rw [add_l, if_pos]
  rw [List.length_map, List.length_zipIdx, nt_len]
  decide
 unfold fs at h ⊢
 simp [h, hadd, Y.bySh]
theorem fr1 {k : Nat} {far : Int} (h0 : 0 ≤ far) : ∃ g, Y.evSEs (En (k + 80)) f__law_every ss__law_fields_right (fs0 far) = some (.ok (.rt ⟨.bl true, .fr, true⟩, g)) := by
 obtain ⟨r, hr, e, _⟩ := fm9 far
 have hm : 1 ≤ 1 + far := by omega
 have hu : -1 - far < 0 := by omega
 have h1 := f_1 (k := k + 80) (far := far)
 rw [e] at h1
 have h2 := f_2 (k := k + 80) (far := far) (r := r)
 have h3 := f_3 (k := k + 80) (far := far) (r := r)
 have h4 := f_4 (k := k + 70) (far := far) (s1 := ⟨.lst namesL, .ow, true⟩) (s2 := ⟨.lst (opensL (3 + far) (-far - 1)), .ow, true⟩) hr
 have h5 := f_5 (k := k + 70) (far := far) (s1 := ⟨.lst namesL, .ow, true⟩) (s2 := ⟨.lst (opensL (3 + far) (-far - 1)), .ow, true⟩) (r := r)
 have c1 : Y.evEv (En (k + 80)) f__law_every [(0, [7])] [.var 1, .int 0] (fs far (some ⟨.lst namesL, .ow, true⟩) (some ⟨.lst (opensL (3 + far) (-far - 1)), .ow, true⟩) (some ⟨.lst (takesL r (1 + far)), .ow, true⟩) none r) = some (.ok (true, fs far (some ⟨.lst namesL, .fr, true⟩) (some ⟨.lst (opensL (3 + far) (-far - 1)), .ow, true⟩) (some ⟨.lst (takesL r (1 + far)), .ow, true⟩) none r)) :=
  evEv_ok (as := [.val ⟨.lst namesL, .fr, true⟩, .val ⟨.int 0, .fr, true⟩]) (ds := [.lst namesL, .int 0]) (cl := [.clo 0 [num1]]) rfl (by kernel_rfl) rfl rfl (ref_every (by decide) ref_names _ (by omega))
 have c2 : Y.evEv (En (k + 80)) f__law_every [(1, [7])] [.var 2, .int 0] (fs far (some ⟨.lst namesL, .fr, true⟩) (some ⟨.lst (opensL (3 + far) (-far - 1)), .ow, true⟩) (some ⟨.lst (takesL r (1 + far)), .ow, true⟩) none r) = some (.ok (true, fs far (some ⟨.lst namesL, .fr, true⟩) (some ⟨.lst (opensL (3 + far) (-far - 1)), .fr, true⟩) (some ⟨.lst (takesL r (1 + far)), .ow, true⟩) none r)) :=
  evEv_ok (as := [.val ⟨.lst (opensL (3 + far) (-far - 1)), .fr, true⟩, .val ⟨.int 0, .fr, true⟩]) (ds := [.lst (opensL (3 + far) (-far - 1)), .int 0]) (cl := [.clo 1 [num1]]) rfl (by kernel_rfl) rfl rfl (ref_every (by rw [op_len]; decide) (ref_opens (by omega) (by omega)) _ (by omega))
 have c3 : Y.evEv (En (k + 80)) f__law_every [(2, [7])] [.var 3, .int 0] (fs far (some ⟨.lst namesL, .fr, true⟩) (some ⟨.lst (opensL (3 + far) (-far - 1)), .fr, true⟩) (some ⟨.lst (takesL r (1 + far)), .ow, true⟩) none r) = some (.ok (true, fs far (some ⟨.lst namesL, .fr, true⟩) (some ⟨.lst (opensL (3 + far) (-far - 1)), .fr, true⟩) (some ⟨.lst (takesL r (1 + far)), .fr, true⟩) none r)) :=
  evEv_ok (as := [.val ⟨.lst (takesL r (1 + far)), .fr, true⟩, .val ⟨.int 0, .fr, true⟩]) (ds := [.lst (takesL r (1 + far)), .int 0]) (cl := [.clo 2 [num1]]) rfl (by kernel_rfl) rfl rfl (ref_every (by rw [tk_len]; decide) (ref_takes hm hr) _ (by omega))
 have c4 : Y.evEv (En (k + 80)) f__law_every [(3, [7])] [.call f__law_no_kinds [.var 0], .int 0] (fs far (some ⟨.lst namesL, .fr, true⟩) (some ⟨.lst (opensL (3 + far) (-far - 1)), .fr, true⟩) (some ⟨.lst (takesL r (1 + far)), .fr, true⟩) none r) = some (.ok (true, fs far (some ⟨.lst namesL, .fr, true⟩) (some ⟨.lst (opensL (3 + far) (-far - 1)), .fr, true⟩) (some ⟨.lst (takesL r (1 + far)), .fr, true⟩) none r)) :=
  evEv_ok (as := [.val ⟨.lst (nk (1 + far)), .fr, true⟩, .val ⟨.int 0, .fr, true⟩]) (ds := [.lst (nk (1 + far)), .int 0]) (cl := [.clo 3 [num1]]) rfl (by kernel_rfl) rfl rfl (ref_every (by rw [nk_len]; decide) (ref_gives hm) _ (by omega))
 have h6 := f_6 (k := k + 70) (far := far) (s1 := ⟨.lst namesL, .fr, true⟩) (s2 := ⟨.lst (opensL (3 + far) (-far - 1)), .fr, true⟩) (s3 := ⟨.lst (takesL r (1 + far)), .fr, true⟩) (r := r)
 obtain ⟨n, h7⟩ := f_7 (k := k + 70) (far := far) (s1 := ⟨.lst namesL, .fr, true⟩) (s2 := ⟨.lst (opensL (3 + far) (-far - 1)), .fr, true⟩) (s3 := ⟨.lst (takesL r (1 + far)), .fr, true⟩) (r := r)
 have c5 : Y.evEv (En (k + 80)) f__law_every [(4, [])] [.var 5, .int 0] (fs far (some ⟨.lst namesL, .fr, true⟩) (some ⟨.lst (opensL (3 + far) (-far - 1)), .fr, true⟩) (some ⟨.lst (takesL r (1 + far)), .fr, true⟩) (some ⟨.lst (nt (1 + far) (-1 - far) ++ ((nt (1 + far) (-1 - far)).zipIdx).map (two far)), .ow, n⟩) r) = some (.ok (true, fs far (some ⟨.lst namesL, .fr, true⟩) (some ⟨.lst (opensL (3 + far) (-far - 1)), .fr, true⟩) (some ⟨.lst (takesL r (1 + far)), .fr, true⟩) (some ⟨.lst (nt (1 + far) (-1 - far) ++ ((nt (1 + far) (-1 - far)).zipIdx).map (two far)), .fr, n⟩) r)) :=
  evEv_ok (as := [.val ⟨.lst (nt (1 + far) (-1 - far) ++ ((nt (1 + far) (-1 - far)).zipIdx).map (two far)), .fr, n⟩, .val ⟨.int 0, .fr, true⟩]) (ds := [.lst (nt (1 + far) (-1 - far) ++ ((nt (1 + far) (-1 - far)).zipIdx).map (two far)), .int 0]) (cl := [.clo 4 []]) rfl (by kernel_rfl) rfl rfl (ref_every (by rw [List.length_append, List.length_map, List.length_zipIdx, nt_len]; decide) (ref_terms hm hu far) _ (by omega))
 refine ⟨fs far (some ⟨.lst namesL, .fr, true⟩) (some ⟨.lst (opensL (3 + far) (-far - 1)), .fr, true⟩) (some ⟨.lst (takesL r (1 + far)), .fr, true⟩) (some ⟨.lst (nt (1 + far) (-1 - far) ++ ((nt (1 + far) (-1 - far)).zipIdx).map (two far)), .fr, n⟩) r, ?_⟩
 unfold ss__law_fields_right
 simp only [Y.evSEs, Y.evSE]
 rw [seq_nx h1, seq_nx h2, seq_nx h3, seq_nx h4, seq_nx h5]
 have fz : ∀ (s1 s2 s3 s5 : Option Y.Sl) (r : Int), Y.frzG (fs far s1 s2 s3 s5 r) [7] = fs far s1 s2 s3 s5 r := fun _ _ _ _ _ => rfl
 try dsimp only
 rw [fz, show ∀ (ev : Y.G → Y.M (Y.Fl × Y.G)) (s1 s2 s3 s5 : Option Y.Sl) (r : Int), Y.evDrop 4 ev (fs far s1 s2 s3 s5 r) = ev (fs far s1 s2 s3 s5 r) from fun _ _ _ _ _ _ => rfl]
 rw [seq_nx (if2 (e := (Y.both [(0, [7])] none, [.var 1, .int 0])) (e2 := ([(1, [7])], [.var 2, .int 0])) c1 c2)]
 try dsimp only
 rw [fz, seq_nx (if1 (e := ([(2, [7])], [.var 3, .int 0])) c3)]
 try dsimp only
 rw [fz, seq_nx (if1 (e := ([(3, [7])], [.call f__law_no_kinds [.var 0], .int 0])) c4), seq_nx h6, seq_nx h7]
 exact rt1 (e := ([(4, [])], [.var 5, .int 0])) c5
theorem t_fields {far : Int} (h0 : 0 ≤ far) (k : Nat) (hk : 82 ≤ k) : sm k f__law_fields_right [.int far] = okB true := by
 obtain ⟨k, rfl⟩ : ∃ j, k = j + 82 := ⟨k - 82, by omega⟩
 obtain ⟨g, h⟩ := fr1 (k := k) h0
 rw [show k + 82 = (k + 80) + 2 from rfl, sem__law_fields_right]
 unfold Y.runG
 rw [if_pos ⟨rfl, by simp⟩]
 have e0 : Y.ent none 0 [.int far] ++ List.replicate (11 - 1) none = fs0 far := by kernel_rfl
 rw [e0, h]
 rfl
end Hd
namespace Hd
open PySem PySem.Spec L2
def yesD : D := .tup [.str "yes"]
def sixN : Nat → D
 | 0 => num1
 | n + 1 => if n % 2 = 0 then .tup [.str "plus", sixN n, num1] else .tup [.str "plus", num1, sixN n]
def six : D := sixN 5
def nums (n : Nat) : List D := (List.range n).map fun (i : Nat) => .tup [.str "num", .int (i : Int)]
def wide : D := .tup [.str "ask", .str "f", .lst [], .lst (nums 39)]
def fun5 (n : Str) (o : Int) (ts : List D) (g b : D) : D := .obj "Function" ["name", "opens", "takes", "gives", "body"] [.str n, .int o, .lst ts, g, b]
def good : D := fun5 "f" 1 [] (.str "num") six
def small (n : Str) : D := fun5 n 0 [] (.str "num") num1
def wrong1 : List D := [.tup [.str "first", six], .tup [.str "ask", .str "f", .lst [], .lst (nums 39 ++ [yesD])]]
def listsA : List D := [.non, .int 5, good, .tup [good], .lst [], .dct [] [], .lst [good, .non], .lst [good, good], .lst [.non], .lst [.str "f"], .lst [good, good, good, good, good, good, good, good, good]]
def lists : List D := listsA ++ [.lst [small "a", small "b", small "c", small "d", small "e", small "f", small "g", small "h", small "i"]]
def book : D := .obj "Book" ["table"] [.dct [.inr "f"] [good]]
def names7 : List D := [.non, .int 5, .str "", .str "g", .str "F", .lst [.str "f"], .bl true]
def wrong2 : List D := [.non, .int 5, .str "nums", .tup [.str "open", .int 0], .tup [.str "pair", .str "num"], deep 5, .lst [.str "num"]]
def late : D := fun5 "abcdefgh" 2 [.str "num", .str "num", deep 4] (.tup [.str "open", .int 1]) wide
def farOf (c : Int) : Int := (if c < 0 then -c else c).fmod (10 ^ 20)
theorem farOf_nn (c : Int) : 0 ≤ farOf c := Int.fmod_nonneg_of_pos _ (by decide)
def lg (ns : List Int) (s1 s2 s3 s4 s5 s6 s7 s8 s9 s10 s11 : Option Y.Sl) : Y.G := [some ⟨.scr ns, .fr, false⟩, s1, s2, s3, s4, s5, s6, s7, s8, s9, s10, s11, none]
def fr (d : D) : Option Y.Sl := some ⟨d, .fr, true⟩
def ow (d : D) : Option Y.Sl := some ⟨d, .ow, true⟩
def frN (d : D) : Option Y.Sl := some ⟨d, .fr, false⟩
def owN (d : D) : Option Y.Sl := some ⟨d, .ow, false⟩
def lv (ns : List Int) (s3 s7 s8 s9 s10 s11 : Option Y.Sl) : Y.G := lg ns (fr (.int 4)) (fr wide) s3 none (fr six) (fr yesD) s7 s8 s9 s10 s11
section
variable {k : Nat} {ns : List Int}
theorem l_1 : Y.evS (En (k + 90)) (.asgT [5, 6] (.tup [.tup [.str "num", .int 1], .tup [.str "yes"]])) (lg ns none none none none none none none none none none none) = some (.ok (.nx, lg ns none none none none (fr num1) (fr yesD) none none none none none)) := by kernel_rfl
theorem l_2 : Y.evS (En (k + 90)) (.for_ (.one 1) .rng1 [.int 5] l1_law) (lg ns none none none none (fr num1) (fr yesD) none none none none none) = some (.ok (.nx, lg ns (fr (.int 4)) none none none (fr six) (fr yesD) none none none none none)) := by kernel_rfl
theorem l_3 : Y.evS (En (k + 90)) (.asg 2 (.tup [.str "ask", .str "f", .lst [], q2_law])) (lg ns (fr (.int 4)) none none none (fr six) (fr yesD) none none none none none) = some (.ok (.nx, lv ns none none none none none none)) := by kernel_rfl
def op (o : Bool) (d : D) : Option Y.Sl := if o then fr d else none
def opN (o : Bool) (d : D) : Option Y.Sl := if o then frN d else none
def opI (o : Option Int) : Option Y.Sl := match o with
 | some i => fr (.int i)
 | none => none
theorem b_1 (o : Bool) (c : Int) (s7 : Option Int) : Y.evS (En (k + 90)) (.asg 7 (.bin .mod (.bi .abs [.var 3]) (.bin .pow (.int 10) (.int 20)))) (lv ns (fr (.int c)) (opI s7) (op o (.lst wrong2)) (op o good) (op o (.lst lists)) (opN o book)) = some (.ok (.nx, lv ns (fr (.int c)) (fr (.int (farOf c))) (op o (.lst wrong2)) (op o good) (op o (.lst lists)) (opN o book))) := by
 cases s7 <;> cases o <;> kernel_rfl
theorem b_3 (o : Bool) (c f : Int) : Y.evS (En (k + 90)) (.asg 8 (.lst [.tup [.str "first", .var 5], .bin .add (.slc (.var 2) none (some (.int 3))) (.tup [.bin .add (.idx (.var 2) (.int 3)) (.lst [.var 6])])])) (lv ns (fr (.int c)) (fr (.int f)) (op o (.lst wrong2)) (op o good) (op o (.lst lists)) (opN o book)) = some (.ok (.nx, lv ns (fr (.int c)) (fr (.int f)) (ow (.lst wrong1)) (op o good) (op o (.lst lists)) (opN o book))) := by
 cases o <;> kernel_rfl
theorem b_5 (o : Bool) (c f : Int) : Y.evS (En (k + 90)) (.asg 9 (.new "Function" f_Function___init__ [.str "f", .int 1, .lst [], .str "num", .var 5])) (lv ns (fr (.int c)) (fr (.int f)) (fr (.lst wrong1)) (op o good) (op o (.lst lists)) (opN o book)) = some (.ok (.nx, lv ns (fr (.int c)) (fr (.int f)) (fr (.lst wrong1)) (ow good) (op o (.lst lists)) (opN o book))) := by
 cases o <;> kernel_rfl
theorem b_6 (o : Bool) (c f : Int) : Y.evS (En (k + 90)) (.asg 10 (.lst [.non, .int 5, .var 9, .tup [.var 9], .lst [], .dnew, .lst [.var 9, .non], .lst [.var 9, .var 9], .lst [.non], .lst [.str "f"], .bin .mul (.lst [.var 9]) (.int 9)])) (lv ns (fr (.int c)) (fr (.int f)) (fr (.lst wrong1)) (ow good) (op o (.lst lists)) (opN o book)) = some (.ok (.nx, lv ns (fr (.int c)) (fr (.int f)) (fr (.lst wrong1)) (fr good) (ow (.lst listsA)) (opN o book))) := by
 cases o <;> kernel_rfl
theorem b_7 (o : Bool) (c f : Int) : Y.evS (En (k + 90)) (.app 10 (q3_law)) (lv ns (fr (.int c)) (fr (.int f)) (fr (.lst wrong1)) (fr good) (ow (.lst listsA)) (opN o book)) = some (.ok (.nx, lv ns (fr (.int c)) (fr (.int f)) (fr (.lst wrong1)) (fr good) (ow (.lst lists)) (opN o book))) := by
 cases o <;> kernel_rfl
theorem b_9 (o : Bool) (c f : Int) : Y.evS (En (k + 90)) (.asg 11 (.new "Book" f_Book___init__ [.lst [.var 9]])) (lv ns (fr (.int c)) (fr (.int f)) (fr (.lst wrong1)) (fr good) (fr (.lst lists)) (opN o book)) = some (.ok (.nx, lv ns (fr (.int c)) (fr (.int f)) (fr (.lst wrong1)) (fr good) (fr (.lst lists)) (owN book))) := by
 cases o <;> kernel_rfl
theorem b_11 (c f : Int) : Y.evS (En (k + 90)) (.asg 8 (.lst [.non, .int 5, .str "nums", .tup [.str "open", .int 0], .tup [.str "pair", .str "num"], .call f__law_deep [.int 5], .lst [.str "num"]])) (lv ns (fr (.int c)) (fr (.int f)) (fr (.lst wrong1)) (fr good) (fr (.lst lists)) (frN book)) = some (.ok (.nx, lv ns (fr (.int c)) (fr (.int f)) (ow (.lst wrong2)) (fr good) (fr (.lst lists)) (frN book))) := by kernel_rfl
end
theorem ref_wrong1 : ∀ d ∈ wrong1, Ref 5 [] 0 d := ref_con fun k => by kernel_rfl
theorem ref_lists : ∀ d ∈ lists, Ref 6 [] 1 d := ref_con fun k => by kernel_rfl
theorem ref_names7 : ∀ d ∈ names7, Ref 7 [book] 2 d := ref_con fun k => by kernel_rfl
theorem ref_wrong2 : ∀ d ∈ wrong2, Ref 8 [] 3 d := ref_con fun k => by kernel_rfl
end Hd
namespace Hd
open PySem PySem.Spec L2
def bodyL : List Y.SE := [.s (.asg 7 (.bin .mod (.bi .abs [.var 3]) (.bin .pow (.int 10) (.int 20)))), .s (.ife (.not_ (.call f__law_fields_right [.var 7])) [.ret (.bl false)] []), .s (.asg 8 (.lst [.tup [.str "first", .var 5], .bin .add (.slc (.var 2) none (some (.int 3))) (.tup [.bin .add (.idx (.var 2) (.int 3)) (.lst [.var 6])])])), .ifE [([(5, [])], [.var 8, .int 0])], .s (.asg 9 (.new "Function" f_Function___init__ [.str "f", .int 1, .lst [], .str "num", .var 5])), .s (.asg 10 (.lst [.non, .int 5, .var 9, .tup [.var 9], .lst [], .dnew, .lst [.var 9, .non], .lst [.var 9, .var 9], .lst [.non], .lst [.str "f"], .bin .mul (.lst [.var 9]) (.int 9)])), .s (.app 10 (q3_law)), .ifE [([(6, [])], [.var 10, .int 1])], .s (.asg 11 (.new "Book" f_Book___init__ [.lst [.var 9]])), .fz [11], .ifE [([(7, [11])], [.lst [.non, .int 5, .str "", .str "g", .str "F", .lst [.str "f"], .bl true], .int 2])], .s (.asg 8 (.lst [.non, .int 5, .str "nums", .tup [.str "open", .int 0], .tup [.str "pair", .str "num"], .call f__law_deep [.int 5], .lst [.str "num"]])), .ifE [([(8, [])], [.var 8, .int 3])]]
def forI (evB : Y.G → Y.M (Y.Fl × Y.G)) (tg : Y.Tg) (n : Bool) : D → Y.G → Y.M (Y.Fl × Y.G) := fun d g2 => match Y.bindT g2 tg d n with
 | some g3 => evB g3
 | none => none
theorem forH_eq {E : Y.Ev} {tg : Y.Tg} {k : Y.ItK} {its : List Y.C} {evB : Y.G → Y.M (Y.Fl × Y.G)} {g g1 g2 : Y.G} {ss : List Y.Sl} {items : List D} {n : Bool} {fl : Y.Fl} (h1 : Y.evV E its g = some (.ok (ss, g1))) (h2 : Y.itemsK k ss = some (items, n)) (h3 : Y.forL (forI evB tg n) items g1 = some (.ok (fl, g2))) : Y.forH E tg k its evB g = some (.ok (fl, g2)) := by
 unfold Y.forH
 rw [h1]
 simp only [Y.bnd_ok, h2]
 have h4 : Y.M.nox (Y.forL (forI evB tg n) items g1) = some (.ok (fl, g2)) := by rw [h3]; rfl
 exact h4
theorem forL_nx {f : D → Y.G → Y.M (Y.Fl × Y.G)} {d : D} {ds : List D} {g g1 : Y.G} {r : Y.M (Y.Fl × Y.G)} (h : f d g = some (.ok (.nx, g1))) (h2 : Y.forL f ds g1 = r) : Y.forL f (d :: ds) g = r := by
 unfold Y.forL
 rw [h]
 exact h2
section
variable {k : Nat} {ns : List Int}
def lf (ns : List Int) (s3 s7 : Option Int) (o : Bool) : Y.G := lv ns (opI s3) (opI s7) (op o (.lst wrong2)) (op o good) (op o (.lst lists)) (opN o book)
theorem turn (o : Bool) (c : Int) (s7 : Option Int) : Y.evSEs (En (k + 90)) f__law_every bodyL (lf ns (some c) s7 o) = some (.ok (.nx, lf ns (some c) (some (farOf c)) true)) := by
 have h1 := b_1 (k := k) (ns := ns) o c s7
 have h2 : Y.evS (En (k + 90)) (.ife (.not_ (.call f__law_fields_right [.var 7])) [.ret (.bl false)] []) (lv ns (fr (.int c)) (fr (.int (farOf c))) (op o (.lst wrong2)) (op o good) (op o (.lst lists)) (opN o book)) = some (.ok (.nx, lv ns (fr (.int c)) (fr (.int (farOf c))) (op o (.lst wrong2)) (op o good) (op o (.lst lists)) (opN o book))) := by
  have hf := t_fields (farOf_nn c) (k + 91) (by omega)
  rw [okB_def] at hf
  unfold lv lg fr at *
  simp [hf]
 have h3 := b_3 (k := k) (ns := ns) o c (farOf c)
 have c4 : Y.evEv (En (k + 90)) f__law_every [(5, [])] [.var 8, .int 0] (lv ns (fr (.int c)) (fr (.int (farOf c))) (ow (.lst wrong1)) (op o good) (op o (.lst lists)) (opN o book)) = some (.ok (true, lv ns (fr (.int c)) (fr (.int (farOf c))) (fr (.lst wrong1)) (op o good) (op o (.lst lists)) (opN o book))) :=
  evEv_ok (as := [.val ⟨.lst wrong1, .fr, true⟩, .val ⟨.int 0, .fr, true⟩]) (ds := [.lst wrong1, .int 0]) (cl := [.clo 5 []]) rfl (by cases o <;> kernel_rfl) rfl rfl (ref_every (by decide) ref_wrong1 _ (by omega))
 have h5 := b_5 (k := k) (ns := ns) o c (farOf c)
 have h6 := b_6 (k := k) (ns := ns) o c (farOf c)
 have h7 := b_7 (k := k) (ns := ns) o c (farOf c)
 have c8 : Y.evEv (En (k + 90)) f__law_every [(6, [])] [.var 10, .int 1] (lv ns (fr (.int c)) (fr (.int (farOf c))) (fr (.lst wrong1)) (fr good) (ow (.lst lists)) (opN o book)) = some (.ok (true, lv ns (fr (.int c)) (fr (.int (farOf c))) (fr (.lst wrong1)) (fr good) (fr (.lst lists)) (opN o book))) :=
  evEv_ok (as := [.val ⟨.lst lists, .fr, true⟩, .val ⟨.int 1, .fr, true⟩]) (ds := [.lst lists, .int 1]) (cl := [.clo 6 []]) rfl (by cases o <;> kernel_rfl) rfl rfl (ref_every (by decide) ref_lists _ (by omega))
 have h9 := b_9 (k := k) (ns := ns) o c (farOf c)
 have c10 : Y.evEv (En (k + 90)) f__law_every [(7, [11])] [.lst [.non, .int 5, .str "", .str "g", .str "F", .lst [.str "f"], .bl true], .int 2] (lv ns (fr (.int c)) (fr (.int (farOf c))) (fr (.lst wrong1)) (fr good) (fr (.lst lists)) (frN book)) = some (.ok (true, lv ns (fr (.int c)) (fr (.int (farOf c))) (fr (.lst wrong1)) (fr good) (fr (.lst lists)) (frN book))) :=
  evEv_ok (as := [.val ⟨.lst names7, .fr, true⟩, .val ⟨.int 2, .fr, true⟩]) (ds := [.lst names7, .int 2]) (cl := [.clo 7 [book]]) rfl (by kernel_rfl) rfl rfl (ref_every (by decide) ref_names7 _ (by omega))
 have h11 := b_11 (k := k) (ns := ns) c (farOf c)
 have c12 : Y.evEv (En (k + 90)) f__law_every [(8, [])] [.var 8, .int 3] (lv ns (fr (.int c)) (fr (.int (farOf c))) (ow (.lst wrong2)) (fr good) (fr (.lst lists)) (frN book)) = some (.ok (true, lv ns (fr (.int c)) (fr (.int (farOf c))) (fr (.lst wrong2)) (fr good) (fr (.lst lists)) (frN book))) :=
  evEv_ok (as := [.val ⟨.lst wrong2, .fr, true⟩, .val ⟨.int 3, .fr, true⟩]) (ds := [.lst wrong2, .int 3]) (cl := [.clo 8 []]) rfl (by kernel_rfl) rfl rfl (ref_every (by decide) ref_wrong2 _ (by omega))
 have hz : Y.frzG (lv ns (fr (.int c)) (fr (.int (farOf c))) (fr (.lst wrong1)) (fr good) (fr (.lst lists)) (owN book)) [11] = lv ns (fr (.int c)) (fr (.int (farOf c))) (fr (.lst wrong1)) (fr good) (fr (.lst lists)) (frN book) := rfl
 show Y.evSEs (En (k + 90)) f__law_every bodyL (lv ns (fr (.int c)) (opI s7) (op o (.lst wrong2)) (op o good) (op o (.lst lists)) (opN o book)) = some (.ok (.nx, lv ns (fr (.int c)) (fr (.int (farOf c))) (fr (.lst wrong2)) (fr good) (fr (.lst lists)) (frN book)))
 unfold bodyL
 simp only [Y.evSEs, Y.evSE]
 rw [seq_nx h1, seq_nx h2, seq_nx h3, seq_nx (if1 (e := ([(5, [])], [.var 8, .int 0])) c4), seq_nx h5, seq_nx h6, seq_nx h7, seq_nx (if1 (e := ([(6, [])], [.var 10, .int 1])) c8), seq_nx h9]
 try dsimp only
 rw [hz, seq_nx (if1 (e := ([(7, [11])], [.lst [.non, .int 5, .str "", .str "g", .str "F", .lst [.str "f"], .bl true], .int 2])) c10), seq_nx h11, seq_nx (if1 (e := ([(8, [])], [.var 8, .int 3])) c12)]
theorem turns : ∀ (cs : List Int) (o : Bool) (s3 s7 : Option Int), ∃ (o' : Bool) (s3' s7' : Option Int), Y.forL (forI (Y.evSEs (En (k + 90)) f__law_every bodyL) (.one 3) true) (cs.map .int) (lf ns s3 s7 o) = some (.ok (.nx, lf ns s3' s7' o'))
 | [], o, s3, s7 => ⟨o, s3, s7, rfl⟩
 | c :: cs, o, s3, s7 => by
  obtain ⟨o', s3', s7', h⟩ := turns cs true (some c) (some (farOf c))
  refine ⟨o', s3', s7', ?_⟩
  have hb : Y.bindT (lf ns s3 s7 o) (.one 3) (.int c) true = some (lf ns (some c) s7 o) := by cases s3 <;> kernel_rfl
  have hi : forI (Y.evSEs (En (k + 90)) f__law_every bodyL) (.one 3) true (.int c) (lf ns s3 s7 o) = some (.ok (.nx, lf ns (some c) (some (farOf c)) true)) := by
   unfold forI
   rw [hb]
   exact turn o c s7
  rw [List.map_cons]
  exact forL_nx hi h
theorem l_end (o : Bool) (s3 s7 : Option Int) : Y.evS (En (k + 90)) (.asg 4 (.new "Function" f_Function___init__ [.str "abcdefgh", .int 2, .lst [.str "num", .str "num", .call f__law_deep [.int 4]], .tup [.str "open", .int 1], .var 2])) (lf ns s3 s7 o) = some (.ok (.nx, lg ns (fr (.int 4)) (fr wide) (opI s3) (owN late) (fr six) (fr yesD) (opI s7) (op o (.lst wrong2)) (op o good) (op o (.lst lists)) (opN o book))) := by
 cases s3 <;> cases s7 <;> cases o <;> kernel_rfl
theorem l_if (o : Bool) (s3 s7 : Option Int) : Y.evS (En (k + 90)) (.ife (.or_ (.cmp .ne (.idx (.meth "told" none (.var 4) []) (.int 1)) (.int 2)) (.cmp .ne (.call f_cells [.call f__law_deep [.int 4]]) (.int 5))) [.ret (.bl false)] []) (lg ns (fr (.int 4)) (fr wide) (opI s3) (owN late) (fr six) (fr yesD) (opI s7) (op o (.lst wrong2)) (op o good) (op o (.lst lists)) (opN o book)) = some (.ok (.nx, lg ns (fr (.int 4)) (fr wide) (opI s3) (frN late) (fr six) (fr yesD) (opI s7) (op o (.lst wrong2)) (op o good) (op o (.lst lists)) (opN o book))) := by
 cases s3 <;> cases s7 <;> cases o <;> kernel_rfl
theorem l_ret (o : Bool) (s3 s7 : Option Int) : Y.evS (En (k + 90)) (.ret (.cmp .eq (.bi .len [.meth "names" none (.new "Book" f_Book___init__ [q4_law]) []]) (.int 8))) (lg ns (fr (.int 4)) (fr wide) (opI s3) (frN late) (fr six) (fr yesD) (opI s7) (op o (.lst wrong2)) (op o good) (op o (.lst lists)) (opN o book)) = some (.ok (.rt ⟨.bl true, .fr, true⟩, lg ns (fr (.int 4)) (fr wide) (opI s3) (frN late) (fr six) (fr yesD) (opI s7) (op o (.lst wrong2)) (op o good) (op o (.lst lists)) (opN o book))) := by
 cases s3 <;> cases s7 <;> cases o <;> kernel_rfl
theorem cut_len {α : Type} (xs : List α) (l h : Option Int) : (Y.cutD xs l h).length ≤ xs.length := by
 unfold Y.cutD
 rw [List.length_take, List.length_drop]
 omega
theorem l_for (hl : ns.length ≤ 63) (r : Y.G → Y.M (Y.Fl × Y.G)) : ∃ (o : Bool) (s3 s7 : Option Int), Y.forH (En (k + 90)) (.one 3) .any [.bin .add (.lst [.int 0]) (.slc (.var 0) none (some (.int 2)))] (Y.evSEs (En (k + 90)) f__law_every bodyL) (lv ns none none none none none none) = some (.ok (.nx, lf ns s3 s7 o)) := by
 obtain ⟨o, s3, s7, h⟩ := turns (k := k) (ns := ns) (0 :: Y.cutD ns none (some 2)) false none none
 refine ⟨o, s3, s7, ?_⟩
 have hlen := cut_len ns none (some 2)
 have hadd : Y.D.bin .add (.lst [.int 0]) (.lst ((Y.cutD ns none (some 2)).map .int)) = some (.lst (.int 0 :: (Y.cutD ns none (some 2)).map .int)) := by
  rw [add_l, if_pos]
  ·rfl
  ·rw [List.length_map]
   show 1 + _ ≤ 100000
   omega
 have hk : (Y.D.lst ((Y.cutD ns none (some 2)).map .int)).kidsAtom = true := by
  show ((Y.cutD ns none (some 2)).map Y.D.int).all Y.D.atom = true
  rw [List.all_map, List.all_eq_true]
  intro x _
  rfl
 have hs : Y.slcS none (some 2) ⟨.scr ns, .fr, false⟩ = some ⟨.lst ((Y.cutD ns none (some 2)).map .int), .ow, true⟩ := by
  show some (⟨_, .ow, false || _⟩ : Y.Sl) = _
  rw [hk]
  rfl
 have hv : Y.evV (En (k + 90)) [.bin .add (.lst [.int 0]) (.slc (.var 0) none (some (.int 2)))] (lv ns none none none none none none) = some (.ok ([⟨.lst (.int 0 :: (Y.cutD ns none (some 2)).map .int), .fr, true⟩], lv ns none none none none none none)) := by
  unfold lv lg fr
  simp [hs, hadd, Y.bySh]
 exact forH_eq hv rfl (by rw [List.map_cons] at h; exact h)
theorem t_law (hl : ns.length ≤ 63) (k : Nat) : sm (k + 92) f_law [.scr ns] = okB true := by
 obtain ⟨o, s3, s7, h⟩ := l_for (k := k) (ns := ns) hl (fun _ => none)
 have h1 := l_1 (k := k) (ns := ns)
 have h2 := l_2 (k := k) (ns := ns)
 have h3 := l_3 (k := k) (ns := ns)
 have h4 := l_end (k := k) (ns := ns) o s3 s7
 have h5 := l_if (k := k) (ns := ns) o s3 s7
 have h6 := l_ret (k := k) (ns := ns) o s3 s7
 have hb : Y.evSEs (En (k + 90)) f__law_every ss_law (lg ns none none none none none none none none none none none) = some (.ok (.rt ⟨.bl true, .fr, true⟩, lg ns (fr (.int 4)) (fr wide) (opI s3) (frN late) (fr six) (fr yesD) (opI s7) (op o (.lst wrong2)) (op o good) (op o (.lst lists)) (opN o book))) := by
  rw [show ss_law = [.s (.asgT [5, 6] (.tup [.tup [.str "num", .int 1], .tup [.str "yes"]])), .s (.for_ (.one 1) .rng1 [.int 5] l1_law), .s (.asg 2 (.tup [.str "ask", .str "f", .lst [], q2_law])), .fr (.one 3) .any [.bin .add (.lst [.int 0]) (.slc (.var 0) none (some (.int 2)))] bodyL, .s (.asg 4 (.new "Function" f_Function___init__ [.str "abcdefgh", .int 2, .lst [.str "num", .str "num", .call f__law_deep [.int 4]], .tup [.str "open", .int 1], .var 2])), .s (.ife (.or_ (.cmp .ne (.idx (.meth "told" none (.var 4) []) (.int 1)) (.int 2)) (.cmp .ne (.call f_cells [.call f__law_deep [.int 4]]) (.int 5))) [.ret (.bl false)] []), .s (.ret (.cmp .eq (.bi .len [.meth "names" none (.new "Book" f_Book___init__ [q4_law]) []]) (.int 8)))] from rfl]
  simp only [Y.evSEs, Y.evSE]
  rw [seq_nx h1, seq_nx h2, seq_nx h3, seq_nx h, seq_nx h4, seq_nx h5]
  unfold Y.seqM
  rw [h6]
  rfl
 rw [show k + 92 = (k + 90) + 2 from rfl, sem_law]
 unfold Y.runG
 rw [if_pos ⟨rfl, by simp⟩]
 have e0 : Y.ent none 0 [.scr ns] ++ List.replicate (13 - 1) none = lg ns none none none none none none none none none none none := by kernel_rfl
 rw [e0, hb]
 rfl
end
theorem plain (ns : List Int) (hl : ns.length ≤ 63) : Y.sem tb.st stp 120 24 [.scr ns] = some (.ok (⟨.bl true, .fr, true⟩, none)) := t_law hl 28
end Hd
namespace Hd
open PySem PySem.Spec PyProof.Rows L2
theorem law_sp {K : PySem.W.Frag} {H : Hp} {a : Addr} {ns : List Int} {cs : List (Addr × Addr)} (hl : ns.length ≤ 63) (hH : ∀ p ∈ cs, H p.2 = some (.tbl #[])) (hc : ∀ q ∈ Y.lamT K, ∃ p ∈ cs, p.2 = q.1) (hS : SqL K H a (ns.map V.int)) : Y.spD K none 1 (Y.sem tb.st stp 120 24) [.ref a] H (fun v _ => v = .bl true) fun _ _ _ => False := by
 refine ⟨Y.NT H, [.scr ns], Y.NT_le, Y.tb_start (fun _ _ z => Y.NT_fnt z) hH hc, rfl, .val (by simp) (.scr ?_) .nil, ?_⟩
 ·exact Y.scr_NT hS
 have e : Y.sem tb.st stp 120 24 [.scr ns] = some (.ok (⟨.bl true, .fr, true⟩, none)) := plain ns hl
 rw [e]
 intro v F1 H1 cp
 have z := cp.res
 dsimp only at z
 cases z
 rfl
end Hd
open PySem PySem.W PySem.Calls PyProof.Rows
theorem PySem.Challenge.cw_kindmakings_k11_refused_functions_holds : PySem.Challenge.rw_kindmakings_k11_refused_functions.Holds := by
 w_on; o_law
 refine HandSHeadRun.head_any (r := OpenLaw.row PySem.Challenge.rw_kindmakings_k11_refused_functions) (q := view (OpenLaw.row PySem.Challenge.rw_kindmakings_k11_refused_functions).prog [43]) (H := Hd.hk) (ob := Hd.ob) (M := 12000) (loose := Hd.loose) (d := HandSHeadRun.topDef (OpenLaw.row PySem.Challenge.rw_kindmakings_k11_refused_functions).prog 43) (kwd := []) Hd.ob_eq
  (by kernel_rfl) (fun s => by kernel_rfl) Hd.run (by kernel_rfl) (by kernel_rfl) (by kernel_rfl) (by rfl) (by first | assumption | decide +kernel) (by decide +kernel) ⟨rfl, rfl, rfl, rfl, rfl, by decide +kernel⟩ ?hw ?hc
 case hw => w_witness2
 case hc =>
  refine Y.law_endT (l := PySem.Challenge.rw_kindmakings_k11_refused_functions) (n := 63) (k := 120) (x := "_law_script") rfl (by decide) (by kernel_rfl) ⟨rfl, by decide, by decide⟩ ?F
  intro w mg fa h Yw G hmg0
  obtain ⟨K, KX, c⟩ := Yw
  have hmg : mg ("law" : PySem.Str) = some (.ref fa) := by
   have e : (HandSHeadRun.topDef (OpenLaw.row PySem.Challenge.rw_kindmakings_k11_refused_functions).prog 43).name = ("law" : PySem.Str) := by kernel_rfl
   rw [← e]
   exact hmg0
  obtain ⟨fd, cs, h1, h2, h3, h4, hb, hF⟩ := Hd.facts2 (P := (PySem.Challenge.rw_kindmakings_k11_refused_functions).prog) (w := w) KX G hmg c
  exact ⟨K, fd, cs, _, KX, h1, h2, h3, hb, fun H a ns hl _ hH hS => Hd.law_sp hl hH h4 hS, fun base z1 z2 z3 => hF base z1 z2 z3⟩
