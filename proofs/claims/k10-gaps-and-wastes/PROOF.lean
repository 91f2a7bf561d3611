import PyProof.Rows.All
import Wide.All
import OpenK.AllK
import Wide.FinOn
import KE.KStateDown
import Lean
import HandS.WordsExc
import HandS.Defaults
import HandS.Head0
import HandS.Head1
import HandS.Head2
import HandS.HeadEnd
import HandS.ForMost
import HandS.More
import HandS.Walk
import HandS.Flow
import HandS.HeadHook1
import HandS.HeadHook2
import HandS.SetTxt0
import HandS.Set
import HandS.Lambda
import HandS.IsInst
import HandS.Deep
import HandS.TupAny
import HandS.TupMul
import HandS.Style
import HandS.Conv
import HandS.RaiseMore
import HandS.Small
import HandS.Ends
import HandS.ExcOwn
import PyProof.ReprRoads
import KE.GoesMore
import HandS.Zip
import HandS.SetFor
import HandS.SetBool
import PyProof.ListStr
import HandS.DictComp
import HandS.Star
import HandS.Text
import HandS.ExcInit
import HandS.ExcField
import KE.KExcInit
import KE.KExcIs
import HandS.ExcValue
import KE.KRevSl
import HandS.GenList
import HandS.Iter
import PyProof.AttrMissHeap
import PyProof.DictUpdate
import PyProof.DictDisplay
import KE.KDictList
import PyProof.TupleOfGen
import PyProof.TupleOfSeq
import HandS.NoneIn
import HandS.TryOnly
import HandS.Replace
import HandS.Property
import PySem.Challenge.RW_carriedparts_k10_gaps_and_wastes
set_option Elab.async false
set_option linter.all false
set_option maxRecDepth 100000
set_option maxHeartbeats 4000000
namespace Mv
open PySem L2 PyProof.Rows
inductive Ty7 where
  | non | bl | int | str | lst | tup | dct
def Ty7.name : Ty7 → String
  | .non => "NoneType"
  | .bl => "bool"
  | .int => "int"
  | .str => "str"
  | .lst => "list"
  | .tup => "tuple"
  | .dct => "dict"
abbrev keTail : List Value := [.type "KeyError", .type "LookupError", .type "Exception", .type "BaseException", .type "object"]
abbrev reTail : List Value := [.type "RuntimeError", .type "Exception", .type "BaseException", .type "object"]
abbrev vaTail : List Value := [.type "ValueError", .type "Exception", .type "BaseException", .type "object"]
def xcB (K : PySem.W.Frag) (C : Addr) (bmB : List Value) (newId : String) : Bool :=
  PySem.W.excInitIn K C bmB newId && decide (PySem.W.findIn K (.ref C) "__setattr__" = some (some (.builtin "object.__setattr__"))) && decide (PySem.W.findIn K (.ref C) "__getattribute__" = some (some (.builtin "BaseException.__getattribute__"))) &&
  decide (PySem.W.findIn K (.ref C) "__getattr__" = some none) && decide (PySem.W.subIn K (.ref C) (.type "BaseException") = some true) && decide (PySem.W.typeIn K (.ref C) = some (.type "type")) && PySem.W.keepIn K (.ref C) && PySem.W.hasDictIn K C &&
  decide (PySem.W.findIn K (.ref C) "__class__" = some (some (.builtin "object.__class__"))) && decide (PySem.W.specialIn K (.builtin "object.__class__") "__get__" = some (some (.builtin "getset_descriptor.__get__"))) && decide (PySem.W.takesIn K (.builtin "object.__class__") = some true) && decide (PySem.W.mroIn K C (.type "object") = some true)
inductive Ic where
  | own (y : Str)
  | ty (T : String)
def Ic.v (K : PySem.W.Frag) : Ic → Value
  | .own y => .ref (He.ga K y)
  | .ty T => .type T
def xisB (K : PySem.W.Frag) (C : Addr) : Bool := decide (PySem.W.findIn K (.ref C) "__getattribute__" = some (some (.builtin "BaseException.__getattribute__"))) && decide (PySem.W.findIn K (.ref C) "__getattr__" = some none) && decide (PySem.W.subIn K (.ref C) (.type "BaseException") = some true) && PySem.W.hasDictIn K C &&
  decide (PySem.W.findIn K (.ref C) "__class__" = some (some (.builtin "object.__class__"))) && decide (PySem.W.specialIn K (.builtin "object.__class__") "__get__" = some (some (.builtin "getset_descriptor.__get__"))) && decide (PySem.W.takesIn K (.builtin "object.__class__") = some true) && decide (PySem.W.mroIn K C (.type "object") = some true)
def bioB (K : PySem.W.Frag) (x : Str) (i : String) : Bool := decide (PySem.W.specialIn K (.ref (He.ga K x)) "__getattribute__" = some (some (.builtin "type.__getattribute__"))) && PySem.W.readsIn K (He.ga K x) (.type "type") && (match PySem.W.findCls K (.ref (He.ga K x)) (.type "type") "__init__" with
  | some (.val (.builtin j)) => decide (j = i)
  | _ => false)
def bitB (K : PySem.W.Frag) (T i : String) : Bool := match PySem.W.findCls K (.type T) (.type "type") "__init__" with
  | some (.val (.builtin j)) => decide (j = i)
  | _ => false
def istB (K : PySem.W.Frag) (tb : List (Str × Ic × Bool)) : Bool := tb.all fun r => xisB K (He.ga K r.1) && decide (PySem.W.kitOne K (.ref (He.ga K r.1)) (r.2.1.v K) = some r.2.2)
def xflB (K : PySem.W.Frag) (cs : List Str) (f : Str) : Bool := cs.all fun c => xfB K (He.ga K c) && decide (PySem.W.findIn K (.ref (He.ga K c)) f = some none)
def forceN {α : Type} (n : Nat) (k : Nat → α) : α := match n with
  | 0 => k 0
  | m + 1 => k (m + 1)
def pickF {β : Type} : List Addr → Nat → (Nat → List Addr → β) → β
  | [], m, k => k m []
  | a :: as, m, k => forceN a fun a => match Nat.beq (Nat.mod (Nat.shiftRight m a) 2) 0 with
    | true => forceN (Nat.add m (Nat.pow 2 a)) fun m => pickF as m fun m new => k m (a :: new)
    | false => pickF as m k
def bfsF (g : Addr → Option Obj) : Nat → Nat → List Addr → List Addr
  | 0, _, _ => []
  | n + 1, m, fr => pickF (fr.flatMap fun a => match g a with
    | some o => He.refsD o
    | none => []) m fun m new => new ++ bfsF g n m new
def reachF (g : Addr → Option Obj) (n : Nat) : List Addr := mainGlobals :: bfsF g n (Nat.pow 2 mainGlobals) [mainGlobals]
def frX (g : Addr → Option Obj) (n : Nat) : PySem.W.Frag := He.frG g (reachF g n ++ [sysModules, cStatics])
def obsX (n : Nat) (fa : List He.Fa) (fx : List (PySem.W.Frag → Bool)) (fn : List He.DefD) (g : Addr → Option Obj) : He.AlD × Bool := (He.obsD fa fn (frX g n), fx.all fun f => f (frX g n))
def hookX (n : Nat) (fa : List He.Fa) (fx : List (PySem.W.Frag → Bool)) (fn : List He.DefD) : PySem.W.Hook where
  α := He.AlD × Bool
  obs := fun s => obsX n fa fx fn s.heap.get?
  val := fun _ => (He.valD fn, true)
  says := fun _ h => ∃ K : PySem.W.Frag, K.In h ∧ He.SaysD fa fn K ∧ ∀ f ∈ fx, f K = true
  of := fun _ _ e => ⟨_, He.frG_in, congrArg (fun z : He.AlD × Bool => z.1) e, List.all_eq_true.mp (congrArg (fun z : He.AlD × Bool => z.2) e)⟩
  keeps := fun _ _ _ ⟨K, hK, c⟩ k => ⟨K, PySem.W.Frag.In.keeps hK k, c⟩
theorem obsX_eq {n : Nat} {fa : List He.Fa} {fx : List (PySem.W.Frag → Bool)} {fn : List He.DefD} {g : Addr → Option Obj} {s : Shared} (h : ∀ a, g a = s.heap.get? a) : obsX n fa fx fn g = (hookX n fa fx fn).obs s := by
  have e : g = s.heap.get? := funext h
  rw [e] <;> rfl
def mkoB (K : PySem.W.Frag) (c : Str) : Bool := PySem.W.makesIn K (He.ga K c) && decide (PySem.W.findIn K (.ref (He.ga K c)) "__init__" = some (some (.builtin "object.__init__"))) && PySem.W.keepIn K (.ref (He.ga K c))
def gAd (K : PySem.W.Frag) (c f : Str) : Addr := match PySem.W.findIn K (.ref (He.ga K c)) f with
  | some (some (.ref p)) => (match PySem.W.recIn K p "property" with
    | some (.ref g :: _) => g
    | _ => 0)
  | _ => 0
def fnWA (K : PySem.W.Frag) (a : Addr) : He.FnW := match K.lookup a with
  | some ⟨_, _, .func fd, _⟩ => some (fd.name, fd.qualname, fd.params, fd.body, fd.scope, fd.globals, fd.closure, fd.builtins)
  | _ => none
structure PrD where
  c : Str
  f : Str
  qual : Str
  params : Arguments
  body : List Stmt
  scope : Scope
def PrD.val (d : PrD) : He.FnW := some (d.f, d.qual, d.params, .stmts d.body, d.scope, mainGlobals, [], builtinsNs)
def prB (K : PySem.W.Frag) (d : PrD) : Bool := (match PySem.W.findIn K (.ref (He.ga K d.c)) d.f with
  | some (some (.ref p)) => decide (PySem.W.specialIn K (.ref p) "__get__" = some (some (.builtin "property.__get__"))) && decide (PySem.W.takesIn K (.ref p) = some true) && (match PySem.W.recIn K p "property" with
    | some (.ref _ :: _) => true
    | _ => false)
  | _ => false) && PySem.W.keepIn K (.ref (gAd K d.c d.f)) && (match K.lookup (gAd K d.c d.f) with
  | some ⟨_, _, .func fd, _⟩ => PySem.W.codeIn K fd.code d.qual && (He.dflB K fd.defaults [] && He.kwdB K fd.kwdefaults [])
  | _ => false)
def obsP (n : Nat) (fa : List He.Fa) (fx : List (PySem.W.Frag → Bool)) (fn : List He.DefD) (pn : List PrD) (g : Addr → Option Obj) : (He.AlD × Bool) × List He.FnW := (obsX n fa fx fn g, pn.map fun d => fnWA (frX g n) (gAd (frX g n) d.c d.f))
def hookP (n : Nat) (fa : List He.Fa) (fx : List (PySem.W.Frag → Bool)) (fn : List He.DefD) (pn : List PrD) : PySem.W.Hook where
  α := (He.AlD × Bool) × List He.FnW
  obs := fun s => obsP n fa fx fn pn s.heap.get?
  val := fun _ => ((He.valD fn, true), pn.map PrD.val)
  says := fun _ h => ∃ K : PySem.W.Frag, K.In h ∧ He.SaysD fa fn K ∧ (∀ f ∈ fx, f K = true) ∧ ∀ d ∈ pn, fnWA K (gAd K d.c d.f) = d.val
  of := fun _ _ e => ⟨_, He.frG_in, congrArg (fun z : (He.AlD × Bool) × List He.FnW => z.1.1) e, List.all_eq_true.mp (congrArg (fun z : (He.AlD × Bool) × List He.FnW => z.1.2) e), fun d hd => by
    have := congrArg (fun z : (He.AlD × Bool) × List He.FnW => z.2) e
    exact List.map_inj_left.mp this d hd⟩
  keeps := fun _ _ _ ⟨K, hK, c⟩ k => ⟨K, PySem.W.Frag.In.keeps hK k, c⟩
theorem obsP_eq {n : Nat} {fa : List He.Fa} {fx : List (PySem.W.Frag → Bool)} {fn : List He.DefD} {pn : List PrD} {g : Addr → Option Obj} {s : Shared} (h : ∀ a, g a = s.heap.get? a) : obsP n fa fx fn pn g = (hookP n fa fx fn pn).obs s := by
  have e : g = s.heap.get? := funext h
  rw [e] <;> rfl
def nsB (K : PySem.W.Frag) (T : List Str) : Bool := T.all fun c => decide (PySem.W.subIn K (.ref (He.ga K c)) (.type "StopIteration") = some false)
def inClass (s : Stmt) (j : Nat) : Stmt := match s with
  | .ClassDef _ _ _ b .. => b.getD j (.Pass ⟨0, 0, 0, 0⟩)
  | _ => .Pass ⟨0, 0, 0, 0⟩
def topS (i : Nat) : Stmt := PySem.Challenge.pw_carriedparts_k10_gaps_and_wastes.main.body.getD i (.Pass ⟨0, 0, 0, 0⟩)
def d_BadLayout___init__ : He.DefD := ⟨("BadLayout", some "__init__"), "__init__", "BadLayout.__init__", defArgs (inClass (topS 3) 0), defBody (inClass (topS 3) 0), defScope (inClass (topS 3) 0), [], []⟩
def d_is_integer : He.DefD := ⟨("is_integer", none), "is_integer", "is_integer", defArgs (topS 10), defBody (topS 10), defScope (topS 10), [], []⟩
def d_is_name : He.DefD := ⟨("is_name", none), "is_name", "is_name", defArgs (topS 11), defBody (topS 11), defScope (topS 11), [], []⟩
def d_is_mark : He.DefD := ⟨("is_mark", none), "is_mark", "is_mark", defArgs (topS 12), defBody (topS 12), defScope (topS 12), [], []⟩
def d_are_bases : He.DefD := ⟨("are_bases", none), "are_bases", "are_bases", defArgs (topS 13), defBody (topS 13), defScope (topS 13), [], []⟩
def d_is_kind : He.DefD := ⟨("is_kind", none), "is_kind", "is_kind", defArgs (topS 14), defBody (topS 14), defScope (topS 14), [], []⟩
def d_need_layout : He.DefD := ⟨("need_layout", none), "need_layout", "need_layout", defArgs (topS 15), defBody (topS 15), defScope (topS 15), [], []⟩
def d_Chart___init__ : He.DefD := ⟨("Chart", some "__init__"), "__init__", "Chart.__init__", defArgs (inClass (topS 16) 0), defBody (inClass (topS 16) 0), defScope (inClass (topS 16) 0), [], []⟩
def d_Chart_since : He.DefD := ⟨("Chart", some "since"), "since", "Chart.since", defArgs (inClass (topS 16) 2), defBody (inClass (topS 16) 2), defScope (inClass (topS 16) 2), [], []⟩
def d_Chart_watched : He.DefD := ⟨("Chart", some "watched"), "watched", "Chart.watched", defArgs (inClass (topS 16) 3), defBody (inClass (topS 16) 3), defScope (inClass (topS 16) 3), [], []⟩
def d_gaps : He.DefD := ⟨("gaps", none), "gaps", "gaps", defArgs (topS 18), defBody (topS 18), defScope (topS 18), [], []⟩
def d_wastes : He.DefD := ⟨("wastes", none), "wastes", "wastes", defArgs (topS 19), defBody (topS 19), defScope (topS 19), [], []⟩
def d_is_safe : He.DefD := ⟨("is_safe", none), "is_safe", "is_safe", defArgs (topS 20), defBody (topS 20), defScope (topS 20), [], []⟩
def d_is_sparing : He.DefD := ⟨("is_sparing", none), "is_sparing", "is_sparing", defArgs (topS 21), defBody (topS 21), defScope (topS 21), [], []⟩
def d_is_exact : He.DefD := ⟨("is_exact", none), "is_exact", "is_exact", defArgs (topS 22), defBody (topS 22), defScope (topS 22), [], []⟩
def d__law_begun : He.DefD := ⟨("_law_begun", none), "_law_begun", "_law_begun", defArgs (topS 24), defBody (topS 24), defScope (topS 24), [], []⟩
def d__law_next : He.DefD := ⟨("_law_next", none), "_law_next", "_law_next", defArgs (topS 25), defBody (topS 25), defScope (topS 25), [], []⟩
def d__law_titles : He.DefD := ⟨("_law_titles", none), "_law_titles", "_law_titles", defArgs (topS 26), defBody (topS 26), defScope (topS 26), [], []⟩
def d__law_sign : He.DefD := ⟨("_law_sign", none), "_law_sign", "_law_sign", defArgs (topS 27), defBody (topS 27), defScope (topS 27), [], []⟩
def d__law_frame : He.DefD := ⟨("_law_frame", none), "_law_frame", "_law_frame", defArgs (topS 28), defBody (topS 28), defScope (topS 28), [], []⟩
def d__law_under : He.DefD := ⟨("_law_under", none), "_law_under", "_law_under", defArgs (topS 29), defBody (topS 29), defScope (topS 29), [], []⟩
def d__law_word : He.DefD := ⟨("_law_word", none), "_law_word", "_law_word", defArgs (topS 30), defBody (topS 30), defScope (topS 30), [], []⟩
def d__law_marks : He.DefD := ⟨("_law_marks", none), "_law_marks", "_law_marks", defArgs (topS 31), defBody (topS 31), defScope (topS 31), [], []⟩
def d__law_marked : He.DefD := ⟨("_law_marked", none), "_law_marked", "_law_marked", defArgs (topS 32), defBody (topS 32), defScope (topS 32), [], []⟩
def d__law_layout : He.DefD := ⟨("_law_layout", none), "_law_layout", "_law_layout", defArgs (topS 33), defBody (topS 33), defScope (topS 33), [], []⟩
def d__law_seen : He.DefD := ⟨("_law_seen", none), "_law_seen", "_law_seen", defArgs (topS 34), defBody (topS 34), defScope (topS 34), [], []⟩
def d__law_dates : He.DefD := ⟨("_law_dates", none), "_law_dates", "_law_dates", defArgs (topS 35), defBody (topS 35), defScope (topS 35), [], []⟩
def d__law_gaps : He.DefD := ⟨("_law_gaps", none), "_law_gaps", "_law_gaps", defArgs (topS 36), defBody (topS 36), defScope (topS 36), [], []⟩
def d__law_wastes : He.DefD := ⟨("_law_wastes", none), "_law_wastes", "_law_wastes", defArgs (topS 37), defBody (topS 37), defScope (topS 37), [], []⟩
def d__law_refused : He.DefD := ⟨("_law_refused", none), "_law_refused", "_law_refused", defArgs (topS 38), defBody (topS 38), defScope (topS 38), [], []⟩
def d_law : He.DefD := ⟨("law", none), "law", "law", defArgs (topS 39), defBody (topS 39), defScope (topS 39), [], []⟩
def hpn : List PrD := []
def hfn : List He.DefD := [d_BadLayout___init__, d_is_integer, d_is_name, d_is_mark, d_are_bases, d_is_kind, d_need_layout, d_Chart___init__, d_Chart_since, d_Chart_watched, d_gaps, d_wastes, d_is_safe, d_is_sparing, d_is_exact, d__law_begun, d__law_next, d__law_titles, d__law_sign, d__law_frame, d__law_under, d__law_word, d__law_marks, d__law_marked, d__law_layout, d__law_seen, d__law_dates, d__law_gaps, d__law_wastes, d__law_refused, d_law]
def hfa : List He.Fa := [(He.Fa.free "all"), (He.Fa.free "isinstance"), (He.Fa.free "len"), (He.Fa.free "str"), (He.Fa.str "LETTERS" "abcdefghijklmnopqrstuvwxyz"), (He.Fa.int "LONGEST_NAME" 8), (He.Fa.free "set"), (He.Fa.free "tuple"), (He.Fa.int "MOST_BASES" 6), (He.Fa.free "bool"), (He.Fa.free "int"), (He.Fa.free "list"), (He.Fa.free "sorted"), (He.Fa.int "MOST_EDITION" 99), (He.Fa.free "enumerate"), (He.Fa.int "MOST_KINDS" 24), (He.Fa.cls "Chart"), (He.Fa.noat "Chart" "final"), (He.Fa.noat "Chart" "kinds"), (He.Fa.noat "Chart" "plan"), (He.Fa.noat "Chart" "roots"), (He.Fa.noat "Chart" "under"), (He.Fa.glo "Chart"), (He.Fa.mkr "Chart"), (He.Fa.meth "Chart" "since"), (He.Fa.meth "Chart" "watched"), (He.Fa.free "dict"), (He.Fa.free "range"), (He.Fa.free "min"), (He.Fa.exm "BadLayout" "BadLayout" true), (He.Fa.glo "BadLayout"), (He.Fa.glo "is_exact"), (He.Fa.glo "is_safe"), (He.Fa.glo "is_sparing"), (He.Fa.glo "gaps"), (He.Fa.free "repr"), (He.Fa.free "max"), (He.Fa.meth "BadLayout" "__init__"), (He.Fa.noat "BadLayout" "place"), (He.Fa.glo "PartsError"), (He.Fa.glo "is_integer"), (He.Fa.glo "is_name"), (He.Fa.glo "is_mark"), (He.Fa.glo "are_bases"), (He.Fa.glo "is_kind"), (He.Fa.glo "need_layout"), (He.Fa.glo "wastes"), (He.Fa.glo "_law_begun"), (He.Fa.glo "_law_next"), (He.Fa.glo "_law_titles"), (He.Fa.glo "_law_sign"), (He.Fa.glo "_law_frame"), (He.Fa.glo "_law_under"), (He.Fa.glo "_law_word"), (He.Fa.glo "_law_marks"), (He.Fa.glo "_law_marked"), (He.Fa.glo "_law_layout"), (He.Fa.glo "_law_seen"), (He.Fa.glo "_law_dates"), (He.Fa.glo "_law_gaps"), (He.Fa.glo "_law_wastes"), (He.Fa.glo "_law_refused"), (He.Fa.glo "law")]
def hx_0 : PySem.W.Frag → Bool := (fun K => nsB K (["BadLayout"] : List Str))
def hx_1 : PySem.W.Frag → Bool := (fun K => xflB K ["BadLayout"] "place")
def hx_2 : PySem.W.Frag → Bool := (fun K => (K.lookup sysModules).isSome)
def hx_3 : PySem.W.Frag → Bool := (fun K => xcB K (He.ga K "BadLayout") vaTail "ValueError.__new__")
def hx_4 : PySem.W.Frag → Bool := (fun K => bioB K "PartsError" "ValueError.__init__")
def hfx : List (PySem.W.Frag → Bool) := [hx_0, hx_1, hx_2, hx_3, hx_4]
abbrev hR : PySem.W.OpenRow := PySem.W.OpenLaw.row PySem.Challenge.rw_carriedparts_k10_gaps_and_wastes
abbrev hhk : PySem.W.Hook := hookP 6 hfa hfx hfn hpn
def hob (s : PySem.W.SharedT) : (He.AlD × Bool) × List He.FnW := obsP 6 hfa hfx hfn hpn (HandSHeadRun.getT s)
theorem hob_eq (s : PySem.W.SharedT) : hob s = hhk.obs s.abs := obsP_eq (HandSHeadRun.getT_eq s)
set_option maxHeartbeats 0 in
theorem hrun (w : World) : HandSHeadRun.RunEq hR (PySem.W.view hR.prog [39]) hhk hob 16000 ([("_wall" : PySem.Str), ("PartsError" : PySem.Str), ("BadLayout" : PySem.Str), ("MOST_KINDS" : PySem.Str), ("MOST_BASES" : PySem.Str), ("MOST_EDITION" : PySem.Str), ("LONGEST_NAME" : PySem.Str), ("LETTERS" : PySem.Str), ("is_integer" : PySem.Str), ("is_name" : PySem.Str), ("is_mark" : PySem.Str), ("are_bases" : PySem.Str), ("is_kind" : PySem.Str), ("need_layout" : PySem.Str), ("Chart" : PySem.Str), ("gaps" : PySem.Str), ("wastes" : PySem.Str), ("is_safe" : PySem.Str), ("is_sparing" : PySem.Str), ("is_exact" : PySem.Str), ("_law_begun" : PySem.Str), ("_law_next" : PySem.Str), ("_law_titles" : PySem.Str), ("_law_sign" : PySem.Str), ("_law_frame" : PySem.Str), ("_law_under" : PySem.Str), ("_law_word" : PySem.Str), ("_law_marks" : PySem.Str), ("_law_marked" : PySem.Str), ("_law_layout" : PySem.Str), ("_law_seen" : PySem.Str), ("_law_dates" : PySem.Str), ("_law_gaps" : PySem.Str), ("_law_wastes" : PySem.Str), ("_law_refused" : PySem.Str)] : List PySem.Str) w := by
  intro os
  kernel_rfl
end Mv

namespace Mv
open PySem L2

/-- a value as a tree -/
inductive Dt where
  | non
  | bl (b : Bool)
  | int (i : Int)
  | str (x : Str)
  | lst (xs : List Dt)
  | tup (xs : List Dt)
  | dct (kvs : List (Key × Dt))
  | obj (c : Str) (fs : List (Str × Dt))
  | glo (x : Str)
  | ty (n : String)
  | scr (ns : List Int)
  | drw
  | set (l : List Str)
  | exc (c : Str) (fs : List (Str × Dt))
  | ftp (xs : List Dt)
  | adr (a : Addr)

def Ex (B H : Hp) : Prop := ∀ a o, B a = some o → H a = some o
theorem Ex.refl (B : Hp) : Ex B B := fun _ _ h => h
theorem Ex.trans {A B C : Hp} (h : Ex A B) (k : Ex B C) : Ex A C := fun a o e => k a o (h a o e)
theorem Ex.no {A B : Hp} (h : Ex A B) {a : Addr} (e : B a = none) : A a = none := by
  cases q : A a with
  | none => rfl
  | some o => rw [h a o q] at e; cases e
theorem Ex.put {A B : Hp} (h : Ex A B) {a : Addr} {o : HO} (e : A a = none) : Ex A (upd B a o) := fun b u q => by
  rw [upd_ne (ne_of_none q e)]; exact h b u q
theorem Ex.both {A B : Hp} (h : Ex A B) {a : Addr} {o : HO} : Ex (L2.upd A a o) (L2.upd B a o) := fun b u q => by
  by_cases e : b = a
  · subst e; rw [upd_same] at q ⊢; exact q
  · rw [upd_ne e] at q ⊢; exact h b u q

/-- the written part, the program, the world -/
structure Kx where
  K : PySem.W.Frag
  P : Program
  w : World
abbrev kx (X : Cx) : Kx := ⟨X.K, X.prog, X.w⟩
/-- the draws' state: a dict and a list of ints that only two defs look into: told by what stays true -/
def drwD (Z : Kx) (a g : Addr) : HO := .ext fun h => ∃ m t : Int, 0 ≤ m ∧ 0 ≤ t ∧ ObjOk Z.P Z.w (fun _ => none) h a (.dK [(.inr "mixed", .int m), (.inr "great", .ref g), (.inr "turn", .int t)])
def drwG (Z : Kx) (g : Addr) : HO := .ext fun h => ∃ ns : List Int, ns.length ≤ 63 ∧ ObjOk Z.P Z.w (fun _ => none) h g (.lst (ns.map V.int))

/-- sets of texts -/
def TsD (P : Program) (w : World) (D : PySem.Froz.SD) (l : List Str) : Prop := PySem.Froz.TxOk P w D l ∧ Ris D.2.2.place.toList ∧ (w.params.followText "set-order" = true ∨ D.2.2.led = true)
def TsA (P : Program) (w : World) (h : Heap) (a : Addr) (l : List Str) : Prop := ∃ D, h.get? a = some (PySem.Froz.sObj "set" D) ∧ TsD P w D l
def TsO (P : Program) (w : World) (a : Addr) (l : List Str) : HO := .ext fun h => TsA P w h a l
/-- an exception of an own class, its dict -/
def ExC (C : Addr) (d : Option Addr) (a : Addr) : HO := .ext fun h => ∃ (oe : Obj) (vs : Array Value), h.get? a = some oe ∧ Zc (.ref C) d oe ∧ oe.data = .fields vs
mutual
inductive Rp (Z : Kx) (B : Hp) : V → Dt → Prop
  | non : Rp Z B .non .non
  | bl (b : Bool) : Rp Z B (.bl b) (.bl b)
  | int (i : Int) : Rp Z B (.int i) (.int i)
  | str (x : Str) : Rp Z B (.str x) (.str x)
  | lst {a : Addr} {vs : List V} {xs : List Dt} : B a = some (.lst vs) → RpAll Z B vs xs → Rp Z B (.ref a) (.lst xs)
  | tup {a : Addr} {vs : List V} {xs : List Dt} : SqT Z.K B a vs → RpAll Z B vs xs → Rp Z B (.ref a) (.tup xs)
  | dct {a : Addr} {o : Obj} {vs : List (Key × V)} {xs : List (Key × Dt)} : B a = some (.frz o (.dK vs)) → RpKv Z B vs xs → Rp Z B (.ref a) (.dct xs)
  | obj {a dx : Addr} {c : Str} {vs : List (Str × V)} {xs : List (Str × Dt)} : B a = some (.ins (He.ga Z.K c) dx vs) → RpFs Z B vs xs → Rp Z B (.ref a) (.obj c xs)
  | glo {x : Str} : Rp Z B (.ref (He.ga Z.K x)) (.glo x)
  | ty (n : String) : Rp Z B (.ty n) (.ty n)
  | scr {a : Addr} {ns : List Int} : SqL Z.K B a (ns.map V.int) → Rp Z B (.ref a) (.scr ns)
  | drw {a g : Addr} : a ≠ g → B a = some (drwD Z a g) → B g = some (drwG Z g) → Rp Z B (.ref a) .drw
  | set {a : Addr} {l : List Str} : B a = some (TsO Z.P Z.w a l) → Rp Z B (.ref a) (.set l)
  | exc {a dd : Addr} {c : Str} {vs : List (Str × V)} {xs : List (Str × Dt)} : B a = some (ExC (He.ga Z.K c) (some dd) a) → B dd = some (.xd vs) → RpFs Z B vs xs → Rp Z B (.ref a) (.exc c xs)
  | exc0 {a : Addr} {c : Str} : B a = some (ExC (He.ga Z.K c) none a) → Rp Z B (.ref a) (.exc c [])
  | ftp {a : Addr} {o : Obj} {vs : List V} {xs : List Dt} : B a = some (.frz o (.tup vs)) → o.dict = none → RpAll Z B vs xs → Rp Z B (.ref a) (.ftp xs)
  | adr (a : Addr) : Rp Z B (.ref a) (.adr a)
inductive RpAll (Z : Kx) (B : Hp) : List V → List Dt → Prop
  | nil : RpAll Z B [] []
  | cons {v : V} {vs : List V} {d : Dt} {ds : List Dt} : Rp Z B v d → RpAll Z B vs ds → RpAll Z B (v :: vs) (d :: ds)
inductive RpKv (Z : Kx) (B : Hp) : List (Key × V) → List (Key × Dt) → Prop
  | nil : RpKv Z B [] []
  | cons {k : Key} {v : V} {vs : List (Key × V)} {d : Dt} {ds : List (Key × Dt)} : Rp Z B v d → RpKv Z B vs ds → RpKv Z B ((k, v) :: vs) ((k, d) :: ds)
inductive RpFs (Z : Kx) (B : Hp) : List (Str × V) → List (Str × Dt) → Prop
  | nil : RpFs Z B [] []
  | cons {k : Str} {v : V} {vs : List (Str × V)} {d : Dt} {ds : List (Str × Dt)} : Rp Z B v d → RpFs Z B vs ds → RpFs Z B ((k, v) :: vs) ((k, d) :: ds)
end

/-- instances too -/
structure Lg (B H : Hp) : Prop where
  rd : ∀ a u, (∀ C dx fs, u ≠ .ins C dx fs) → Rd B a u → Rd H a u
  ins : ∀ a C dx fs, B a = some (.ins C dx fs) → H a = some (.ins C dx fs)
  lst : ∀ a vs, B a = some (.lst vs) → H a = some (.lst vs)
  ext : ∀ a φ, B a = some (.ext φ) → H a = some (.ext φ)
  frz : ∀ a o u, B a = some (.frz o u) → H a = some (.frz o u)
  xd : ∀ a vs, B a = some (.xd vs) → H a = some (.xd vs)
theorem Lg.refl (B : Hp) : Lg B B := ⟨fun _ _ _ h => h, fun _ _ _ _ h => h, fun _ _ h => h, fun _ _ h => h, fun _ _ _ h => h, fun _ _ h => h⟩
theorem Lg.trans {A B C : Hp} (h : Lg A B) (k : Lg B C) : Lg A C := ⟨fun a u n r => k.rd a u n (h.rd a u n r), fun a c dx fs e => k.ins a c dx fs (h.ins a c dx fs e), fun a vs e => k.lst a vs (h.lst a vs e), fun a φ e => k.ext a φ (h.ext a φ e), fun a o u e => k.frz a o u (h.frz a o u e), fun a vs e => k.xd a vs (h.xd a vs e)⟩
theorem Ex.rd {B H : Hp} (h : Ex B H) {a : Addr} {u : HO} (r : Rd B a u) : Rd H a u := by
  rcases r with r | ⟨o, r⟩
  · exact .inl (h a u r)
  · exact .inr ⟨o, h a _ r⟩
theorem Ex.lg {B H : Hp} (h : Ex B H) : Lg B H := ⟨fun _ _ _ r => h.rd r, fun a _ _ _ e => h a _ e, fun a _ e => h a _ e, fun a _ e => h a _ e, fun a _ _ e => h a _ e, fun a _ e => h a _ e⟩
theorem Lg.sql {K : PySem.W.Frag} {B H : Hp} (h : Lg B H) {a : Addr} {vs : List V} (s : SqL K B a vs) : SqL K H a vs := by
  rcases s with s | s
  · exact .inl (h.rd a _ (fun _ _ _ z => nomatch z) s)
  · exact .inr s
theorem Lg.sqt {K : PySem.W.Frag} {B H : Hp} (h : Lg B H) {a : Addr} {vs : List V} (s : SqT K B a vs) : SqT K H a vs := by
  rcases s with s | s
  · exact .inl (h.rd a _ (fun _ _ _ z => nomatch z) s)
  · exact .inr s
section
variable {Z : Kx} {B H : Hp}
theorem Rp.lg (h : Lg B H) {v : V} {d : Dt} (r : Rp Z B v d) : Rp Z H v d := by
  exact Rp.rec (motive_1 := fun v d _ => Rp Z H v d) (motive_2 := fun v d _ => RpAll Z H v d) (motive_3 := fun v d _ => RpKv Z H v d) (motive_4 := fun v d _ => RpFs Z H v d)
    .non .bl .int .str (fun s _ q => .lst (h.lst _ _ s) q) (fun s _ q => .tup (h.sqt s) q) (fun s _ q => .dct (h.frz _ _ _ s) q) (fun s _ q => .obj (h.ins _ _ _ _ s) q) .glo .ty (fun s => .scr (h.sql s)) (fun n s t => .drw n (h.ext _ _ s) (h.ext _ _ t)) (fun s => .set (h.ext _ _ s)) (fun s t _ q => .exc (h.ext _ _ s) (h.xd _ _ t) q) (fun s => .exc0 (h.ext _ _ s)) (fun s d _ q => .ftp (h.frz _ _ _ s) d q) .adr
    .nil (fun _ _ a b => .cons a b) .nil (fun _ _ a b => .cons a b) .nil (fun _ _ a b => .cons a b) r
theorem RpAll.lg (h : Lg B H) : ∀ {v : List V} {d : List Dt}, RpAll Z B v d → RpAll Z H v d
  | _, _, .nil => .nil
  | _, _, .cons a r => .cons (a.lg h) (RpAll.lg h r)
theorem RpKv.lg (h : Lg B H) : ∀ {v : List (Key × V)} {d : List (Key × Dt)}, RpKv Z B v d → RpKv Z H v d
  | _, _, .nil => .nil
  | _, _, .cons a r => .cons (a.lg h) (RpKv.lg h r)
theorem RpFs.lg (h : Lg B H) : ∀ {v : List (Str × V)} {d : List (Str × Dt)}, RpFs Z B v d → RpFs Z H v d
  | _, _, .nil => .nil
  | _, _, .cons a r => .cons (a.lg h) (RpFs.lg h r)
theorem Rp.ex (h : Ex B H) {v : V} {d : Dt} (r : Rp Z B v d) : Rp Z H v d := r.lg h.lg
theorem RpAll.ex (h : Ex B H) {v : List V} {d : List Dt} (r : RpAll Z B v d) : RpAll Z H v d := r.lg h.lg
theorem RpKv.ex (h : Ex B H) {v : List (Key × V)} {d : List (Key × Dt)} (r : RpKv Z B v d) : RpKv Z H v d := r.lg h.lg
end

/-- the frozen part grows, the rest is kept and does not become frozen -/
structure Gr (B H B' H' : Hp) : Prop where
  b : Ex B B'
  bh : Ex B' H'
  h : ∀ a o, B a = none → H a = some o → H' a = some o ∧ B' a = none
section
variable {B H B1 H1 B2 H2 : Hp} {p : Addr} {o : HO}
theorem Gr.refl (e : Ex B H) : Gr B H B H := ⟨.refl _, e, fun _ _ n h => ⟨h, n⟩⟩
theorem Gr.trans (g : Gr B H B1 H1) (k : Gr B1 H1 B2 H2) : Gr B H B2 H2 :=
  ⟨g.b.trans k.b, k.bh, fun a o n h => let ⟨h1, n1⟩ := g.h a o n h; k.h a o n1 h1⟩
theorem Gr.new (e : Ex B H) (hp : H p = none) : Gr B H (upd B p o) (upd H p o) :=
  ⟨Ex.put (.refl _) (e.no hp), e.both, fun a u n h => by
    have ne := ne_of_none h hp
    rw [upd_ne ne, upd_ne ne]; exact ⟨h, n⟩⟩
theorem Gr.tmp (e : Ex B H) (hp : H p = none) : Gr B H B (upd H p o) :=
  ⟨.refl _, e.put (e.no hp), fun a u n h => by
    rw [upd_ne (ne_of_none h hp)]; exact ⟨h, n⟩⟩
theorem Gr.ex (g : Gr B H B1 H1) (e : Ex B H) : Ex H H1 := fun a o h => by
  cases q : B a with
  | none => exact (g.h a o q h).1
  | some u =>
    have := e a u q
    rw [h] at this; cases this
    exact g.bh a _ (g.b a _ q)
theorem Gr.no (g : Gr B H B1 H1) (e : Ex B H) {a : Addr} (n : H1 a = none) : H a = none := (g.ex e).no n
/-- .. and changed -/
theorem Gr.frzU (g : Gr B H B1 H1) (hn : H p = none) (n : B1 p = none) : Gr B H (upd B1 p o) (upd H1 p o) :=
  ⟨g.b.put (g.b.no n), g.bh.both, fun a u q h => by
    have ne := ne_of_none h hn
    rw [upd_ne ne, upd_ne ne]; exact g.h a u q h⟩
/-- what is kept apart may be frozen -/
theorem Gr.frz (g : Gr B H B1 H1) (hn : H p = none) (h1 : H1 p = some o) (n : B1 p = none) : Gr B H (upd B1 p o) H1 :=
  ⟨g.b.put (g.b.no n), fun a u q => by
    by_cases e : a = p
    · subst e; rw [upd_same] at q; cases q; exact h1
    · rw [upd_ne e] at q; exact g.bh a u q, fun a u q h => by
    have ne := ne_of_none h hn
    rw [upd_ne ne]; exact g.h a u q h⟩
end

/-- a field of an object that is owned -/
inductive Fv where
  | fz (d : Dt)
  | ol (xs : List Dt)
  | od (kvs : List (Key × Dt))
/-- what stands in the store: a list, a dict, an object; their items frozen -/
inductive Cd where
  | l (xs : List Dt)
  | d (kvs : List (Key × Dt))
  | o (c : Str) (fs : List (Str × Dt))
  | t (q : Str) (cl : Option (Addr × List (Option V) × List (Option Dt)))
abbrev Sto := List (Addr × Cd)
/-- slots of which some are told -/
inductive RpO (Z : Kx) (B : Hp) : List (Option V) → List (Option Dt) → Prop
  | nil : RpO Z B [] []
  | no {o : Option V} {os : List (Option V)} {ds : List (Option Dt)} : RpO Z B os ds → RpO Z B (o :: os) (none :: ds)
  | fz {v : V} {d : Dt} {os : List (Option V)} {ds : List (Option Dt)} : Rp Z B v d → RpO Z B os ds → RpO Z B (some v :: os) (some d :: ds)
/-- a lambda that is handed over: its code object and the slots that it may read -/
structure LmOk (Z : Kx) (B : Hp) (q : Str) (c : Addr × List (Option V) × List (Option Dt)) : Prop where
  code : B c.1 = some (LamX.CodeO c.1 q)
  rp : RpO Z B c.2.1 c.2.2
/-- a table of code objects of the name q -/
structure TbOk (B : Hp) (q : Str) (ps : Array Value) : Prop where
  tri : TriplesOk ps.toList
  at_ : ∀ (pos : Pos) (cv : Value), codeAmong pos ps.toList = some cv → ∃ c, cv = .ref c ∧ B c = some (LamX.CodeO c q)
inductive CdOk (Z : Kx) (B : Hp) : HO → Cd → Prop
  | l {vs : List V} {xs : List Dt} : RpAll Z B vs xs → CdOk Z B (.lst vs) (.l xs)
  | d {vs : List (Key × V)} {xs : List (Key × Dt)} : RpKv Z B vs xs → CdOk Z B (.dK vs) (.d xs)
  | o {dx : Addr} {c : Str} {vs : List (Str × V)} {fs : List (Str × Dt)} : RpFs Z B vs fs → CdOk Z B (.ins (He.ga Z.K c) dx vs) (.o c fs)
  | t {q : Str} {ps : Array Value} {cl : Option (Addr × List (Option V) × List (Option Dt))} : TbOk B q ps → (∀ c, cl = some c → LmOk Z B q c) → CdOk Z B (.tbl ps) (.t q cl)
def StoOk (Z : Kx) (B H : Hp) (S : Sto) : Prop := ∀ p ∈ S, ∃ o, H p.1 = some o ∧ CdOk Z B o p.2
inductive Sl where
  | no
  | fz (d : Dt)
  | ol (xs : List Dt)
  | od (kvs : List (Key × Dt))
  | oo (a : Addr) (c : Str) (fs : List (Str × Fv))
  | oa (a : Addr) (kvs : List (Key × Dt))
  | sto (S : Sto)
  | clo (q : Str) (cl : Addr × List (Option V) × List (Option Dt))
inductive FvOk (Z : Kx) (B H : Hp) : Fv → V → List Addr → Prop
  | fz {v : V} {d : Dt} : Rp Z B v d → FvOk Z B H (.fz d) v []
  | ol {a : Addr} {vs : List V} {xs : List Dt} : H a = some (.lst vs) → RpAll Z B vs xs → FvOk Z B H (.ol xs) (.ref a) [a]
  | od {a : Addr} {vs : List (Key × V)} {xs : List (Key × Dt)} : H a = some (.dK vs) → RpKv Z B vs xs → FvOk Z B H (.od xs) (.ref a) [a]
inductive FvAll (Z : Kx) (B H : Hp) : List (Str × Fv) → List (Str × V) → List Addr → Prop
  | nil : FvAll Z B H [] [] []
  | cons {k : Str} {f : Fv} {v : V} {fp fps : List Addr} {fs : List (Str × Fv)} {vs : List (Str × V)} : FvOk Z B H f v fp → FvAll Z B H fs vs fps → FvAll Z B H ((k, f) :: fs) ((k, v) :: vs) (fp ++ fps)
abbrev Env := List Sl
inductive SlOk (Z : Kx) (B H : Hp) : Sl → Option V → List Addr → Prop
  | no {o : Option V} : SlOk Z B H .no o []
  | fz {v : V} {d : Dt} : Rp Z B v d → SlOk Z B H (.fz d) (some v) []
  | ol {a : Addr} {vs : List V} {xs : List Dt} : H a = some (.lst vs) → RpAll Z B vs xs → SlOk Z B H (.ol xs) (some (.ref a)) [a]
  | od {a : Addr} {vs : List (Key × V)} {xs : List (Key × Dt)} : H a = some (.dK vs) → RpKv Z B vs xs → SlOk Z B H (.od xs) (some (.ref a)) [a]
  | oo {a dx : Addr} {c : Str} {vs : List (Str × V)} {fs : List (Str × Fv)} {fps : List Addr} : H a = some (.ins (He.ga Z.K c) dx vs) → FvAll Z B H fs vs fps → SlOk Z B H (.oo a c fs) (some (.ref a)) (a :: fps)
  | oa {a : Addr} {vs : List (Key × V)} {xs : List (Key × Dt)} : H a = some (.dK vs) → RpKv Z B vs xs → SlOk Z B H (.oa a xs) (some (.ref a)) [a]
  | sto {o : Option V} {S : Sto} : StoOk Z B H S → SlOk Z B H (.sto S) o (S.map (·.1))
  | clo {o : Option V} {q : Str} {cl : Addr × List (Option V) × List (Option Dt)} : LmOk Z B q cl → SlOk Z B H (.clo q cl) o []
inductive SlAll (Z : Kx) (B H : Hp) : Env → St → List Addr → Prop
  | nil : SlAll Z B H [] [] []
  | cons {s : Sl} {o : Option V} {fp fps : List Addr} {ρ : Env} {σ : St} : SlOk Z B H s o fp → SlAll Z B H ρ σ fps → SlAll Z B H (s :: ρ) (o :: σ) (fp ++ fps)
section
variable {Z : Kx} {B H B' H' : Hp}
theorem FvOk.heap {f : Fv} {v : V} {fp : List Addr} (k : FvOk Z B H f v fp) (e : Lg B B') (h : ∀ a ∈ fp, H' a = H a) : FvOk Z B' H' f v fp := by
  cases k with
  | fz r => exact .fz (r.lg e)
  | ol q r => exact .ol ((h _ (by simp)).trans q) (r.lg e)
  | od q r => exact .od ((h _ (by simp)).trans q) (r.lg e)
theorem FvAll.heap {fs : List (Str × Fv)} {vs : List (Str × V)} {fps : List Addr} (k : FvAll Z B H fs vs fps) (e : Lg B B') (h : ∀ a ∈ fps, H' a = H a) : FvAll Z B' H' fs vs fps := by
  induction k with
  | nil => exact .nil
  | cons a _ ih => exact .cons (a.heap e fun x hx => h x (List.mem_append_left _ hx)) (ih fun x hx => h x (List.mem_append_right _ hx))
theorem FvOk.has {f : Fv} {v : V} {fp : List Addr} (k : FvOk Z B H f v fp) : ∀ a ∈ fp, ∃ u, H a = some u := by
  cases k with
  | fz r => intro a h; simp at h
  | ol q r => intro a h; rw [List.mem_singleton] at h; subst h; exact ⟨_, q⟩
  | od q r => intro a h; rw [List.mem_singleton] at h; subst h; exact ⟨_, q⟩
theorem FvAll.has {fs : List (Str × Fv)} {vs : List (Str × V)} {fps : List Addr} (k : FvAll Z B H fs vs fps) : ∀ a ∈ fps, ∃ u, H a = some u := by
  induction k with
  | nil => intro a h; simp at h
  | cons q _ ih =>
    intro a h
    rcases List.mem_append.mp h with h | h
    · exact q.has a h
    · exact ih a h
theorem RpO.lg {os : List (Option V)} {ds : List (Option Dt)} (k : RpO Z B os ds) (e : Lg B B') : RpO Z B' os ds := by
  induction k with
  | nil => exact .nil
  | no _ ih => exact .no ih
  | fz r _ ih => exact .fz (r.lg e) ih
theorem LmOk.lg {q : Str} {c : Addr × List (Option V) × List (Option Dt)} (k : LmOk Z B q c) (e : Lg B B') : LmOk Z B' q c := ⟨e.ext _ _ k.code, k.rp.lg e⟩
theorem TbOk.lg {q : Str} {ps : Array Value} (k : TbOk B q ps) (e : Lg B B') : TbOk B' q ps := ⟨k.tri, fun pos cv h => by
  obtain ⟨c, h1, h2⟩ := k.at_ pos cv h
  exact ⟨c, h1, e.ext _ _ h2⟩⟩
theorem TbOk.nil {q : Str} : TbOk B q #[] := ⟨True.intro, fun pos cv hc => by
  have z : codeAmong pos [] = some cv := hc
  simp [codeAmong] at z⟩
theorem CdOk.lg {o : HO} {c : Cd} (k : CdOk Z B o c) (e : Lg B B') : CdOk Z B' o c := by
  cases k with
  | l r => exact .l (r.lg e)
  | d r => exact .d (r.lg e)
  | o r => exact .o (r.lg e)
  | t r h => exact .t (r.lg e) fun c hc => (h c hc).lg e
theorem StoOk.heap {S : Sto} (k : StoOk Z B H S) (e : Lg B B') (h : ∀ a ∈ S.map (·.1), H' a = H a) : StoOk Z B' H' S := fun p hp => by
  obtain ⟨o, h1, h2⟩ := k p hp
  exact ⟨o, (h _ (List.mem_map_of_mem hp)).trans h1, h2.lg e⟩
theorem SlOk.heap {s : Sl} {o : Option V} {fp : List Addr} (k : SlOk Z B H s o fp) (e : Lg B B') (h : ∀ a ∈ fp, H' a = H a) : SlOk Z B' H' s o fp := by
  cases k with
  | no => exact .no
  | fz r => exact .fz (r.lg e)
  | ol q r => exact .ol ((h _ (by simp)).trans q) (r.lg e)
  | od q r => exact .od ((h _ (by simp)).trans q) (r.lg e)
  | oo q r => exact .oo ((h _ (by simp)).trans q) (r.heap e fun x hx => h x (by simp [hx]))
  | oa q r => exact .oa ((h _ (by simp)).trans q) (r.lg e)
  | sto k => exact .sto (k.heap e h)
  | clo k => exact .clo (k.lg e)
theorem SlAll.heap {ρ : Env} {σ : St} {fps : List Addr} (k : SlAll Z B H ρ σ fps) (e : Lg B B') (h : ∀ a ∈ fps, H' a = H a) : SlAll Z B' H' ρ σ fps := by
  induction k with
  | nil => exact .nil
  | cons a _ ih => exact .cons (a.heap e fun x hx => h x (List.mem_append_left _ hx)) (ih fun x hx => h x (List.mem_append_right _ hx))
theorem SlAll.len {ρ : Env} {σ : St} {fps : List Addr} (k : SlAll Z B H ρ σ fps) : σ.length = ρ.length := by
  induction k with
  | nil => rfl
  | cons a _ ih => simp [ih]
theorem SlOk.has {s : Sl} {o : Option V} {fp : List Addr} (k : SlOk Z B H s o fp) : ∀ a ∈ fp, ∃ u, H a = some u := by
  cases k with
  | no => intro a h; simp at h
  | fz r => intro a h; simp at h
  | ol q r => intro a h; rw [List.mem_singleton] at h; subst h; exact ⟨_, q⟩
  | od q r => intro a h; rw [List.mem_singleton] at h; subst h; exact ⟨_, q⟩
  | oo q r =>
    intro a h
    rcases List.mem_cons.mp h with h | h
    · subst h; exact ⟨_, q⟩
    · exact r.has a h
  | oa q r => intro a h; rw [List.mem_singleton] at h; subst h; exact ⟨_, q⟩
  | sto k =>
    intro a h
    obtain ⟨p, hp, rfl⟩ := List.mem_map.mp h
    obtain ⟨o, h1, _⟩ := k p hp
    exact ⟨o, h1⟩
  | clo k => intro a h; simp at h
theorem SlAll.has {ρ : Env} {σ : St} {fps : List Addr} (k : SlAll Z B H ρ σ fps) : ∀ a ∈ fps, ∃ u, H a = some u := by
  induction k with
  | nil => intro a h; simp at h
  | cons q _ ih =>
    intro a h
    rcases List.mem_append.mp h with h | h
    · exact q.has a h
    · exact ih a h
/-- the i-th slot taken out -/
theorem SlAll.at {ρ : Env} {σ : St} {fps : List Addr} (k : SlAll Z B H ρ σ fps) : ∀ {i : Nat} {s : Sl}, ρ[i]? = some s →
    ∃ o l m r, σ[i]? = some o ∧ fps = l ++ m ++ r ∧ SlOk Z B H s o m ∧ ∀ s' o' fp', SlOk Z B H s' o' fp' → SlAll Z B H (ρ.set i s') (σ.set i o') (l ++ fp' ++ r) := by
  induction k with
  | nil => intro i s h; simp at h
  | @cons s0 o0 fp fps ρ σ q qs ih =>
    intro i s h
    cases i with
    | zero =>
      simp at h
      subst h
      refine ⟨o0, [], fp, fps, by simp, by simp, q, fun s' o' fp' h' => ?_⟩
      simpa using SlAll.cons h' qs
    | succ i =>
      simp at h
      obtain ⟨o, l, m, r, h1, h2, h3, h4⟩ := ih h
      refine ⟨o, fp ++ l, m, r, by simpa using h1, by rw [h2]; simp [List.append_assoc], h3, fun s' o' fp' h' => ?_⟩
      have := SlAll.cons q (h4 s' o' fp' h')
      simpa [List.append_assoc] using this
end

/-- the state: B0 the frozen part at the root, F what may not be touched; B the frozen part now -/
structure SR (Z : Kx) (B0 F : Hp) (ρ : Env) (σ : St) (B H : Hp) : Prop where
  ex : Ex B0 B
  bh : Ex B H
  fr : ∀ a o, B0 a = none → F a = some o → H a = some o ∧ B a = none
  sl : ∃ fps, SlAll Z B H ρ σ fps ∧ fps.Nodup ∧ ∀ a ∈ fps, B a = none ∧ F a = none
section
variable {Z : Kx} {B0 F B H B' H' : Hp} {ρ : Env} {σ : St}
theorem SR.len (s : SR Z B0 F ρ σ B H) : σ.length = ρ.length := let ⟨_, k, _⟩ := s.sl; k.len
theorem SR.gr (s : SR Z B0 F ρ σ B H) (g : Gr B H B' H') : SR Z B0 F ρ σ B' H' := by
  obtain ⟨fps, k, nd, hf⟩ := s.sl
  refine ⟨s.ex.trans g.b, g.bh, fun a o n h => let ⟨h1, n1⟩ := s.fr a o n h; g.h a o n1 h1, fps, k.heap g.b.lg fun a ha => ?_, nd, fun a ha => ⟨?_, (hf a ha).2⟩⟩
  · obtain ⟨u, hu⟩ := k.has a ha
    rw [hu]; exact (g.h a u (hf a ha).1 hu).1
  · obtain ⟨u, hu⟩ := k.has a ha
    exact (g.h a u (hf a ha).1 hu).2
theorem SR.get (s : SR Z B0 F ρ σ B H) {i : Nat} {d : Dt} (e : ρ[i]? = some (.fz d)) : ∃ v, σ[i]? = some (some v) ∧ Rp Z B v d := by
  obtain ⟨fps, k, nd, hf⟩ := s.sl
  obtain ⟨o, l, m, r, h1, h2, h3, h4⟩ := k.at e
  cases h3 with
  | fz q => exact ⟨_, h1, q⟩
theorem SR.getL (s : SR Z B0 F ρ σ B H) {i : Nat} {xs : List Dt} (e : ρ[i]? = some (.ol xs)) : ∃ a vs, σ[i]? = some (some (.ref a)) ∧ H a = some (.lst vs) ∧ RpAll Z B vs xs ∧ B a = none := by
  obtain ⟨fps, k, nd, hf⟩ := s.sl
  obtain ⟨o, l, m, r, h1, h2, h3, h4⟩ := k.at e
  cases h3 with
  | ol q r' => exact ⟨_, _, h1, q, r', (hf _ (by rw [h2]; simp)).1⟩
theorem SR.getD (s : SR Z B0 F ρ σ B H) {i : Nat} {xs : List (Key × Dt)} (e : ρ[i]? = some (.od xs)) : ∃ a vs, σ[i]? = some (some (.ref a)) ∧ H a = some (.dK vs) ∧ RpKv Z B vs xs ∧ B a = none := by
  obtain ⟨fps, k, nd, hf⟩ := s.sl
  obtain ⟨o, l, m, r, h1, h2, h3, h4⟩ := k.at e
  cases h3 with
  | od q r' => exact ⟨_, _, h1, q, r', (hf _ (by rw [h2]; simp)).1⟩
theorem SR.getDA (s : SR Z B0 F ρ σ B H) {i : Nat} {a : Addr} {xs : List (Key × Dt)} (e : ρ[i]? = some (.oa a xs)) : ∃ vs, σ[i]? = some (some (.ref a)) ∧ H a = some (.dK vs) ∧ RpKv Z B vs xs ∧ B a = none := by
  obtain ⟨fps, k, nd, hf⟩ := s.sl
  obtain ⟨o, l, m, r, h1, h2, h3, h4⟩ := k.at e
  cases h3 with
  | oa q r' => exact ⟨_, h1, q, r', (hf _ (by rw [h2]; simp)).1⟩
theorem set_again' {α : Type} (l : List α) (i : Nat) (x y : α) : (l.set i x).set i y = l.set i y := by simp
theorem nd_cut {l m r : List Addr} (h : (l ++ m ++ r).Nodup) : (l ++ [] ++ r).Nodup := by
  rw [List.append_nil]
  rw [List.append_assoc] at h
  exact h.sublist (List.Sublist.append_left (List.sublist_append_right m r) l)
theorem nd_put {l m r : List Addr} {a : Addr} (h : (l ++ m ++ r).Nodup) (n : a ∉ l ++ m ++ r) : (l ++ [a] ++ r).Nodup := by
  have h0 := nd_cut h
  simp only [List.append_nil, List.nodup_append, List.mem_append, not_or] at h0 n
  simp only [List.append_assoc, List.nodup_append, List.mem_append, List.cons_append, List.nil_append, List.nodup_cons, List.mem_cons]
  refine ⟨h0.1, ⟨n.2, h0.2.1⟩, fun x hx y hy => ?_⟩
  rcases hy with rfl | hy
  · intro e; subst e; exact n.1.1 hx
  · exact h0.2.2 x hx y hy
theorem mem_cut {l m r : List Addr} {a : Addr} (h : a ∈ l ++ [] ++ r) : a ∈ l ++ m ++ r := by
  simp only [List.append_nil, List.mem_append] at h ⊢
  rcases h with h | h
  · exact .inl (.inl h)
  · exact .inr h
/-- a slot is set to something frozen -/
theorem SR.set (s : SR Z B0 F ρ σ B H) {i : Nat} {v : V} {d : Dt} (r : Rp Z B v d) : SR Z B0 F (ρ.set i (.fz d)) (σ.set i (some v)) B H := by
  obtain ⟨fps, k, nd, hf⟩ := s.sl
  cases e : ρ[i]? with
  | none =>
    have h1 : ρ.length ≤ i := List.getElem?_eq_none_iff.mp e
    rw [List.set_eq_of_length_le h1, List.set_eq_of_length_le (by rw [k.len]; exact h1)]
    exact s
  | some x =>
    obtain ⟨o, l, m, q, h1, h2, h3, h4⟩ := k.at e
    subst h2
    exact ⟨s.ex, s.bh, s.fr, _, h4 _ _ _ (.fz r), nd_cut nd, fun a ha => hf a (mem_cut ha)⟩
/-- a slot is forgotten -/
theorem SR.wipe1 (s : SR Z B0 F ρ σ B H) {i : Nat} {o : Option V} : SR Z B0 F (ρ.set i .no) (σ.set i o) B H := by
  obtain ⟨fps, k, nd, hf⟩ := s.sl
  cases e : ρ[i]? with
  | none =>
    have h1 : ρ.length ≤ i := List.getElem?_eq_none_iff.mp e
    rw [List.set_eq_of_length_le h1, List.set_eq_of_length_le (by rw [k.len]; exact h1)]
    exact s
  | some x =>
    obtain ⟨o, l, m, q, h1, h2, h3, h4⟩ := k.at e
    subst h2
    exact ⟨s.ex, s.bh, s.fr, _, h4 _ _ _ .no, nd_cut nd, fun a ha => hf a (mem_cut ha)⟩
def wipeE (ρ : Env) : List Nat → Env
  | [] => ρ
  | v :: vs => (wipeE ρ vs).set v .no
theorem SR.wipe (s : SR Z B0 F ρ σ B H) : ∀ vs : List Nat, SR Z B0 F (wipeE ρ vs) (L2.wipe σ vs) B H
  | [] => s
  | v :: vs => (s.wipe vs).wipe1
theorem SR.fresh (s : SR Z B0 F ρ σ B H) {a : Addr} (n : H a = none) : F a = none ∧ B a = none := by
  have nb := s.bh.no n
  refine ⟨?_, nb⟩
  cases q : F a with
  | none => rfl
  | some o =>
    have := (s.fr a o (s.ex.no nb) q).1
    rw [n] at this; cases this
theorem SR.setN (s : SR Z B0 F ρ σ B H) (g : Gr B H B' H') {i : Nat} {a : Addr} {vs : List V} {xs : List Dt} (hn : H a = none) (h : H' a = some (.lst vs)) (r : RpAll Z B' vs xs) (nb : B' a = none) :
    SR Z B0 F (ρ.set i (.ol xs)) (σ.set i (some (.ref a))) B' H' := by
  have s' := s.gr g
  obtain ⟨fps, k0, nd0, hf0⟩ := s.sl
  have ha : a ∉ fps := fun z => by
    obtain ⟨u, hu⟩ := k0.has a z
    rw [hn] at hu; cases hu
  have nF := (s.fresh hn).1
  have k : SlAll Z B' H' ρ σ fps := k0.heap g.b.lg fun b hb => by
    obtain ⟨u, hu⟩ := k0.has b hb
    rw [hu]; exact (g.h b u (hf0 b hb).1 hu).1
  have hf : ∀ b ∈ fps, B' b = none ∧ F b = none := fun b hb => by
    obtain ⟨u, hu⟩ := k0.has b hb
    exact ⟨(g.h b u (hf0 b hb).1 hu).2, (hf0 b hb).2⟩
  cases e : ρ[i]? with
  | none =>
    have h1 : ρ.length ≤ i := List.getElem?_eq_none_iff.mp e
    rw [List.set_eq_of_length_le h1, List.set_eq_of_length_le (by rw [k.len]; exact h1)]
    exact s'
  | some x =>
    obtain ⟨o, l, m, q, h1, h2, h3, h4⟩ := k.at e
    subst h2
    refine ⟨s'.ex, s'.bh, s'.fr, _, h4 _ _ _ (.ol h r), nd_put nd0 ha, fun b hb => ?_⟩
    by_cases eb : b = a
    · subst eb; exact ⟨nb, nF⟩
    · refine hf b (mem_cut (m := m) ?_)
      simp only [List.mem_append, List.append_nil, List.mem_singleton] at hb ⊢
      rcases hb with (hb | hb) | hb
      · exact .inl hb
      · exact absurd hb eb
      · exact .inr hb
/-- an owned thing and what belongs to it change; what is new may be added to it -/
theorem SR.mutG {B1 H1 : Hp} (s : SR Z B0 F ρ σ B H) (g : Gr B H B1 H1) {i : Nat} {x : Sl} (e : ρ[i]? = some x) : ∃ o m, σ[i]? = some o ∧ SlOk Z B1 H1 x o m ∧ m.Nodup ∧ (∀ a ∈ m, B1 a = none ∧ F a = none ∧ ∃ u, H a = some u) ∧
    ∀ x' m' B2 H2, Ex B1 B2 → (∀ c, c ∉ m → H c ≠ none → H2 c = H1 c ∧ B2 c = B1 c) → Ex B2 H2 → SlOk Z B2 H2 x' o m' → m'.Nodup → (∀ a ∈ m', (a ∈ m ∨ H a = none) ∧ B2 a = none) → SR Z B0 F (ρ.set i x') σ B2 H2 := by
  obtain ⟨fps, k, nd, hf⟩ := s.sl
  have k1 : SlAll Z B1 H1 ρ σ fps := k.heap g.b.lg fun b hb => by
    obtain ⟨u, hu⟩ := k.has b hb
    rw [hu]; exact (g.h b u (hf b hb).1 hu).1
  obtain ⟨o, l, m, r, h1, h2, h3, h4⟩ := k1.at e
  subst h2
  have mem : ∀ a ∈ m, a ∈ l ++ m ++ r := fun a ha => by simp [ha]
  have has : ∀ a ∈ l ++ m ++ r, ∃ u, H a = some u := fun a ha => k.has a ha
  have ndm : m.Nodup := by
    rw [List.append_assoc, List.nodup_append, List.nodup_append] at nd
    exact nd.2.1.1
  have nb1 : ∀ a ∈ l ++ m ++ r, B1 a = none := fun a ha => by
    obtain ⟨u, hu⟩ := has a ha
    exact (g.h a u (hf a ha).1 hu).2
  refine ⟨o, m, h1, h3, ndm, fun a ha => ⟨nb1 a (mem a ha), (hf a (mem a ha)).2, has a (mem a ha)⟩, fun x' m' B2 H2 eb hk bh ok nd' hm => ?_⟩
  have off : ∀ c, c ∈ l ++ r → c ∉ m := fun c hc hm => by
    simp only [List.append_assoc, List.nodup_append, List.mem_append] at nd hc
    rcases hc with hc | hc
    · exact nd.2.2 c hc c (.inl hm) rfl
    · exact nd.2.1.2.2 c hm c hc rfl
  have inl : ∀ c, c ∈ l ++ r → c ∈ l ++ m ++ r := fun c hc => by
    simp only [List.mem_append] at hc ⊢
    rcases hc with hc | hc
    · exact .inl (.inl hc)
    · exact .inr hc
  have keepS : ∀ c, c ∈ l ++ r → H2 c = H1 c := fun c hc => by
    obtain ⟨u, hu⟩ := has c (inl c hc)
    exact (hk c (off c hc) (by rw [hu]; simp)).1
  have es : σ.set i o = σ := by
    apply List.ext_getElem?
    intro j
    by_cases ej : j = i
    · subst ej; rw [h1, List.getElem?_set_self (List.getElem?_eq_some_iff.mp h1).1]
    · rw [List.getElem?_set_ne (Ne.symm ej)]
  have kb := (h4 .no o [] .no).heap (H' := H2) eb.lg fun c hc => keepS c (by simpa using hc)
  have ei : (ρ.set i .no)[i]? = some .no := by
    have : i < ρ.length := (List.getElem?_eq_some_iff.mp e).1
    rw [List.getElem?_set_self this]
  obtain ⟨o2, l2, m2, r2, g1, g2, g3, g4⟩ := kb.at ei
  cases g3
  have k2 := g4 x' o m' ok
  rw [set_again', set_again', es] at k2
  have g2' : l2 ++ r2 = l ++ r := by simpa using g2.symm
  have fr : ∀ a ∈ m', a ∉ l ++ r := fun a ha z => by
    rcases (hm a ha).1 with q | q
    · exact off a z q
    · obtain ⟨u, hu⟩ := has a (inl a z)
      rw [q] at hu; cases hu
  have ndlr : (l ++ r).Nodup := by simpa using nd_cut nd
  refine ⟨(s.ex.trans g.b).trans eb, bh, fun a u n h => ?_, _, k2, ?_, fun a ha => ?_⟩
  · obtain ⟨q1, q2⟩ := s.fr a u n h
    obtain ⟨q3, q4⟩ := g.h a u q2 q1
    have na : a ∉ m := fun z => by rw [(hf a (mem a z)).2] at h; cases h
    obtain ⟨z1, z2⟩ := hk a na (by rw [q1]; simp)
    exact ⟨z1.trans q3, z2.trans q4⟩
  · have := ndlr
    rw [← g2', List.nodup_append] at this
    rw [List.append_assoc, List.nodup_append, List.nodup_append]
    refine ⟨this.1, ⟨nd', this.2.1, fun x hx y hy e => fr x hx (by rw [← g2', e]; simp [hy])⟩, fun x hx y hy e => ?_⟩
    rcases List.mem_append.mp hy with hy | hy
    · exact fr y hy (by rw [← g2', ← e]; simp [hx])
    · exact this.2.2 x hx y hy e
  · have ha' : a ∈ m' ∨ a ∈ l ++ r := by
      simp only [List.mem_append] at ha
      rcases ha with (ha | ha) | ha
      · exact .inr (by rw [← g2']; simp [ha])
      · exact .inl ha
      · exact .inr (by rw [← g2']; simp [ha])
    rcases ha' with ha | ha
    · refine ⟨(hm a ha).2, ?_⟩
      rcases (hm a ha).1 with q | q
      · exact (hf a (mem a q)).2
      · exact (s.fresh q).1
    · have z := hf a (inl a ha)
      obtain ⟨u, hu⟩ := has a (inl a ha)
      exact ⟨(hk a (off a ha) (by rw [hu]; simp)).2.trans (nb1 a (inl a ha)), z.2⟩
theorem SR.setND (s : SR Z B0 F ρ σ B H) (g : Gr B H B' H') {i : Nat} {a : Addr} {vs : List (Key × V)} {xs : List (Key × Dt)} (hn : H a = none) (h : H' a = some (.dK vs)) (r : RpKv Z B' vs xs) (nb : B' a = none) :
    SR Z B0 F (ρ.set i (.od xs)) (σ.set i (some (.ref a))) B' H' := by
  have s' := s.gr g
  obtain ⟨fps, k0, nd0, hf0⟩ := s.sl
  have ha : a ∉ fps := fun z => by
    obtain ⟨u, hu⟩ := k0.has a z
    rw [hn] at hu; cases hu
  have nF := (s.fresh hn).1
  have k : SlAll Z B' H' ρ σ fps := k0.heap g.b.lg fun b hb => by
    obtain ⟨u, hu⟩ := k0.has b hb
    rw [hu]; exact (g.h b u (hf0 b hb).1 hu).1
  have hf : ∀ b ∈ fps, B' b = none ∧ F b = none := fun b hb => by
    obtain ⟨u, hu⟩ := k0.has b hb
    exact ⟨(g.h b u (hf0 b hb).1 hu).2, (hf0 b hb).2⟩
  cases e : ρ[i]? with
  | none =>
    have h1 : ρ.length ≤ i := List.getElem?_eq_none_iff.mp e
    rw [List.set_eq_of_length_le h1, List.set_eq_of_length_le (by rw [k.len]; exact h1)]
    exact s'
  | some x =>
    obtain ⟨o, l, m, q, h1, h2, h3, h4⟩ := k.at e
    subst h2
    refine ⟨s'.ex, s'.bh, s'.fr, _, h4 _ _ _ (.od h r), nd_put nd0 ha, fun b hb => ?_⟩
    by_cases eb : b = a
    · subst eb; exact ⟨nb, nF⟩
    · refine hf b (mem_cut (m := m) ?_)
      simp only [List.mem_append, List.append_nil, List.mem_singleton] at hb ⊢
      rcases hb with (hb | hb) | hb
      · exact .inl hb
      · exact absurd hb eb
      · exact .inr hb
theorem nd_mid {l r : List Addr} {a : Addr} (h : (l ++ [a] ++ r).Nodup) : a ∉ l ++ [] ++ r := by
  simp only [List.append_assoc, List.nodup_append, List.cons_append, List.nil_append, List.nodup_cons, List.mem_cons] at h
  simp only [List.append_nil, List.mem_append, not_or]
  exact ⟨fun z => h.2.2 a z a (.inl rfl) rfl, h.2.1.1⟩
theorem set_again {α : Type} (l : List α) (i : Nat) (x y : α) : (l.set i x).set i y = l.set i y := by simp
/-- an owned thing changes: slot i, whose address is a -/
theorem SR.mut (s : SR Z B0 F ρ σ B H) {i : Nat} {a : Addr} {o : HO} {x x' : Sl} (e : ρ[i]? = some x) (ea : σ[i]? = some (some (.ref a))) (hx : ∀ H o m, SlOk Z B H x o m → ∃ b, o = some (.ref b) ∧ m = [b]) (hx' : ∀ H, H a = some o → SlOk Z B H x' (some (.ref a)) [a]) :
    SR Z B0 F (ρ.set i x') σ B (upd H a o) := by
  obtain ⟨fps, k, nd, hf⟩ := s.sl
  obtain ⟨o1, l, m, r, h1, h2, h3, h4⟩ := k.at e
  obtain ⟨b, rfl, rfl⟩ := hx _ _ _ h3
  rw [ea] at h1
  cases h1
  subst h2
  have na := nd_mid nd
  have ba := (hf a (by simp)).1
  have fa := (hf a (by simp)).2
  have k1 : SlAll Z B (upd H a o) (ρ.set i .no) (σ.set i (some (.ref a))) (l ++ [] ++ r) := (h4 .no (some (.ref a)) [] .no).heap (Lg.refl _) fun c hc => by
    rw [upd_ne]; intro z; subst z; exact na hc
  have ei : (ρ.set i .no)[i]? = some .no := by
    have : i < ρ.length := (List.getElem?_eq_some_iff.mp e).1
    rw [List.getElem?_set_self this]
  obtain ⟨o2, l2, m2, r2, g1, g2, g3, g4⟩ := k1.at ei
  cases g3
  have k2 := g4 x' (some (.ref a)) [a] (hx' _ upd_same)
  rw [set_again, set_again] at k2
  have es : σ.set i (some (.ref a)) = σ := by
    apply List.ext_getElem?
    intro j
    by_cases ej : j = i
    · subst ej; rw [ea]; rw [List.getElem?_set_self (List.getElem?_eq_some_iff.mp ea).1]
    · rw [List.getElem?_set_ne (Ne.symm ej)]
  rw [es] at k2
  have nd2 : (l2 ++ [a] ++ r2).Nodup := by
    have : (l2 ++ [] ++ r2).Nodup := by rw [← g2]; exact nd_cut nd
    exact nd_put (m := []) this (by rw [← g2]; exact na)
  refine ⟨s.ex, s.bh.put ba, fun c u n h => ?_, _, k2, nd2, fun c hc => ?_⟩
  · have nc : c ≠ a := fun z => by subst z; rw [fa] at h; cases h
    rw [upd_ne nc]; exact s.fr c u n h
  · by_cases ec : c = a
    · subst ec; exact ⟨ba, fa⟩
    · have : c ∈ l2 ++ [] ++ r2 := by
        simp only [List.mem_append, List.append_nil, List.mem_singleton] at hc ⊢
        rcases hc with (hc | hc) | hc
        · exact .inl hc
        · exact absurd hc ec
        · exact .inr hc
      rw [← g2] at this
      exact hf c (mem_cut this)
theorem SR.mutL (s : SR Z B0 F ρ σ B H) {i : Nat} {a : Addr} {vs : List V} {xs xs' : List Dt} (e : ρ[i]? = some (.ol xs)) (ea : σ[i]? = some (some (.ref a))) (r : RpAll Z B vs xs') : SR Z B0 F (ρ.set i (.ol xs')) σ B (upd H a (.lst vs)) :=
  s.mut e ea (fun H o m k => by cases k with | ol q r => exact ⟨_, rfl, rfl⟩) fun H h => .ol h r
theorem SR.mutD (s : SR Z B0 F ρ σ B H) {i : Nat} {a : Addr} {vs : List (Key × V)} {xs xs' : List (Key × Dt)} (e : ρ[i]? = some (.od xs)) (ea : σ[i]? = some (some (.ref a))) (r : RpKv Z B vs xs') : SR Z B0 F (ρ.set i (.od xs')) σ B (upd H a (.dK vs)) :=
  s.mut e ea (fun H o m k => by cases k with | od q r => exact ⟨_, rfl, rfl⟩) fun H h => .od h r
/-- an owned thing is frozen -/
theorem SR.fzAt (s : SR Z B0 F ρ σ B H) {i : Nat} {a : Addr} {o : HO} {x : Sl} {d : Dt} (e : ρ[i]? = some x) (ea : σ[i]? = some (some (.ref a))) (hH : ∀ c, c ≠ a → H' c = H c) (ha : H' a = some o) (hx : ∀ H o m, SlOk Z B H x o m → ∃ b, o = some (.ref b) ∧ m = [b]) (hd : Rp Z (upd B a o) (.ref a) d) :
    SR Z B0 F (ρ.set i (.fz d)) σ (upd B a o) H' := by
  obtain ⟨fps, k, nd, hf⟩ := s.sl
  obtain ⟨o1, l, m, r, h1, h2, h3, h4⟩ := k.at e
  obtain ⟨b, rfl, rfl⟩ := hx _ _ _ h3
  rw [ea] at h1
  cases h1
  subst h2
  have na := nd_mid nd
  have ba := (hf a (by simp)).1
  have fa := (hf a (by simp)).2
  have eb : Ex B (upd B a o) := Ex.put (.refl _) ba
  have k1 : SlAll Z (upd B a o) H' (ρ.set i .no) (σ.set i (some (.ref a))) (l ++ [] ++ r) := (h4 .no (some (.ref a)) [] .no).heap eb.lg fun c hc => hH c fun z => by subst z; exact na hc
  have ei : (ρ.set i .no)[i]? = some .no := by
    have : i < ρ.length := (List.getElem?_eq_some_iff.mp e).1
    rw [List.getElem?_set_self this]
  obtain ⟨o2, l2, m2, r2, g1, g2, g3, g4⟩ := k1.at ei
  cases g3
  have k2 := g4 (.fz d) (some (.ref a)) [] (.fz hd)
  rw [set_again, set_again] at k2
  have es : σ.set i (some (.ref a)) = σ := by
    apply List.ext_getElem?
    intro j
    by_cases ej : j = i
    · subst ej; rw [ea]; rw [List.getElem?_set_self (List.getElem?_eq_some_iff.mp ea).1]
    · rw [List.getElem?_set_ne (Ne.symm ej)]
  rw [es, ← g2] at k2
  refine ⟨s.ex.trans eb, fun c u q => ?_, fun c u n h => ?_, _, k2, nd_cut nd, fun c hc => ?_⟩
  · by_cases ec : c = a
    · subst ec; rw [upd_same] at q; cases q; exact ha
    · rw [upd_ne ec] at q; rw [hH c ec]; exact s.bh c u q
  · have nc : c ≠ a := fun z => by subst z; rw [fa] at h; cases h
    rw [upd_ne nc, hH c nc]; exact s.fr c u n h
  · have nc : c ≠ a := fun z => by subst z; exact na hc
    rw [upd_ne nc]; exact hf c (mem_cut hc)
theorem SR.fzL (s : SR Z B0 F ρ σ B H) {i : Nat} {xs : List Dt} (e : ρ[i]? = some (.ol xs)) : ∃ B', Ex B B' ∧ SR Z B0 F (ρ.set i (.fz (.lst xs))) σ B' H := by
  obtain ⟨a, vs, ea, ha, r, nb⟩ := s.getL e
  have eb : Ex B (upd B a (.lst vs)) := Ex.put (.refl _) nb
  exact ⟨_, eb, s.fzAt e ea (fun _ _ => rfl) ha (fun H o m k => by cases k with | ol q r => exact ⟨_, rfl, rfl⟩) (.lst upd_same (r.ex eb))⟩
theorem SR.fzD (s : SR Z B0 F ρ σ B H) {i : Nat} {xs : List (Key × Dt)} (e : ρ[i]? = some (.od xs)) : ∃ a vs, σ[i]? = some (some (.ref a)) ∧ H a = some (.dK vs) ∧ ∀ ob, ∃ B', Ex B B' ∧ SR Z B0 F (ρ.set i (.fz (.dct xs))) σ B' (upd H a (.frz ob (.dK vs))) := by
  obtain ⟨a, vs, ea, ha, r, nb⟩ := s.getD e
  refine ⟨a, vs, ea, ha, fun ob => ?_⟩
  have eb : Ex B (upd B a (.frz ob (.dK vs))) := Ex.put (.refl _) nb
  exact ⟨_, eb, s.fzAt e ea (fun c hc => upd_ne hc) upd_same (fun H o m k => by cases k with | od q r => exact ⟨_, rfl, rfl⟩) (.dct upd_same (r.ex eb))⟩
/-- a new root: what is frozen now, and all but the owned may not be touched -/
theorem SR.root (s : SR Z B0 F ρ σ B H) : ∃ F', SR Z B F' ρ σ B H ∧ (∀ B' H', Gr B F' B' H' → Gr B0 F B' H') ∧ ∀ ρ' σ' B' H', SR Z B F' ρ' σ' B' H' → SR Z B0 F ρ' σ' B' H' := by
  obtain ⟨fps, k, nd, hf⟩ := s.sl
  refine ⟨fun a => if a ∈ fps then none else H a, ⟨.refl _, s.bh, fun a o n h => ?_, fps, k, nd, fun a ha => ⟨(hf a ha).1, if_pos ha⟩⟩, fun B' H' g => ⟨s.ex.trans g.b, g.bh, fun a o n h => ?_⟩, fun ρ' σ' B' H' s' => ?_⟩
  · have h : (if a ∈ fps then none else H a) = some o := h
    split at h
    · cases h
    · exact ⟨h, n⟩
  · obtain ⟨h1, n1⟩ := s.fr a o n h
    have na : a ∉ fps := fun z => by rw [(hf a z).2] at h; cases h
    exact g.h a o n1 (by show (if a ∈ fps then none else H a) = some o; rw [if_neg na]; exact h1)
  · obtain ⟨fps', k', nd', hf'⟩ := s'.sl
    refine ⟨s.ex.trans s'.ex, s'.bh, fun a o n h => ?_, fps', k', nd', fun a ha => ⟨(hf' a ha).1, ?_⟩⟩
    · obtain ⟨h1, n1⟩ := s.fr a o n h
      have na : a ∉ fps := fun z => by rw [(hf a z).2] at h; cases h
      exact s'.fr a o n1 (by show (if a ∈ fps then none else H a) = some o; rw [if_neg na]; exact h1)
    · cases q : F a with
      | none => rfl
      | some o =>
        obtain ⟨n2, f2⟩ := hf' a ha
        have n0 : B0 a = none := (s.ex.trans s'.ex).no n2
        obtain ⟨h1, n1⟩ := s.fr a o n0 q
        have na : a ∉ fps := fun z => by rw [(hf a z).2] at q; cases q
        have f2 : (if a ∈ fps then none else H a) = none := f2
        rw [if_neg na, h1] at f2; cases f2
theorem SR.rootF (s : SR Z B0 F ρ σ B H) : ∃ F', SR Z B F' ρ σ B H ∧ (∀ B' H', Gr B F' B' H' → Gr B0 F B' H') ∧ (∀ ρ' σ' B' H', SR Z B F' ρ' σ' B' H' → SR Z B0 F ρ' σ' B' H') ∧ ∀ a, B a = none → F' a = none → F a = none := by
  obtain ⟨fps, k, nd, hf⟩ := s.sl
  refine ⟨fun a => if a ∈ fps then none else H a, ⟨.refl _, s.bh, fun a o n h => ?_, fps, k, nd, fun a ha => ⟨(hf a ha).1, if_pos ha⟩⟩, fun B' H' g => ⟨s.ex.trans g.b, g.bh, fun a o n h => ?_⟩, fun ρ' σ' B' H' s' => ?_, fun a n f => ?_⟩
  · have h : (if a ∈ fps then none else H a) = some o := h
    split at h
    · cases h
    · exact ⟨h, n⟩
  · obtain ⟨h1, n1⟩ := s.fr a o n h
    have na : a ∉ fps := fun z => by rw [(hf a z).2] at h; cases h
    exact g.h a o n1 (by show (if a ∈ fps then none else H a) = some o; rw [if_neg na]; exact h1)
  · obtain ⟨fps', k', nd', hf'⟩ := s'.sl
    refine ⟨s.ex.trans s'.ex, s'.bh, fun a o n h => ?_, fps', k', nd', fun a ha => ⟨(hf' a ha).1, ?_⟩⟩
    · obtain ⟨h1, n1⟩ := s.fr a o n h
      have na : a ∉ fps := fun z => by rw [(hf a z).2] at h; cases h
      exact s'.fr a o n1 (by show (if a ∈ fps then none else H a) = some o; rw [if_neg na]; exact h1)
    · cases q : F a with
      | none => rfl
      | some o =>
        obtain ⟨n2, f2⟩ := hf' a ha
        have n0 : B0 a = none := (s.ex.trans s'.ex).no n2
        obtain ⟨h1, n1⟩ := s.fr a o n0 q
        have na : a ∉ fps := fun z => by rw [(hf a z).2] at q; cases q
        have f2 : (if a ∈ fps then none else H a) = none := f2
        rw [if_neg na, h1] at f2; cases f2
  · cases q : F a with
    | none => rfl
    | some o =>
      obtain ⟨h1, n1⟩ := s.fr a o (s.ex.no n) q
      have na : a ∉ fps := fun z => by rw [(hf a z).2] at q; cases q
      have f : (if a ∈ fps then none else H a) = none := f
      rw [if_neg na, h1] at f; cases f
/-- at the end of a def: what was there at its start -/
theorem SR.fin (s : SR Z B0 F ρ σ B H) : Gr B0 F B H := ⟨s.ex, s.bh, s.fr⟩
theorem all_fz : ∀ {vs : List V} {ds : List Dt}, RpAll Z B vs ds → SlAll Z B H (ds.map Sl.fz) (vs.map some) []
  | _, _, .nil => .nil
  | _, _, .cons a r => SlAll.cons (fp := []) (.fz a) (all_fz r)
theorem SR.start (e : Ex B0 F) {vs : List V} {ds : List Dt} (r : RpAll Z B0 vs ds) : SR Z B0 F (ds.map Sl.fz) (vs.map some) B0 F := by
  refine ⟨.refl _, e, fun a o n h => ⟨h, n⟩, [], ?_, List.nodup_nil, fun a h => by simp at h⟩
  exact all_fz r
theorem SR.more (s : SR Z B0 F ρ σ B H) (n : Nat) : SR Z B0 F (ρ ++ List.replicate n .no) (σ ++ List.replicate n none) B H := by
  obtain ⟨fps, k, nd, hf⟩ := s.sl
  refine ⟨s.ex, s.bh, s.fr, fps, ?_, nd, hf⟩
  clear nd hf s
  induction k with
  | nil =>
    induction n with
    | zero => exact .nil
    | succ n ih => exact SlAll.cons (fp := []) .no ih
  | cons a _ ih => exact SlAll.cons a ih
end
end Mv

namespace Mv
open PySem L2

/-- an exception of an own class: its class's name, its fields -/
structure Xn where
  c : Str
  fs : List (Str × Dt)
def XnOk (Z : Kx) (x : Xn) (c : Value) (o : Option Addr) (B : Hp) : Prop :=
  c = .ref (He.ga Z.K x.c) ∧ ((o = none ∧ x.fs = []) ∨ ∃ a vs, o = some a ∧ B a = some (.xd vs) ∧ RpFs Z B vs x.fs)

abbrev Wp (α : Type) := (α → Prop) → (Xn → Prop) → Prop
def Wp.ret {α : Type} (a : α) : Wp α := fun Q _ => Q a
def Wp.bind {α β : Type} (m : Wp α) (f : α → Wp β) : Wp β := fun Q E => m (fun a => f a Q E) E
def Wp.bad {α : Type} : Wp α := fun _ _ => False
def Wp.thr {α : Type} (x : Xn) : Wp α := fun _ E => E x
def Wp.gd {α : Type} (p : Prop) (m : Wp α) : Wp α := fun Q E => p ∧ m Q E
/-- no exception leaves it -/
def Wp.calm {α : Type} (m : Wp α) : Wp α := fun Q _ => m Q fun _ => False
def Mn {α : Type} (m : Wp α) : Prop := ∀ (Q Q' : α → Prop) (E E' : Xn → Prop), (∀ a, Q a → Q' a) → (∀ x, E x → E' x) → m Q E → m Q' E'
theorem mn_ret {α : Type} {a : α} : Mn (Wp.ret a) := fun _ _ _ _ h _ q => h a q
theorem mn_bad {α : Type} : Mn (Wp.bad : Wp α) := fun _ _ _ _ _ _ q => q.elim
theorem mn_thr {α : Type} {x : Xn} : Mn (Wp.thr x : Wp α) := fun _ _ _ _ _ k q => k x q
theorem mn_gd {α : Type} {p : Prop} {m : Wp α} (h : Mn m) : Mn (Wp.gd p m) := fun Q Q' E E' a b q => ⟨q.1, h Q Q' E E' a b q.2⟩
theorem mn_bind {α β : Type} {m : Wp α} {f : α → Wp β} (h : Mn m) (k : ∀ a, Mn (f a)) : Mn (Wp.bind m f) := fun Q Q' E E' a b q => h _ _ _ _ (fun x => k x Q Q' E E' a b) b q
theorem mn_calm {α : Type} {m : Wp α} (h : Mn m) : Mn (Wp.calm m) := fun Q Q' E E' a b q => h _ _ _ _ a (fun _ z => z) q

def PostV (Z : Kx) (B H : Hp) (Q : VK) : Dt → Prop := fun d => ∀ v B' H', Gr B H B' H' → Rp Z B' v d → Q v H'
def PostX (Z : Kx) (B H : Hp) (E : XK) : Xn → Prop := fun x => ∀ c o B' H', Gr B H B' H' → XnOk Z x c o B' → E c o H'
/-- a wish about exceptions, by the slots -/
abbrev XS := St → XK
abbrev EZ : XS := fun _ => E0
def PostXs (Z : Kx) (B0 F : Hp) (E : XS) : Xn → Prop := fun x => ∀ σ, PostX Z B0 F (E σ) x
def PostB (B H : Hp) (Q : Bool → Hp → Prop) : Bool → Prop := fun b => ∀ B' H', Gr B H B' H' → Q b H'
section
variable {Z : Kx} {B H B1 H1 : Hp}
theorem PostV.gr {Q : VK} {d : Dt} (p : PostV Z B H Q d) (g : Gr B H B1 H1) : PostV Z B1 H1 Q d := fun v B' H' k r => p v B' H' (g.trans k) r
theorem PostX.gr {E : XK} {x : Xn} (p : PostX Z B H E x) (g : Gr B H B1 H1) : PostX Z B1 H1 E x := fun c o B' H' k r => p c o B' H' (g.trans k) r
theorem PostB.gr {Q : Bool → Hp → Prop} {b : Bool} (p : PostB B H Q b) (g : Gr B H B1 H1) : PostB B1 H1 Q b := fun B' H' k => p B' H' (g.trans k)
end

/-- to be read: frozen, or owned by a slot -/
inductive Rq (Z : Kx) (B H : Hp) : V → Dt → Prop
  | fz {v : V} {d : Dt} : Rp Z B v d → Rq Z B H v d
  | ol {a : Addr} {vs : List V} {xs : List Dt} : H a = some (.lst vs) → RpAll Z B vs xs → B a = none → Rq Z B H (.ref a) (.lst xs)
  | od {a : Addr} {vs : List (Key × V)} {xs : List (Key × Dt)} : H a = some (.dK vs) → RpKv Z B vs xs → B a = none → Rq Z B H (.ref a) (.dct xs)
inductive RqAll (Z : Kx) (B H : Hp) : List V → List Dt → Prop
  | nil : RqAll Z B H [] []
  | cons {v : V} {vs : List V} {d : Dt} {ds : List Dt} : Rq Z B H v d → RqAll Z B H vs ds → RqAll Z B H (v :: vs) (d :: ds)
section
variable {Z : Kx} {B H B1 H1 : Hp} {v : V}
theorem Rq.gr {d : Dt} (r : Rq Z B H v d) (g : Gr B H B1 H1) : Rq Z B1 H1 v d := by
  cases r with
  | fz r => exact .fz (r.ex g.b)
  | ol h r n => exact .ol (g.h _ _ n h).1 (r.ex g.b) (g.h _ _ n h).2
  | od h r n => exact .od (g.h _ _ n h).1 (r.ex g.b) (g.h _ _ n h).2
theorem RqAll.gr : ∀ {vs : List V} {ds : List Dt}, RqAll Z B H vs ds → Gr B H B1 H1 → RqAll Z B1 H1 vs ds
  | _, _, .nil, _ => .nil
  | _, _, .cons a r, g => .cons (a.gr g) (r.gr g)
theorem Rq.lst {xs : List Dt} (r : Rq Z B H v (.lst xs)) (e : Ex B H) : ∃ a vs, v = .ref a ∧ H a = some (.lst vs) ∧ RpAll Z B vs xs := by
  cases r with
  | fz r => cases r with | lst s r => exact ⟨_, _, rfl, e _ _ s, r⟩
  | ol h r n => exact ⟨_, _, rfl, h, r⟩
theorem Rq.tup {xs : List Dt} (r : Rq Z B H v (.tup xs)) (e : Ex B H) : ∃ a vs, v = .ref a ∧ SqT Z.K H a vs ∧ RpAll Z B vs xs := by
  cases r with
  | fz r => cases r with | tup s r => exact ⟨_, _, rfl, e.lg.sqt s, r⟩
theorem Rq.dct {xs : List (Key × Dt)} (r : Rq Z B H v (.dct xs)) (e : Ex B H) : ∃ a vs, v = .ref a ∧ Rd H a (.dK vs) ∧ RpKv Z B vs xs := by
  cases r with
  | fz r => cases r with | dct s r => exact ⟨_, _, rfl, .inr ⟨_, e _ _ s⟩, r⟩
  | od h r n => exact ⟨_, _, rfl, .inl h, r⟩
theorem Rq.scr {ns : List Int} (r : Rq Z B H v (.scr ns)) (e : Ex B H) : ∃ a, v = .ref a ∧ SqL Z.K H a (ns.map V.int) := by
  cases r with
  | fz r => cases r with | scr s => exact ⟨_, rfl, e.lg.sql s⟩
theorem Rq.obj {c : Str} {xs : List (Str × Dt)} (r : Rq Z B H v (.obj c xs)) (e : Ex B H) : ∃ a dx vs, v = .ref a ∧ H a = some (.ins (He.ga Z.K c) dx vs) ∧ RpFs Z B vs xs := by
  cases r with
  | fz r => cases r with | obj s r => exact ⟨_, _, _, rfl, e _ _ s, r⟩
theorem Rq.ty {n : String} (r : Rq Z B H v (.ty n)) : v = .ty n := by
  cases r with | fz r => cases r; rfl
theorem Rq.glo {x : Str} (r : Rq Z B H v (.glo x)) : v = .ref (He.ga Z.K x) := by
  cases r with | fz r => cases r; rfl
theorem Rq.int {i : Int} (r : Rq Z B H v (.int i)) : v = .int i := by
  cases r with | fz r => cases r; rfl
theorem Rq.str {i : Str} (r : Rq Z B H v (.str i)) : v = .str i := by
  cases r with | fz r => cases r; rfl
theorem Rq.bl {i : Bool} (r : Rq Z B H v (.bl i)) : v = .bl i := by
  cases r with | fz r => cases r; rfl
theorem Rq.non (r : Rq Z B H v .non) : v = .non := by
  cases r with | fz r => cases r; rfl
theorem RpAll.len : ∀ {vs : List V} {ds : List Dt}, RpAll Z B vs ds → vs.length = ds.length
  | _, _, .nil => rfl
  | _, _, .cons _ r => by simp [r.len]
theorem RpKv.len : ∀ {vs : List (Key × V)} {ds : List (Key × Dt)}, RpKv Z B vs ds → vs.length = ds.length
  | _, _, .nil => rfl
  | _, _, .cons _ r => by simp [r.len]
theorem RpAll.at : ∀ {vs : List V} {ds : List Dt}, RpAll Z B vs ds → ∀ {i : Nat} {d : Dt}, ds[i]? = some d → ∃ v, vs[i]? = some v ∧ Rp Z B v d
  | _, _, .nil, i, d, h => by simp at h
  | _, _, .cons a r, 0, d, h => by simp at h; subst h; exact ⟨_, rfl, a⟩
  | _, _, .cons a r, i + 1, d, h => by
    obtain ⟨v, h1, h2⟩ := r.at (i := i) (d := d) (by simpa using h)
    exact ⟨v, by simpa using h1, h2⟩
theorem RpAll.app : ∀ {vs ws : List V} {ds es : List Dt}, RpAll Z B vs ds → RpAll Z B ws es → RpAll Z B (vs ++ ws) (ds ++ es)
  | _, _, _, _, .nil, s => s
  | _, _, _, _, .cons a r, s => .cons a (r.app s)
theorem RpAll.one {d : Dt} (r : Rp Z B v d) : RpAll Z B [v] [d] := .cons r .nil
theorem RpAll.take : ∀ {vs : List V} {ds : List Dt} (n : Nat), RpAll Z B vs ds → RpAll Z B (vs.take n) (ds.take n)
  | _, _, 0, _ => .nil
  | _, _, _ + 1, .nil => .nil
  | _, _, n + 1, .cons a r => .cons a (r.take n)
theorem RpAll.drop : ∀ {vs : List V} {ds : List Dt} (n : Nat), RpAll Z B vs ds → RpAll Z B (vs.drop n) (ds.drop n)
  | _, _, 0, r => r
  | _, _, _ + 1, .nil => .nil
  | _, _, n + 1, .cons _ r => r.drop n
theorem RpAll.set : ∀ {vs : List V} {ds : List Dt} (n : Nat) {d : Dt}, RpAll Z B vs ds → Rp Z B v d → RpAll Z B (vs.set n v) (ds.set n d)
  | _, _, _, _, .nil, _ => .nil
  | _, _, 0, _, .cons _ r, q => .cons q r
  | _, _, n + 1, _, .cons a r, q => .cons a (r.set n q)
end

structure Ev (Z : Kx) (E : XS) (te : TE) (m : Env → Wp Dt) : Prop where
  mn : ∀ ρ, Mn (m ρ)
  run : ∀ B0 F ρ σ B H (Q : VK), SR Z B0 F ρ σ B H → m ρ (PostV Z B H Q) (PostX Z B H (E σ)) → te σ H Q
structure EvR (Z : Kx) (E : XS) (te : TE) (m : Env → Wp Dt) : Prop where
  mn : ∀ ρ, Mn (m ρ)
  run : ∀ B0 F ρ σ B H (Q : VK), SR Z B0 F ρ σ B H → m ρ (fun d => ∀ v B' H', Gr B H B' H' → Rq Z B' H' v d → Q v H') (PostX Z B H (E σ)) → te σ H Q
/-- a new list, a new dict -/
inductive Nw where
  | l (xs : List Dt)
  | d (kvs : List (Key × Dt))
def Nw.dt : Nw → Dt
  | .l xs => .lst xs
  | .d kvs => .dct kvs
def Nw.sl : Nw → Sl
  | .l xs => .ol xs
  | .d kvs => .od kvs
inductive RqN (Z : Kx) (B H : Hp) (a : Addr) : Nw → Prop
  | l {vs : List V} {xs : List Dt} : H a = some (.lst vs) → RpAll Z B vs xs → B a = none → RqN Z B H a (.l xs)
  | d {vs : List (Key × V)} {xs : List (Key × Dt)} : H a = some (.dK vs) → RpKv Z B vs xs → B a = none → RqN Z B H a (.d xs)
structure EvN (Z : Kx) (E : XS) (te : TE) (m : Env → Wp Nw) : Prop where
  mn : ∀ ρ, Mn (m ρ)
  run : ∀ B0 F ρ σ B H (Q : VK), SR Z B0 F ρ σ B H → m ρ (fun d => ∀ a B' H', Gr B H B' H' → H a = none → RqN Z B' H' a d → Q (.ref a) H') (PostX Z B H (E σ)) → te σ H Q
structure EvT (Z : Kx) (E : XS) (tt : TT) (m : Env → Wp Bool) : Prop where
  mn : ∀ ρ, Mn (m ρ)
  run : ∀ B0 F ρ σ B H (Q : Bool → Hp → Prop), SR Z B0 F ρ σ B H → m ρ (PostB B H Q) (PostX Z B H (E σ)) → tt σ H Q
structure EvA (Z : Kx) (E : XS) (ta : TA) (m : Env → Wp (List Dt)) : Prop where
  mn : ∀ ρ, Mn (m ρ)
  run : ∀ B0 F ρ σ B H (Q : List V → Hp → Prop), SR Z B0 F ρ σ B H → m ρ (fun ds => ∀ vs B' H', Gr B H B' H' → RpAll Z B' vs ds → Q vs H') (PostX Z B H (E σ)) → ta σ H Q
structure EvAR (Z : Kx) (E : XS) (ta : TA) (m : Env → Wp (List Dt)) : Prop where
  mn : ∀ ρ, Mn (m ρ)
  run : ∀ B0 F ρ σ B H (Q : List V → Hp → Prop), SR Z B0 F ρ σ B H → m ρ (fun ds => ∀ vs B' H', Gr B H B' H' → RqAll Z B' H' vs ds → Q vs H') (PostX Z B H (E σ)) → ta σ H Q
def ME (X : Cx) (E : XS) (e : Expr) (m : Env → Wp Dt) : Prop := ∃ te, PE X e te ∧ Ev (kx X) E te m
def MR (X : Cx) (E : XS) (e : Expr) (m : Env → Wp Dt) : Prop := ∃ te, PE X e te ∧ EvR (kx X) E te m
def MN (X : Cx) (E : XS) (e : Expr) (m : Env → Wp Nw) : Prop := ∃ te, PE X e te ∧ EvN (kx X) E te m
def MT (X : Cx) (E : XS) (e : Expr) (m : Env → Wp Bool) : Prop := ∃ tt, PT X e tt ∧ EvT (kx X) E tt m
def MW (X : Cx) (E : XS) (e : Expr) (m : Env → Wp Bool) : Prop := ∃ tt, PW X e tt ∧ EvT (kx X) E tt m
def MA (X : Cx) (E : XS) (es : List Expr) (m : Env → Wp (List Dt)) : Prop := ∃ ta, PA X es ta ∧ EvA (kx X) E ta m
def MAR (X : Cx) (E : XS) (es : List Expr) (m : Env → Wp (List Dt)) : Prop := ∃ ta, PA X es ta ∧ EvAR (kx X) E ta m

/-- what a statement does -/
inductive Fl where
  | nx (ρ : Env)
  | rt (d : Dt)
  | bk (ρ : Env)
  | ct (ρ : Env)
  | rs (d : Dt) (S : Sto)
/-- what a def that changes the store leaves -/
structure GrF (Z : Kx) (B0 F B H : Hp) (S : Sto) : Prop where
  ex : Ex B0 B
  bh : Ex B H
  fr : ∀ a o, B0 a = none → F a = some o → H a = some o ∧ B a = none
  ok : StoOk Z B H S
  nd : (S.map (·.1)).Nodup
  out : ∀ a ∈ S.map (·.1), B a = none ∧ F a = none
theorem GrF.root {Z : Kx} {B0 F B F1 B1 H1 : Hp} {S : Sto} (e : Ex B0 B) (bg : ∀ B' H', Gr B F1 B' H' → Gr B0 F B' H') (k : ∀ a, B a = none → F1 a = none → F a = none) (g : GrF Z B F1 B1 H1 S) : GrF Z B0 F B1 H1 S :=
  have h := bg _ _ ⟨g.ex, g.bh, g.fr⟩
  ⟨e.trans g.ex, g.bh, h.h, g.ok, g.nd, fun a ha => ⟨(g.out a ha).1, k a (g.ex.no (g.out a ha).1) (g.out a ha).2⟩⟩
def PostS (Z : Kx) (B0 F : Hp) (D : Ends) : Fl → Prop
  | .nx ρ => ∀ σ B H, SR Z B0 F ρ σ B H → D.nx σ H
  | .rt d => ∀ v B H, Gr B0 F B H → Rp Z B v d → D.rt v H
  | .bk ρ => ∀ σ B H, SR Z B0 F ρ σ B H → D.bk σ H
  | .ct ρ => ∀ σ B H, SR Z B0 F ρ σ B H → D.ct σ H
  | .rs d S => ∀ v B H, GrF Z B0 F B H S → Rp Z B v d → D.rt v H
structure EvS (Z : Kx) (E : XS) (ts : TS) (m : Env → Wp Fl) : Prop where
  mn : ∀ ρ, Mn (m ρ)
  run : ∀ B0 F ρ σ B H (D : Ends), SR Z B0 F ρ σ B H → m ρ (PostS Z B0 F D) (PostXs Z B0 F E) → ts D σ H
def MS (X : Cx) (E : XS) (st : Stmt) (m : Env → Wp Fl) : Prop := ∃ ts, PS X st ts ∧ EvS (kx X) E ts m
def MSs (X : Cx) (E : XS) (st : List Stmt) (m : Env → Wp Fl) : Prop := ∃ ts, PSs X st ts ∧ EvS (kx X) E ts m

section
variable {X : Cx} {E : XS} {Z : Kx} {e : Expr}
theorem Ev.r {te : TE} {m : Env → Wp Dt} (h : Ev Z E te m) : EvR Z E te m :=
  ⟨h.mn, fun B0 F ρ σ B H Q s q => h.run B0 F ρ σ B H Q s (h.mn ρ _ _ _ _ (fun d k v B' H' g r => k v B' H' g (.fz r)) (fun _ z => z) q)⟩
theorem ME.r {m : Env → Wp Dt} (h : ME X E e m) : MR X E e m := let ⟨t, p, v⟩ := h; ⟨t, p, v.r⟩
/-- a new dict is locked for good, behind an expression -/
def tLkE (te : TE) : TE := fun σ H Q => te σ H fun x H1 => Q x H1 ∨ ∃ a kvs, x = .ref a ∧ H1 a = some (.dK kvs) ∧ ∀ ob, Q x (upd H1 a (.frz ob (.dK kvs)))
theorem pe_lkE {te : TE} (h : PE X e te) : PE X e (tLkE te) := by
  refine ⟨fun pins s σ H Q I q => thn (h.run pins s σ H _ I q) fun u s1 ⟨x, H1, I1, r, q⟩ => ?_⟩
  rcases q with q | ⟨a, kvs, rfl, ha, q⟩
  · exact ⟨x, H1, I1, r, q⟩
  · obtain ⟨ob, I2⟩ := I1.lock ha trivial
    exact ⟨_, _, I2, r, q ob⟩
/-- .. ahead of a statement -/
def tLkS (i : Nat) (t : TS) : TS := fun D σ H => t D σ H ∨ ∃ a kvs, σ[i]? = some (some (.ref a)) ∧ H a = some (.dK kvs) ∧ ∀ ob, t D σ (upd H a (.frz ob (.dK kvs)))
theorem pss_lkS {st : List Stmt} {t : TS} (i : Nat) (h : PSs X st t) : PSs X st (tLkS i t) := by
  refine ⟨fun pins s σ H D I q => ?_⟩
  rcases q with q | ⟨a, kvs, _, ha, q⟩
  · exact h.run pins s σ H D I q
  · obtain ⟨ob, I2⟩ := I.lock ha trivial
    exact h.run pins s σ _ D I2 (q ob)
/-- .. behind a statement -/
def tLkA (i : Nat) (t : TS) : TS := fun D σ H => t { D with nx := fun σ' H' => D.nx σ' H' ∨ ∃ a kvs, σ'[i]? = some (some (.ref a)) ∧ H' a = some (.dK kvs) ∧ ∀ ob, D.nx σ' (upd H' a (.frz ob (.dK kvs))) } σ H
theorem ps_lkA {st : Stmt} {t : TS} (i : Nat) (h : PS X st t) : PS X st (tLkA i t) := by
  refine ⟨fun pins s σ H D I q => thn (h.run pins s σ H _ I q) fun f s1 z => ?_⟩
  cases f with
  | next =>
    obtain ⟨σ', H', I2, z⟩ := z
    rcases z with z | ⟨a, kvs, _, ha, z⟩
    · exact ⟨σ', H', I2, z⟩
    · obtain ⟨ob, I3⟩ := I2.lock ha trivial
      exact ⟨σ', _, I3, z ob⟩
  | brk => exact z
  | cont => exact z
  | ret v => exact z
theorem EvN.ev {te : TE} {m : Env → Wp Nw} (h : EvN Z E te m) : Ev Z E (tLkE te) (fun ρ => (m ρ).bind fun n => .ret n.dt) := by
  refine ⟨fun ρ => mn_bind (h.mn ρ) fun _ => mn_ret, fun B0 F ρ σ B H Q s q => h.run B0 F ρ σ B H _ s (h.mn ρ _ _ _ _ (fun n k a B' H' g hn r => ?_) (fun _ z => z) q)⟩
  cases r with
  | l h r nb => exact .inl (k _ _ _ (g.frz hn h nb) (.lst upd_same (r.ex (Ex.put (.refl _) nb))))
  | d h r nb => exact .inr ⟨a, _, rfl, h, fun ob => k _ _ _ (g.frzU hn nb) (.dct upd_same (r.ex (Ex.put (.refl _) nb)))⟩
theorem MN.me {m : Env → Wp Nw} (h : MN X E e m) : ME X E e (fun ρ => (m ρ).bind fun n => .ret n.dt) := let ⟨t, p, v⟩ := h; ⟨_, pe_lkE p, v.ev⟩

def gF (ρ : Env) (i : Nat) : Wp Dt := match ρ[i]? with
  | some (.fz d) => .ret d
  | _ => .bad
def gR (ρ : Env) (i : Nat) : Wp Dt := match ρ[i]? with
  | some (.fz d) => .ret d
  | some (.ol xs) => .ret (.lst xs)
  | some (.od xs) => .ret (.dct xs)
  | some (.oa _ xs) => .ret (.dct xs)
  | _ => .bad
theorem mn_gF {ρ : Env} {i : Nat} : Mn (gF ρ i) := by
  unfold gF; split
  · exact mn_ret
  · exact mn_bad
theorem mn_gR {ρ : Env} {i : Nat} : Mn (gR ρ i) := by
  unfold gR; split <;> first | exact mn_ret | exact mn_bad
theorem ev_var {i : Nat} : Ev Z E (tVar i) (fun ρ => gF ρ i) := by
  refine ⟨fun ρ => mn_gF, fun B0 F ρ σ B H Q s q => ?_⟩
  unfold gF at q
  cases e : ρ[i]? with
  | none => rw [e] at q; exact q.elim
  | some x =>
    rw [e] at q
    cases x with
    | fz d =>
      obtain ⟨v, h, r⟩ := s.get e
      exact ⟨v, h, q v B H (Gr.refl s.bh) r⟩
    | _ => exact q.elim
theorem evr_var {i : Nat} : EvR Z E (tVar i) (fun ρ => gR ρ i) := by
  refine ⟨fun ρ => mn_gR, fun B0 F ρ σ B H Q s q => ?_⟩
  unfold gR at q
  cases e : ρ[i]? with
  | none => rw [e] at q; exact q.elim
  | some x =>
    rw [e] at q
    cases x with
    | fz d =>
      obtain ⟨v, h, r⟩ := s.get e
      exact ⟨v, h, q v B H (Gr.refl s.bh) (.fz r)⟩
    | ol d =>
      obtain ⟨a, vs, h, ha, r, n⟩ := s.getL e
      exact ⟨_, h, q _ B H (Gr.refl s.bh) (.ol ha r n)⟩
    | od d =>
      obtain ⟨a, vs, h, ha, r, n⟩ := s.getD e
      exact ⟨_, h, q _ B H (Gr.refl s.bh) (.od ha r n)⟩
    | oo _ _ _ => exact q.elim
    | oa a d =>
      obtain ⟨vs, h, ha, r, n⟩ := s.getDA e
      exact ⟨_, h, q _ B H (Gr.refl s.bh) (.od ha r n)⟩
    | sto _ => exact q.elim
    | clo _ _ => exact q.elim
    | no => exact q.elim
theorem me_var (i : Nat) {x : Str} {pos : Pos} (hN : X.N[i]? = some x := by rfl) (hv : Vis X.env.scope x := by first | exact Or.inl rfl | exact Or.inr (Or.inl rfl) | exact Or.inr (Or.inr rfl)) (hd : (x == ("__debug__" : Str)) = false := by decide)
    (hcd : (x == ("__classdict__" : Str)) = false := by decide) : ME X E (.Name x pos) (fun ρ => gF ρ i) := ⟨_, pe_var hN hv hd hcd, ev_var⟩
theorem mr_var (i : Nat) {x : Str} {pos : Pos} (hN : X.N[i]? = some x := by rfl) (hv : Vis X.env.scope x := by first | exact Or.inl rfl | exact Or.inr (Or.inl rfl) | exact Or.inr (Or.inr rfl)) (hd : (x == ("__debug__" : Str)) = false := by decide)
    (hcd : (x == ("__classdict__" : Str)) = false := by decide) : MR X E (.Name x pos) (fun ρ => gR ρ i) := ⟨_, pe_var hN hv hd hcd, evr_var⟩
theorem ev_c {v : V} {d : Dt} (h : ∀ B, Rp Z B v d) : Ev Z E (tC v) (fun _ => .ret d) := ⟨fun _ => mn_ret, fun B0 F ρ σ B H Q s q => q v B H (Gr.refl s.bh) (h B)⟩
theorem me_int {i j pos} : ME X E (.Constant (.int i) j pos) (fun _ => .ret (.int i)) := ⟨_, pe_int, ev_c fun _ => .int i⟩
theorem me_bl {b j pos} : ME X E (.Constant (.bool b) j pos) (fun _ => .ret (.bl b)) := ⟨_, pe_bl, ev_c fun _ => .bl b⟩
theorem me_non {j pos} : ME X E (.Constant .none j pos) (fun _ => .ret .non) := ⟨_, pe_non, ev_c fun _ => .non⟩
theorem me_str {x j pos} : ME X E (.Constant (.str x) j pos) (fun _ => .ret (.str x)) := ⟨_, pe_str, ev_c fun _ => .str x⟩
theorem me_globI {x : Str} {i : Int} {pos : Pos} (hg : Gl X x) (hm : ∃ t, X.mg x = some (.int i t)) (hd : (x == ("__debug__" : Str)) = false := by decide) : ME X E (.Name x pos) (fun _ => .ret (.int i)) := by
  obtain ⟨t, hm⟩ := hm
  exact ⟨_, pe_glob (v := .int i) hg hm ⟨t, rfl⟩ hd, ev_c fun _ => .int i⟩
theorem me_globS {x : Str} {i : Str} {pos : Pos} (hg : Gl X x) (hm : ∃ t, X.mg x = some (.str i t)) (hd : (x == ("__debug__" : Str)) = false := by decide) : ME X E (.Name x pos) (fun _ => .ret (.str i)) := by
  obtain ⟨t, hm⟩ := hm
  exact ⟨_, pe_glob (v := .str i) hg hm ⟨t, rfl⟩ hd, ev_c fun _ => .str i⟩
theorem me_globF {x : Str} {pos : Pos} (hg : Gl X x) (hm : X.mg x = some (.ref (He.ga X.K x))) (hd : (x == ("__debug__" : Str)) = false := by decide) : ME X E (.Name x pos) (fun _ => .ret (.glo x)) :=
  ⟨_, pe_glob (v := .ref (He.ga X.K x)) hg hm rfl hd, ev_c fun _ => .glo⟩

/-- a two-place operation on values goes as f -/
def OpD (Z : Kx) (r : R2) (f : Dt → Dt → Wp Dt) : Prop := (∀ x y, Mn (f x y)) ∧ ∀ x y u v B H (Q : VK) (Ex' : Xn → Prop), Ex B H → Rq Z B H u x → Rq Z B H v y → f x y (PostV Z B H Q) Ex' → r u v H Q
theorem OpR.or {f : Value → Value → Sem Value} {r r' : R2} (h : OpR X f r) (k : OpR X f r') : OpR X f (fun x y H Q => r x y H Q ∨ r' x y H Q) := fun pins s σ H x y v u Q I rx ry q => q.elim (h pins s σ H x y v u Q I rx ry) (k pins s σ H x y v u Q I rx ry)
theorem ev_op {r : R2} {f : Dt → Dt → Wp Dt} {ta tb : TE} {ma mb : Env → Wp Dt} (hf : OpD Z r f) (ha : EvR Z E ta ma) (hb : EvR Z E tb mb) : Ev Z E (tOp r ta tb) (fun ρ => (ma ρ).bind fun x => (mb ρ).bind fun y => f x y) := by
  refine ⟨fun ρ => mn_bind (ha.mn ρ) fun _ => mn_bind (hb.mn ρ) fun _ => hf.1 _ _, fun B0 F ρ σ B H Q s q => ?_⟩
  refine ha.run B0 F ρ σ B H _ s (ha.mn ρ _ _ _ _ (fun x k u B1 H1 g1 r1 => ?_) (fun _ z => z) q)
  refine hb.run B0 F ρ σ B1 H1 _ (s.gr g1) (hb.mn ρ _ _ _ _ (fun y k v B2 H2 g2 r2 => ?_) (fun x z => z.gr g1) k)
  refine hf.2 x y u v B2 H2 Q _ g2.bh (r1.gr g2) r2 (hf.1 x y _ _ _ _ (fun d z => z.gr (g1.trans g2)) (fun x z => z) k)
theorem me_op {op : Operator} {pos : Pos} {a b : Expr} {r : R2} {f : Dt → Dt → Wp Dt} {ma mb : Env → Wp Dt} (ho : OpR X (binaryOp op) r) (hf : OpD (kx X) r f) (ha : MR X E a ma) (hb : MR X E b mb) : ME X E (.BinOp a op b pos) (fun ρ => (ma ρ).bind fun x => (mb ρ).bind fun y => f x y) :=
  let ⟨_, pa, va⟩ := ha; let ⟨_, pb, vb⟩ := hb; ⟨_, pe_op ho pa pb, ev_op hf va vb⟩
theorem me_cmp {op : CmpOp} {pos : Pos} {a b : Expr} {r : R2} {f : Dt → Dt → Wp Dt} {ma mb : Env → Wp Dt} (ho : OpR X (compareOp op) r) (hf : OpD (kx X) r f) (ha : MR X E a ma) (hb : MR X E b mb) (hm : behindInMarks op b = false) : ME X E (.Compare a [op] [b] pos) (fun ρ => (ma ρ).bind fun x => (mb ρ).bind fun y => f x y) :=
  let ⟨_, pa, va⟩ := ha; let ⟨_, pb, vb⟩ := hb; ⟨_, pe_cmpR ho pa pb hm, ev_op hf va vb⟩
/-- a value as a test: True or False alone -/
def asB (d : Dt) : Wp Bool := match d with
  | .bl b => .ret b
  | _ => .bad
theorem mn_asB {d : Dt} : Mn (asB d) := by
  unfold asB; split
  · exact mn_ret
  · exact mn_bad
theorem evt_test {te : TE} {m : Env → Wp Dt} (h : Ev Z E te m) : EvT Z E (tTest te) (fun ρ => (m ρ).bind asB) := by
  refine ⟨fun ρ => mn_bind (h.mn ρ) fun _ => mn_asB, fun B0 F ρ σ B H Q s q => h.run B0 F ρ σ B H _ s (h.mn ρ _ _ _ _ (fun d k v B' H' g r => ?_) (fun _ z => z) q)⟩
  cases d with
  | bl b => cases r; exact ⟨_, rfl, k B' H' g⟩
  | _ => exact k.elim
theorem mt_cmp {op : CmpOp} {pos : Pos} {a b : Expr} {r : R2} {f : Dt → Dt → Wp Dt} {ma mb : Env → Wp Dt} (ho : OpR X (compareOp op) r) (hf : OpD (kx X) r f) (ha : MR X E a ma) (hb : MR X E b mb) (hm : behindInMarks op b = false) : MT X E (.Compare a [op] [b] pos) (fun ρ => ((ma ρ).bind fun x => (mb ρ).bind fun y => f x y).bind asB) :=
  let ⟨_, pa, va⟩ := ha; let ⟨_, pb, vb⟩ := hb; ⟨_, pt_cmpR ho pa pb hm, evt_test (ev_op hf va vb)⟩
theorem mt_val {m : Env → Wp Dt} (h : ME X E e m) (he : ∀ whole, isTrue e X.env whole = (do let v ← whole; standAt e.pos; holding [v] (truthy v)) := by intro _; rfl) : MT X E e (fun ρ => (m ρ).bind asB) :=
  let ⟨_, p, v⟩ := h; ⟨_, pt_val p he, evt_test v⟩

def wAnd (m n : Wp Bool) : Wp Bool := m.bind fun b => if b = true then n else .ret false
def wOr (m n : Wp Bool) : Wp Bool := m.bind fun b => if b = true then .ret true else n
def wNot (m : Wp Bool) : Wp Bool := m.bind fun b => .ret (!b)
theorem mn_and {m n : Wp Bool} (h : Mn m) (k : Mn n) : Mn (wAnd m n) := mn_bind h fun b => by cases b <;> simp <;> first | exact k | exact mn_ret
theorem mn_or {m n : Wp Bool} (h : Mn m) (k : Mn n) : Mn (wOr m n) := mn_bind h fun b => by cases b <;> simp <;> first | exact k | exact mn_ret
theorem evt_and {t u : TT} {m n : Env → Wp Bool} (h : EvT Z E t m) (k : EvT Z E u n) : EvT Z E (tAnd t u) (fun ρ => wAnd (m ρ) (n ρ)) := by
  refine ⟨fun ρ => mn_and (h.mn ρ) (k.mn ρ), fun B0 F ρ σ B H Q s q => h.run B0 F ρ σ B H _ s (h.mn ρ _ _ _ _ (fun b z B1 H1 g => ?_) (fun _ z => z) q)⟩
  cases b with
  | true => exact iteT (k.run B0 F ρ σ B1 H1 Q (s.gr g) (k.mn ρ _ _ _ _ (fun c w => w.gr g) (fun x w => w.gr g) z))
  | false => exact iteF (z B1 H1 g)
theorem evt_or {t u : TT} {m n : Env → Wp Bool} (h : EvT Z E t m) (k : EvT Z E u n) : EvT Z E (tOr t u) (fun ρ => wOr (m ρ) (n ρ)) := by
  refine ⟨fun ρ => mn_or (h.mn ρ) (k.mn ρ), fun B0 F ρ σ B H Q s q => h.run B0 F ρ σ B H _ s (h.mn ρ _ _ _ _ (fun b z B1 H1 g => ?_) (fun _ z => z) q)⟩
  cases b with
  | false => exact iteF (k.run B0 F ρ σ B1 H1 Q (s.gr g) (k.mn ρ _ _ _ _ (fun c w => w.gr g) (fun x w => w.gr g) z))
  | true => exact iteT (z B1 H1 g)
theorem evt_not {t : TT} {m : Env → Wp Bool} (h : EvT Z E t m) : EvT Z E (tNot t) (fun ρ => wNot (m ρ)) :=
  ⟨fun ρ => mn_bind (h.mn ρ) fun _ => mn_ret, fun B0 F ρ σ B H Q s q => h.run B0 F ρ σ B H _ s (h.mn ρ _ _ _ _ (fun b z B1 H1 g => z B1 H1 g) (fun _ z => z) q)⟩
variable {a b : Expr} {rest : List Expr} {pos : Pos} {m n : Env → Wp Bool}
theorem mt_w (h : MW X E e m) : MT X E e m := let ⟨_, p, v⟩ := h; ⟨_, p.pt, v⟩
theorem mw_and1 (h : MT X E a m) : MW X E (.BoolOp .And [a] pos) m := let ⟨_, p, v⟩ := h; ⟨_, pw_and1 p, v⟩
theorem mw_or1 (h : MT X E a m) : MW X E (.BoolOp .Or [a] pos) m := let ⟨_, p, v⟩ := h; ⟨_, pw_or1 p, v⟩
theorem mw_and (h : MT X E a m) (k : MW X E (.BoolOp .And (b :: rest) pos) n) : MW X E (.BoolOp .And (a :: b :: rest) pos) (fun ρ => wAnd (m ρ) (n ρ)) := let ⟨_, p, v⟩ := h; let ⟨_, q, u⟩ := k; ⟨_, pw_and p q, evt_and v u⟩
theorem mw_or (h : MT X E a m) (k : MW X E (.BoolOp .Or (b :: rest) pos) n) : MW X E (.BoolOp .Or (a :: b :: rest) pos) (fun ρ => wOr (m ρ) (n ρ)) := let ⟨_, p, v⟩ := h; let ⟨_, q, u⟩ := k; ⟨_, pw_or p q, evt_or v u⟩
theorem mt_not (h : MT X E a m) : MT X E (.UnaryOp .Not a pos) (fun ρ => wNot (m ρ)) := let ⟨_, p, v⟩ := h; ⟨_, pt_not p, evt_not v⟩
end
end Mv

namespace Mv
open PySem L2

mutual
def py : Dt → PyData
  | .non => .none
  | .bl b => .bool b
  | .int i => .int i
  | .str x => .str x
  | .lst xs => .list (pyAll xs)
  | .tup xs => .tuple (pyAll xs)
  | _ => .dict []
def pyAll : List Dt → List PyData
  | [] => []
  | x :: xs => py x :: pyAll xs
end
section
variable {Z : Kx} {B H : Hp}
theorem Rp.dp {v : V} {d : Dt} (r : Rp Z B v d) : (py d).canLay0 = true → Dp Z.K B v (py d) :=
  Rp.rec (motive_1 := fun v d _ => (py d).canLay0 = true → Dp Z.K B v (py d)) (motive_2 := fun v d _ => PyData.canLayAll0 (pyAll d) = true → DpAll Z.K B v (pyAll d)) (motive_3 := fun _ _ _ => True) (motive_4 := fun _ _ _ => True)
    (fun _ => by rw [py]; exact .non) (fun b _ => by rw [py]; exact .bl b) (fun i _ => by rw [py]; exact .int i) (fun x _ => by rw [py]; exact .str x)
    (fun s _ q h => by rw [py] at h ⊢; exact .lst (.inl (.inl s)) (q (by simpa [PyData.canLay0] using h))) (fun s _ q h => by rw [py] at h ⊢; exact .tup s (q (by simpa [PyData.canLay0] using h)))
    (fun _ _ _ h => by simp [py, PyData.canLay0] at h) (fun _ _ _ h => by simp [py, PyData.canLay0] at h) (fun h => by simp [py, PyData.canLay0] at h) (fun _ h => by simp [py, PyData.canLay0] at h) (fun _ h => by simp [py, PyData.canLay0] at h) (fun _ _ _ h => by simp [py, PyData.canLay0] at h) (fun _ h => by simp [py, PyData.canLay0] at h) (fun _ _ _ _ h => by simp [py, PyData.canLay0] at h) (fun _ h => by simp [py, PyData.canLay0] at h) (fun _ _ _ _ h => by simp [py, PyData.canLay0] at h) (fun _ h => by simp [py, PyData.canLay0] at h)
    (fun _ => by rw [pyAll]; exact .nil) (fun _ _ a b h => by
      rw [pyAll] at h ⊢
      simp only [PyData.canLayAll0, Bool.and_eq_true] at h
      exact .cons (a h.1) (b h.2))
    trivial (fun _ _ _ _ => trivial) trivial (fun _ _ _ _ => trivial) r
theorem RpAll.dp : ∀ {vs : List V} {ds : List Dt}, RpAll Z B vs ds → PyData.canLayAll0 (pyAll ds) = true → DpAll Z.K B vs (pyAll ds)
  | _, _, .nil, _ => by rw [pyAll]; exact .nil
  | _, _, .cons a r, h => by
    rw [pyAll] at h ⊢
    simp only [PyData.canLayAll0, Bool.and_eq_true] at h
    exact .cons (a.dp h.1) (r.dp h.2)
theorem Rq.dp {v : V} {d : Dt} (r : Rq Z B H v d) (e : Ex B H) (h : (py d).canLay0 = true) : Dp Z.K H v (py d) := by
  cases r with
  | fz r => exact (r.ex e).dp h
  | ol ha r n =>
    rw [py] at h ⊢
    exact .lst (.inl (.inl ha)) ((r.ex e).dp (by simpa [PyData.canLay0] using h))
  | od ha r n => simp [py, PyData.canLay0] at h
end


section
variable {Z : Kx} {B H : Hp} {u v : V} {Q : VK}
theorem post_ref {d : Dt} (q : PostV Z B H Q d) (e : Ex B H) (r : Rp Z B v d) : Q v H := q v B H (Gr.refl e) r
theorem post_lst {vs : List V} {xs : List Dt} (q : PostV Z B H Q (.lst xs)) (e : Ex B H) (r : RpAll Z B vs xs) {p : Addr} (n : H p = none) : Q (.ref p) (upd H p (.lst vs)) := by
  have g : Gr B H (upd B p (.lst vs)) (upd H p (.lst vs)) := Gr.new e n
  exact q _ _ _ g (.lst upd_same (r.ex g.b))
theorem post_tup {vs : List V} {xs : List Dt} (q : PostV Z B H Q (.tup xs)) (e : Ex B H) (r : RpAll Z B vs xs) {p : Addr} (n : H p = none) : Q (.ref p) (upd H p (.tup vs)) := by
  have g : Gr B H (upd B p (.tup vs)) (upd H p (.tup vs)) := Gr.new e n
  exact q _ _ _ g (.tup (.inl (.inl upd_same)) (r.ex g.b))
end

def pyAdd : Dt → Dt → Wp Dt
  | .int i, .int j => .ret (.int (i + j))
  | .str a, .str b => .gd (a.length + b.length ≤ sizeLine) (.ret (.str (a ++ b)))
  | .lst a, .lst b => .gd (a.length + b.length ≤ sizeLine) (.ret (.lst (a ++ b)))
  | .tup a, .tup b => .gd (a.length + b.length ≤ sizeLine) (.ret (.tup (a ++ b)))
  | _, _ => .bad
theorem mn_pyAdd (x y : Dt) : Mn (pyAdd x y) := by
  unfold pyAdd; split <;> first | exact mn_ret | exact mn_gd mn_ret | exact mn_bad
def rAdd (K : PySem.W.Frag) : R2 := fun x y H Q => (((rI0 fun i j => .int (i + j)) x y H Q ∨ (∃ i j, x = .str i ∧ y = .str j ∧ i.length + j.length ≤ sizeLine ∧ Q (.str (i ++ j)) H)) ∨ rCat x y H Q) ∨ rCatA K x y H Q
section
variable {X : Cx} {Z : Kx}
theorem op_pyAdd : OpR X (binaryOp .Add) (rAdd X.K) := OpR.or (OpR.or (OpR.or op_add op_add_str) op_cat) op_catA
theorem od_pyAdd : OpD Z (rAdd Z.K) pyAdd := by
  refine ⟨mn_pyAdd, fun x y u v B H Q Ex' e rx ry q => ?_⟩
  unfold pyAdd at q
  split at q
  · rw [rx.int, ry.int]; exact .inl (.inl (.inl ⟨_, _, rfl, rfl, post_ref q e (.int _)⟩))
  · rw [rx.str, ry.str]; exact .inl (.inl (.inr ⟨_, _, rfl, rfl, q.1, post_ref q.2 e (.str _)⟩))
  · obtain ⟨a, vs, rfl, ha, ra⟩ := rx.lst e
    obtain ⟨b, ws, rfl, hb, rb⟩ := ry.lst e
    exact .inl (.inr ⟨a, b, vs, ws, rfl, rfl, ha, hb, by rw [ra.len, rb.len]; exact q.1, fun p n => post_lst q.2 e (ra.app rb) n⟩)
  · obtain ⟨a, vs, rfl, ha, ra⟩ := rx.tup e
    obtain ⟨b, ws, rfl, hb, rb⟩ := ry.tup e
    refine .inr ⟨a, b, vs, ws, rfl, rfl, ha, hb, by rw [ra.len, rb.len]; exact q.1, fun z => ?_, fun _ z => ?_, fun _ _ p n => post_tup q.2 e (ra.app rb) n⟩
    · subst z; cases ra
      cases ry with | fz r => exact post_ref q.2 e r
    · subst z; cases rb
      rw [List.append_nil] at q
      cases rx with | fz r => exact post_ref q.2 e r
  · exact q.elim
end

def pySub : Dt → Dt → Wp Dt
  | .int i, .int j => .ret (.int (i - j))
  | _, _ => .bad
def pyMul : Dt → Dt → Wp Dt
  | .int i, .int j => .gd (CMul i j) (.ret (.int (i * j)))
  | .lst a, .int k => .gd (-(2 ^ 63) ≤ k ∧ k < 2 ^ 63 ∧ a.length * k.toNat ≤ sizeLine) (.ret (.lst (List.replicate k.toNat a).flatten))
  | _, _ => .bad
def pyMod : Dt → Dt → Wp Dt
  | .int i, .int j => .gd (0 < j) (.ret (.int (i % j)))
  | _, _ => .bad
def pyDiv : Dt → Dt → Wp Dt
  | .int i, .int j => .gd (0 < j ∧ j < 1073741824) (.ret (.int (i / j)))
  | _, _ => .bad
def pyPow : Dt → Dt → Wp Dt
  | .int i, .int j => .gd (CPow i j) (.ret (.int (i ^ j.toNat)))
  | _, _ => .bad
theorem mn_pySub (x y : Dt) : Mn (pySub x y) := by
  unfold pySub; split <;> first | exact mn_ret | exact mn_gd mn_ret | exact mn_bad
theorem mn_pyMul (x y : Dt) : Mn (pyMul x y) := by
  unfold pyMul; split <;> first | exact mn_ret | exact mn_gd mn_ret | exact mn_bad
theorem mn_pyMod (x y : Dt) : Mn (pyMod x y) := by
  unfold pyMod; split <;> first | exact mn_ret | exact mn_gd mn_ret | exact mn_bad
theorem mn_pyDiv (x y : Dt) : Mn (pyDiv x y) := by
  unfold pyDiv; split <;> first | exact mn_ret | exact mn_gd mn_ret | exact mn_bad
theorem mn_pyPow (x y : Dt) : Mn (pyPow x y) := by
  unfold pyPow; split <;> first | exact mn_ret | exact mn_gd mn_ret | exact mn_bad
section
variable {X : Cx} {Z : Kx} {B : Hp}
theorem RpAll.rep {vs : List V} {xs : List Dt} (r : RpAll Z B vs xs) : ∀ n : Nat, RpAll Z B (List.replicate n vs).flatten (List.replicate n xs).flatten
  | 0 => by simpa using RpAll.nil
  | n + 1 => by
    rw [List.replicate_succ, List.replicate_succ, List.flatten_cons, List.flatten_cons]
    exact r.app (r.rep n)
theorem od_pySub : OpD Z (rI0 fun i j => .int (i - j)) pySub := by
  refine ⟨mn_pySub, fun x y u v B H Q Ex' e rx ry q => ?_⟩
  unfold pySub at q
  split at q
  · rw [rx.int, ry.int]; exact ⟨_, _, rfl, rfl, post_ref q e (.int _)⟩
  · exact q.elim
theorem od_pyMod : OpD Z (rI (fun _ j => 0 < j) fun i j => .int (i % j)) pyMod := by
  refine ⟨mn_pyMod, fun x y u v B H Q Ex' e rx ry q => ?_⟩
  unfold pyMod at q
  split at q
  · rw [rx.int, ry.int]; exact ⟨_, _, rfl, rfl, q.1, post_ref q.2 e (.int _)⟩
  · exact q.elim
theorem od_pyDiv : OpD Z (rI CDiv fun i j => .int (i / j)) pyDiv := by
  refine ⟨mn_pyDiv, fun x y u v B H Q Ex' e rx ry q => ?_⟩
  unfold pyDiv at q
  split at q
  · rw [rx.int, ry.int]; exact ⟨_, _, rfl, rfl, q.1, post_ref q.2 e (.int _)⟩
  · exact q.elim
theorem od_pyPow : OpD Z (rI CPow fun i j => .int (i ^ j.toNat)) pyPow := by
  refine ⟨mn_pyPow, fun x y u v B H Q Ex' e rx ry q => ?_⟩
  unfold pyPow at q
  split at q
  · rw [rx.int, ry.int]; exact ⟨_, _, rfl, rfl, q.1, post_ref q.2 e (.int _)⟩
  · exact q.elim
def rMul : R2 := fun x y H Q => (rI CMul fun i j => .int (i * j)) x y H Q ∨ rRep x y H Q
theorem op_pyMul : OpR X (binaryOp .Mult) rMul := OpR.or op_mul op_rep
theorem od_pyMul : OpD Z rMul pyMul := by
  refine ⟨mn_pyMul, fun x y u v B H Q Ex' e rx ry q => ?_⟩
  unfold pyMul at q
  split at q
  · rw [rx.int, ry.int]; exact .inl ⟨_, _, rfl, rfl, q.1, post_ref q.2 e (.int _)⟩
  · obtain ⟨a, vs, rfl, ha, ra⟩ := rx.lst e
    rw [ry.int]
    exact .inr ⟨a, _, vs, rfl, rfl, ha, q.1.1, q.1.2.1, by rw [ra.len]; exact q.1.2.2, fun p n => post_lst q.2 e (ra.rep _) n⟩
  · exact q.elim
end

def pyLt : Dt → Dt → Wp Dt
  | .int i, .int j => .ret (.bl (decide (i < j)))
  | .str a, .str b => .ret (.bl (decide (a.cps.toList < b.cps.toList)))
  | _, _ => .bad
def pyLe : Dt → Dt → Wp Dt
  | .int i, .int j => .ret (.bl (decide (i ≤ j)))
  | .str a, .str b => .ret (.bl (!decide (b.cps.toList < a.cps.toList)))
  | _, _ => .bad
def pyGt : Dt → Dt → Wp Dt
  | .int i, .int j => .ret (.bl (decide (j < i)))
  | .str a, .str b => .ret (.bl (decide (b.cps.toList < a.cps.toList)))
  | _, _ => .bad
def pyGe : Dt → Dt → Wp Dt
  | .int i, .int j => .ret (.bl (decide (j ≤ i)))
  | .str a, .str b => .ret (.bl (!decide (a.cps.toList < b.cps.toList)))
  | _, _ => .bad
theorem mn_pyLt (x y : Dt) : Mn (pyLt x y) := by
  unfold pyLt; split <;> first | exact mn_ret | exact mn_bad
theorem mn_pyLe (x y : Dt) : Mn (pyLe x y) := by
  unfold pyLe; split <;> first | exact mn_ret | exact mn_bad
theorem mn_pyGt (x y : Dt) : Mn (pyGt x y) := by
  unfold pyGt; split <;> first | exact mn_ret | exact mn_bad
theorem mn_pyGe (x y : Dt) : Mn (pyGe x y) := by
  unfold pyGe; split <;> first | exact mn_ret | exact mn_bad
section
variable {X : Cx} {Z : Kx} {B : Hp}
theorem op_pyLt : OpR X (compareOp .Lt) (fun x y H Q => (rI0 fun i j => .bl (decide (i < j))) x y H Q ∨ ∃ i j, x = .str i ∧ y = .str j ∧ Q (.bl (decide (i.cps.toList < j.cps.toList))) H) := OpR.or op_lt op_lt_str
theorem op_pyLe : OpR X (compareOp .LtE) (fun x y H Q => (rI0 fun i j => .bl (decide (i ≤ j))) x y H Q ∨ ∃ i j, x = .str i ∧ y = .str j ∧ Q (.bl (!decide (j.cps.toList < i.cps.toList))) H) := OpR.or op_le op_le_str
theorem op_pyGt : OpR X (compareOp .Gt) (fun x y H Q => (rI0 fun i j => .bl (decide (j < i))) x y H Q ∨ ∃ i j, x = .str i ∧ y = .str j ∧ Q (.bl (decide (j.cps.toList < i.cps.toList))) H) := OpR.or op_gt op_gt_str
theorem op_pyGe : OpR X (compareOp .GtE) (fun x y H Q => (rI0 fun i j => .bl (decide (j ≤ i))) x y H Q ∨ ∃ i j, x = .str i ∧ y = .str j ∧ Q (.bl (!decide (i.cps.toList < j.cps.toList))) H) := OpR.or op_ge op_ge_str
theorem od_pyLt : OpD Z (fun x y H Q => (rI0 fun i j => .bl (decide (i < j))) x y H Q ∨ ∃ i j, x = .str i ∧ y = .str j ∧ Q (.bl (decide (i.cps.toList < j.cps.toList))) H) pyLt := by
  refine ⟨mn_pyLt, fun x y u v B H Q Ex' e rx ry q => ?_⟩
  unfold pyLt at q
  split at q
  · rw [rx.int, ry.int]; exact .inl ⟨_, _, rfl, rfl, post_ref q e (.bl _)⟩
  · rw [rx.str, ry.str]; exact .inr ⟨_, _, rfl, rfl, post_ref q e (.bl _)⟩
  · exact q.elim
theorem od_pyLe : OpD Z (fun x y H Q => (rI0 fun i j => .bl (decide (i ≤ j))) x y H Q ∨ ∃ i j, x = .str i ∧ y = .str j ∧ Q (.bl (!decide (j.cps.toList < i.cps.toList))) H) pyLe := by
  refine ⟨mn_pyLe, fun x y u v B H Q Ex' e rx ry q => ?_⟩
  unfold pyLe at q
  split at q
  · rw [rx.int, ry.int]; exact .inl ⟨_, _, rfl, rfl, post_ref q e (.bl _)⟩
  · rw [rx.str, ry.str]; exact .inr ⟨_, _, rfl, rfl, post_ref q e (.bl _)⟩
  · exact q.elim
theorem od_pyGt : OpD Z (fun x y H Q => (rI0 fun i j => .bl (decide (j < i))) x y H Q ∨ ∃ i j, x = .str i ∧ y = .str j ∧ Q (.bl (decide (j.cps.toList < i.cps.toList))) H) pyGt := by
  refine ⟨mn_pyGt, fun x y u v B H Q Ex' e rx ry q => ?_⟩
  unfold pyGt at q
  split at q
  · rw [rx.int, ry.int]; exact .inl ⟨_, _, rfl, rfl, post_ref q e (.bl _)⟩
  · rw [rx.str, ry.str]; exact .inr ⟨_, _, rfl, rfl, post_ref q e (.bl _)⟩
  · exact q.elim
theorem od_pyGe : OpD Z (fun x y H Q => (rI0 fun i j => .bl (decide (j ≤ i))) x y H Q ∨ ∃ i j, x = .str i ∧ y = .str j ∧ Q (.bl (!decide (i.cps.toList < j.cps.toList))) H) pyGe := by
  refine ⟨mn_pyGe, fun x y u v B H Q Ex' e rx ry q => ?_⟩
  unfold pyGe at q
  split at q
  · rw [rx.int, ry.int]; exact .inl ⟨_, _, rfl, rfl, post_ref q e (.bl _)⟩
  · rw [rx.str, ry.str]; exact .inr ⟨_, _, rfl, rfl, post_ref q e (.bl _)⟩
  · exact q.elim
end
/-- == of flat things and of data -/
def dEq : Dt → Dt → Wp Bool
  | .int i, .int j => .ret (decide (i = j))
  | .str i, .str j => .ret (decide (i = j))
  | .bl i, .bl j => .ret (decide (i = j))
  | .non, .non => .ret true
  | x, y => .gd (SeqAt.shaped (py x) = true ∧ SeqAt.shaped (py y) = true) (.ret (PyData.eqv (py x) (py y)))
def pyEq (x y : Dt) : Wp Dt := (dEq x y).bind fun b => .ret (.bl b)
def pyNe (x y : Dt) : Wp Dt := (dEq x y).bind fun b => .ret (.bl (!b))
theorem mn_dEq (x y : Dt) : Mn (dEq x y) := by
  unfold dEq; split <;> first | exact mn_ret | exact mn_gd mn_ret
theorem mn_pyEq (x y : Dt) : Mn (pyEq x y) := mn_bind (mn_dEq x y) fun _ => mn_ret
theorem mn_pyNe (x y : Dt) : Mn (pyNe x y) := mn_bind (mn_dEq x y) fun _ => mn_ret
section
variable {X : Cx} {Z : Kx} {B : Hp}
theorem op_pyEq (hu : X.A.units + 65 < cLine) : OpR X (compareOp .Eq) (fun x y H Q => rEq x y H Q ∨ rEqD X.K x y H Q) := OpR.or op_eq (op_eqD (by omega))
theorem op_pyNe (hu : X.A.units + 65 < cLine) : OpR X (compareOp .NotEq) (fun x y H Q => rNe x y H Q ∨ rNeD X.K x y H Q) := OpR.or op_ne (op_neD (by omega))
theorem decV {α : Type} {f : α → V} [DecidableEq α] (hf : ∀ a b, f a = f b → a = b) (a b : α) : decide (f a = f b) = decide (a = b) := by
  by_cases h : a = b
  · subst h; simp
  · rw [decide_eq_false h, decide_eq_false fun z => h (hf _ _ z)]
theorem od_pyEq : OpD Z (fun x y H Q => rEq x y H Q ∨ rEqD Z.K x y H Q) pyEq := by
  refine ⟨mn_pyEq, fun x y u v B H Q Ex' e rx ry q => ?_⟩
  unfold pyEq Wp.bind dEq at q
  split at q
  · rw [rx.int, ry.int]; refine .inl ⟨rfl, ?_⟩; rw [decV (fun a b h => V.int.inj h)]; exact post_ref q e (.bl _)
  · rw [rx.str, ry.str]; refine .inl ⟨rfl, ?_⟩; rw [decV (fun a b h => V.str.inj h)]; exact post_ref q e (.bl _)
  · rw [rx.bl, ry.bl]; refine .inl ⟨rfl, ?_⟩; rw [decV (fun a b h => V.bl.inj h)]; exact post_ref q e (.bl _)
  · rw [rx.non, ry.non]; exact .inl ⟨rfl, post_ref q e (.bl _)⟩
  · obtain ⟨⟨h1, h2⟩, q⟩ := q
    exact .inr ⟨_, _, rx.dp e (SeqAt.canLay_of_shaped h1), ry.dp e (SeqAt.canLay_of_shaped h2), h1, h2, post_ref q e (.bl _)⟩
theorem od_pyNe : OpD Z (fun x y H Q => rNe x y H Q ∨ rNeD Z.K x y H Q) pyNe := by
  refine ⟨mn_pyNe, fun x y u v B H Q Ex' e rx ry q => ?_⟩
  unfold pyNe Wp.bind dEq at q
  split at q
  · rw [rx.int, ry.int]; refine .inl ⟨rfl, ?_⟩; rw [decV (fun a b h => V.int.inj h)]; exact post_ref q e (.bl _)
  · rw [rx.str, ry.str]; refine .inl ⟨rfl, ?_⟩; rw [decV (fun a b h => V.str.inj h)]; exact post_ref q e (.bl _)
  · rw [rx.bl, ry.bl]; refine .inl ⟨rfl, ?_⟩; rw [decV (fun a b h => V.bl.inj h)]; exact post_ref q e (.bl _)
  · rw [rx.non, ry.non]; exact .inl ⟨rfl, post_ref q e (.bl _)⟩
  · obtain ⟨⟨h1, h2⟩, q⟩ := q
    exact .inr ⟨_, _, rx.dp e (SeqAt.canLay_of_shaped h1), ry.dp e (SeqAt.canLay_of_shaped h2), h1, h2, post_ref q e (.bl _)⟩
end

def flatD : Dt → Option V
  | .non => some .non
  | .bl b => some (.bl b)
  | .int i => some (.int i)
  | .str x => some (.str x)
  | _ => none
def eqF (x y : Dt) : Bool := match flatD x, flatD y with
  | some u, some v => eqV u v
  | _, _ => false
def keyD : Dt → Option Key
  | .int i => some (.inl i)
  | .str x => some (.inr x)
  | _ => none
def lookD (kvs : List (Key × Dt)) (k : Key) : Option Dt := (kvs.find? fun kv => decide (kv.1 = k)).map (·.2)
def seqIn (x : Dt) (xs : List Dt) : Wp Bool := .gd ((flatD x).isSome = true ∧ xs.all (fun z => (flatD z).isSome) = true) (.ret (xs.any fun z => eqF z x))
def dIn (x y : Dt) : Wp Bool := match y with
  | .str t => (match x with
    | .str c => (match c.cps.toList with
      | [n] => .ret (decide (n ∈ t.cps.toList))
      | _ => .ret (!(Builtin.Str.occurrences t c 0 t.length 1).isEmpty))
    | _ => .bad)
  | .dct kvs => (match keyD x with
    | some k => .ret (lookD kvs k).isSome
    | none => .bad)
  | .tup xs => seqIn x xs
  | .lst xs => (match flatD x with
    | some _ => seqIn x xs
    | none => .gd (SeqAt.shaped (py x) = true ∧ SeqAt.shaped (py (.lst xs)) = true) (.ret (xs.any fun z => PyData.eqv (py z) (py x))))
  | _ => .bad
def pyIn (x y : Dt) : Wp Dt := (dIn x y).bind fun b => .ret (.bl b)
def pyNotIn (x y : Dt) : Wp Dt := (dIn x y).bind fun b => .ret (.bl (!b))
theorem mn_dIn (x y : Dt) : Mn (dIn x y) := by
  unfold dIn seqIn; repeat' split
  all_goals first | exact mn_ret | exact mn_gd mn_ret | exact mn_bad
section
variable {X : Cx} {Z : Kx} {B H : Hp}
theorem Rq.flat {v : V} {d : Dt} {w : V} (r : Rq Z B H v d) (h : flatD d = some w) : v = w ∧ flatV v = true := by
  cases r with
  | fz r => cases r <;> first | (cases h; exact ⟨rfl, rfl⟩) | cases h
  | ol => cases h
  | od => cases h
theorem RpAll.flat : ∀ {vs : List V} {xs : List Dt}, RpAll Z B vs xs → xs.all (fun z => (flatD z).isSome) = true → vs.all flatV = true ∧ ∀ (x : V) (d : Dt), flatD d = some x → inV x vs = xs.any fun z => eqF z d
  | _, _, .nil, _ => ⟨rfl, fun _ _ _ => rfl⟩
  | _, _, .cons (v := v) (d := d) a r, h => by
    simp only [List.all_cons, Bool.and_eq_true] at h
    obtain ⟨w, hw⟩ := Option.isSome_iff_exists.mp h.1
    obtain ⟨e1, e2⟩ := (Rq.fz (H := B) a).flat hw
    obtain ⟨h1, h2⟩ := r.flat h.2
    refine ⟨by simp [e2, h1], fun x dd hd => ?_⟩
    have := h2 x dd hd
    unfold inV at this ⊢
    simp only [List.any_cons]
    rw [this]
    congr 1
    unfold eqF
    rw [hw, hd, e1]
theorem RpKv.look : ∀ {vs : List (Key × V)} {xs : List (Key × Dt)}, RpKv Z B vs xs → ∀ k : Key, (∃ v d, valV vs k = some v ∧ lookD xs k = some d ∧ Rp Z B v d) ∨ (valV vs k = none ∧ lookD xs k = none)
  | _, _, .nil, k => .inr ⟨rfl, rfl⟩
  | _, _, .cons (k := j) a r, k => by
    by_cases e : j = k
    · exact .inl ⟨_, _, by rw [valV_pos e], by simp [lookD, List.find?_cons, e], a⟩
    · rcases r.look k with ⟨v, d, h1, h2, h3⟩ | ⟨h1, h2⟩
      · exact .inl ⟨v, d, by rw [valV_neg e]; exact h1, by simpa [lookD, List.find?_cons, e] using h2, h3⟩
      · exact .inr ⟨by rw [valV_neg e]; exact h1, by simpa [lookD, List.find?_cons, e] using h2⟩
theorem Rq.key {v : V} {d : Dt} {k : Key} (r : Rq Z B H v d) (h : keyD d = some k) : v = kV k := by
  cases r with
  | fz r => cases r <;> first | (cases h; rfl) | cases h
  | ol => cases h
  | od => cases h
theorem pyAll_map : ∀ xs : List Dt, pyAll xs = xs.map py
  | [] => by rw [pyAll]; rfl
  | x :: xs => by rw [pyAll, pyAll_map xs]; rfl
def rDIn (neg : Bool) : R2 := fun y x H Q => ∃ a o, x = .ref a ∧ DGet H a y o ∧ Q (.bl (if neg then !o.isSome else o.isSome)) H
theorem op_dIn (hu : X.A.units + 65 < cLine) : OpR X (compareOp .In) (rDIn false) := by
  intro pins s σ H x y v u Q I rx ry h
  obtain ⟨a, o, rfl, g, q⟩ := h
  cases ry
  exact d_in (by omega) I g rx fun s3 I3 => ⟨.bl o.isSome, H, I3, rfl, q⟩
theorem op_dNotIn (hu : X.A.units + 65 < cLine) : OpR X (compareOp .NotIn) (rDIn true) := by
  intro pins s σ H x y v u Q I rx ry h
  obtain ⟨a, o, rfl, g, q⟩ := h
  cases ry
  exact d_notIn (by omega) I g rx fun s3 I3 => ⟨.bl (!o.isSome), H, I3, rfl, q⟩
def rIn' (K : PySem.W.Frag) : R2 := fun x y H Q => (((rIn K false x y H Q ∨ rDIn false x y H Q) ∨ rInD K x y H Q) ∨ (∃ (c : Nat) (z : Str), x = .str ⟨#[c]⟩ ∧ y = .str z ∧ Q (.bl (decide (c ∈ z.cps.toList))) H)) ∨ (∃ i j, x = .str i ∧ y = .str j ∧ Q (.bl (!(Builtin.Str.occurrences j i 0 j.length 1).isEmpty)) H)
def rNotIn' (K : PySem.W.Frag) : R2 := fun x y H Q => (((rIn K true x y H Q ∨ rDIn true x y H Q) ∨ rNotInD K x y H Q) ∨ (∃ (c : Nat) (z : Str), x = .str ⟨#[c]⟩ ∧ y = .str z ∧ Q (.bl (!decide (c ∈ z.cps.toList))) H)) ∨ (∃ i j, x = .str i ∧ y = .str j ∧ Q (.bl (!(!(Builtin.Str.occurrences j i 0 j.length 1).isEmpty))) H)
theorem op_pyIn (hu : X.A.units + 65 < cLine) : OpR X (compareOp .In) (rIn' X.K) := OpR.or (OpR.or (OpR.or (OpR.or op_in_seq (op_dIn hu)) (op_inD hu)) op_in_sign) op_in_str
theorem op_pyNotIn (hu : X.A.units + 65 < cLine) : OpR X (compareOp .NotIn) (rNotIn' X.K) := OpR.or (OpR.or (OpR.or (OpR.or op_notIn_seq (op_dNotIn hu)) (op_notInD hu)) op_notIn_sign) op_notIn_str
theorem one_cps {c : Str} {n : Nat} (h : c.cps.toList = [n]) : c = ⟨#[n]⟩ := by
  obtain ⟨a⟩ := c
  have h' : a.toList = [n] := h
  rw [show a = #[n] from by rw [← Array.toArray_toList (xs := a), h']]
theorem od_pyIn : OpD Z (rIn' Z.K) pyIn := by
  refine ⟨fun x y => mn_bind (mn_dIn x y) fun _ => mn_ret, fun x y u v B H Q Ex' e rx ry q => ?_⟩
  unfold pyIn Wp.bind at q
  cases y with
  | str t =>
    cases x with
    | str c =>
      rw [rx.str, ry.str]
      simp only [dIn] at q
      cases h : c.cps.toList with
      | nil => rw [h] at q; exact .inr ⟨c, t, rfl, rfl, post_ref q e (.bl _)⟩
      | cons n l =>
        rw [h] at q
        cases l with
        | nil =>
          rw [one_cps h]
          exact .inl (.inr ⟨n, t, rfl, rfl, post_ref q e (.bl _)⟩)
        | cons _ _ => exact .inr ⟨c, t, rfl, rfl, post_ref q e (.bl _)⟩
    | _ => exact q.elim
  | dct kvs =>
    obtain ⟨a, vs, rfl, ha, ra⟩ := ry.dct e
    simp only [dIn] at q
    cases hk : keyD x with
    | none => rw [hk] at q; exact q.elim
    | some k =>
      rw [hk] at q
      dsimp only at q
      rw [rx.key hk]
      refine .inl (.inl (.inl (.inr ⟨a, valV vs k, rfl, .inl ⟨vs, k, ha, rfl, rfl⟩, ?_⟩)))
      rcases ra.look k with ⟨w, d, h1, h2, h3⟩ | ⟨h1, h2⟩
      · rw [h2] at q; rw [h1]; exact post_ref q e (.bl _)
      · rw [h2] at q; rw [h1]; exact post_ref q e (.bl _)
  | tup xs =>
    obtain ⟨a, vs, rfl, ha, ra⟩ := ry.tup e
    obtain ⟨⟨f1, f2⟩, q⟩ := q
    obtain ⟨w, hw⟩ := Option.isSome_iff_exists.mp f1
    obtain ⟨e1, e2⟩ := rx.flat hw
    obtain ⟨g1, g2⟩ := ra.flat f2
    refine .inl (.inl (.inl (.inl ⟨a, vs, rfl, .inr ha, e2, g1, ?_⟩)))
    rw [e1, g2 w x hw]
    exact post_ref q e (.bl _)
  | lst xs =>
    obtain ⟨a, vs, rfl, ha, ra⟩ := ry.lst e
    simp only [dIn] at q
    cases hx : flatD x with
    | some w =>
      rw [hx] at q
      obtain ⟨⟨f1, f2⟩, q⟩ := q
      obtain ⟨e1, e2⟩ := rx.flat hx
      obtain ⟨g1, g2⟩ := ra.flat f2
      refine .inl (.inl (.inl (.inl ⟨a, vs, rfl, .inl (.inl (.inl ha)), e2, g1, ?_⟩)))
      rw [e1, g2 w x hx]
      exact post_ref q e (.bl _)
    | none =>
      rw [hx] at q
      obtain ⟨⟨h1, h2⟩, q⟩ := q
      have hd := ry.dp e (SeqAt.canLay_of_shaped h2)
      rw [py] at hd h2
      refine .inl (.inl (.inr ⟨_, _, rx.dp e (SeqAt.canLay_of_shaped h1), hd, h1, h2, ?_⟩))
      rw [pyAll_map, List.any_map]
      exact post_ref q e (.bl _)
  | _ => exact q.elim
theorem od_pyNotIn : OpD Z (rNotIn' Z.K) pyNotIn := by
  refine ⟨fun x y => mn_bind (mn_dIn x y) fun _ => mn_ret, fun x y u v B H Q Ex' e rx ry q => ?_⟩
  unfold pyNotIn Wp.bind at q
  cases y with
  | str t =>
    cases x with
    | str c =>
      rw [rx.str, ry.str]
      simp only [dIn] at q
      cases h : c.cps.toList with
      | nil => rw [h] at q; exact .inr ⟨c, t, rfl, rfl, post_ref q e (.bl _)⟩
      | cons n l =>
        rw [h] at q
        cases l with
        | nil =>
          rw [one_cps h]
          exact .inl (.inr ⟨n, t, rfl, rfl, post_ref q e (.bl _)⟩)
        | cons _ _ => exact .inr ⟨c, t, rfl, rfl, post_ref q e (.bl _)⟩
    | _ => exact q.elim
  | dct kvs =>
    obtain ⟨a, vs, rfl, ha, ra⟩ := ry.dct e
    simp only [dIn] at q
    cases hk : keyD x with
    | none => rw [hk] at q; exact q.elim
    | some k =>
      rw [hk] at q
      dsimp only at q
      rw [rx.key hk]
      refine .inl (.inl (.inl (.inr ⟨a, valV vs k, rfl, .inl ⟨vs, k, ha, rfl, rfl⟩, ?_⟩)))
      rcases ra.look k with ⟨w, d, h1, h2, h3⟩ | ⟨h1, h2⟩
      · rw [h2] at q; rw [h1]; exact post_ref q e (.bl _)
      · rw [h2] at q; rw [h1]; exact post_ref q e (.bl _)
  | tup xs =>
    obtain ⟨a, vs, rfl, ha, ra⟩ := ry.tup e
    obtain ⟨⟨f1, f2⟩, q⟩ := q
    obtain ⟨w, hw⟩ := Option.isSome_iff_exists.mp f1
    obtain ⟨e1, e2⟩ := rx.flat hw
    obtain ⟨g1, g2⟩ := ra.flat f2
    refine .inl (.inl (.inl (.inl ⟨a, vs, rfl, .inr ha, e2, g1, ?_⟩)))
    rw [e1, g2 w x hw]
    exact post_ref q e (.bl _)
  | lst xs =>
    obtain ⟨a, vs, rfl, ha, ra⟩ := ry.lst e
    simp only [dIn] at q
    cases hx : flatD x with
    | some w =>
      rw [hx] at q
      obtain ⟨⟨f1, f2⟩, q⟩ := q
      obtain ⟨e1, e2⟩ := rx.flat hx
      obtain ⟨g1, g2⟩ := ra.flat f2
      refine .inl (.inl (.inl (.inl ⟨a, vs, rfl, .inl (.inl (.inl ha)), e2, g1, ?_⟩)))
      rw [e1, g2 w x hx]
      exact post_ref q e (.bl _)
    | none =>
      rw [hx] at q
      obtain ⟨⟨h1, h2⟩, q⟩ := q
      have hd := ry.dp e (SeqAt.canLay_of_shaped h2)
      rw [py] at hd h2
      refine .inl (.inl (.inr ⟨_, _, rx.dp e (SeqAt.canLay_of_shaped h1), hd, h1, h2, ?_⟩))
      rw [pyAll_map, List.any_map]
      exact post_ref q e (.bl _)
  | _ => exact q.elim
end

def isN : Dt → Bool
  | .non => true
  | _ => false
def pyIs (x y : Dt) : Wp Dt := match y with
  | .non => .ret (.bl (isN x))
  | .bl b => (match x with
    | .bl a => .ret (.bl (decide (a = b)))
    | _ => .bad)
  | _ => .bad
theorem mn_pyIs (x y : Dt) : Mn (pyIs x y) := by
  unfold pyIs; repeat' split
  all_goals first | exact mn_ret | exact mn_bad
section
variable {X : Cx} {Z : Kx} {B H : Hp}
theorem Rq.isN {v : V} {d : Dt} (r : Rq Z B H v d) : decide (v = .non) = isN d := by
  cases r with
  | fz r => cases r <;> rfl
  | ol => rfl
  | od => rfl
theorem op_pyIs : OpR X (compareOp .Is) (fun x y H Q => (y = .non ∧ Q (.bl (decide (x = .non))) H) ∨ rIsB x y H Q) := OpR.or op_isN op_isBl
theorem od_pyIs : OpD Z (fun x y H Q => (y = .non ∧ Q (.bl (decide (x = .non))) H) ∨ rIsB x y H Q) pyIs := by
  refine ⟨mn_pyIs, fun x y u v B H Q Ex' e rx ry q => ?_⟩
  cases y with
  | non => refine .inl ⟨ry.non, ?_⟩; rw [rx.isN]; exact post_ref q e (.bl _)
  | bl b =>
    cases x with
    | bl a => exact .inr ⟨a, b, rx.bl, ry.bl, post_ref q e (.bl _)⟩
    | _ => exact q.elim
  | _ => exact q.elim
end
end Mv

namespace Mv
open PySem L2

def ofO {α : Type} : Option α → Wp α
  | some a => .ret a
  | none => .bad
theorem mn_ofO {α : Type} (o : Option α) : Mn (ofO o) := by
  cases o with
  | none => exact mn_bad
  | some a => exact mn_ret
def pyIx (x y : Dt) : Wp Dt := match x with
  | .tup xs => (match y with
    | .int i => ofO (atI xs i)
    | _ => .bad)
  | .lst xs => (match y with
    | .int i => ofO (atI xs i)
    | _ => .bad)
  | .str z => (match y with
    | .int i => .gd (z.length ≤ sizeLine) ((ofO (atI z.cps.toList i)).bind fun c => .ret (.str ⟨#[c]⟩))
    | _ => .bad)
  | .dct kvs => (match keyD y with
    | some k => ofO (lookD kvs k)
    | none => .bad)
  | _ => .bad
theorem mn_pyIx (x y : Dt) : Mn (pyIx x y) := by
  unfold pyIx; repeat' split
  all_goals first | exact mn_ofO _ | exact mn_gd (mn_bind (mn_ofO _) fun _ => mn_ret) | exact mn_bad
section
variable {X : Cx} {Z : Kx} {B H : Hp} {E : XS}
theorem RpAll.atI {vs : List V} {xs : List Dt} (r : RpAll Z B vs xs) {i : Int} {d : Dt} (h : L2.atI xs i = some d) : ∃ v, L2.atI vs i = some v ∧ Rp Z B v d := by
  unfold L2.atI at h ⊢
  rw [r.len]
  cases e : ixN xs.length i with
  | none => rw [e] at h; cases h
  | some j =>
    rw [e] at h
    exact r.at h
def rIxD : R2 := fun x y H Q => ∃ a v, x = .ref a ∧ DGet H a y (some v) ∧ Q v H
theorem ix_dict (hu : X.A.units + 65 < cLine) : IxR X rIxD := by
  intro value slice pins s σ H x y v u Q I rx ry h hs
  obtain ⟨a, z, rfl, g, q⟩ := h
  cases rx
  exact PyProof.Rows.tail_any (dict_typeIs I g) PySem.F.slot_dict_getitem.lookup (d_getItem (by omega) I g ry fun w' s3 I3 rw' => ⟨z, H, I3, rw', q⟩) hs
def rIxA (K : PySem.W.Frag) : R2 := fun x y H Q => rIx K x y H Q ∨ rIxD x y H Q
theorem ix_any (hu : X.A.units + 65 < cLine) : IxR X (rIxA X.K) := ix_seq.or (ix_dict hu)
theorem od_pyIx : OpD Z (rIxA Z.K) pyIx := by
  refine ⟨mn_pyIx, fun x y u v B H Q Ex' e rx ry q => ?_⟩
  cases x with
  | tup xs =>
    obtain ⟨a, vs, rfl, ha, ra⟩ := rx.tup e
    cases y with
    | int i =>
      rw [ry.int]
      simp only [pyIx] at q
      cases h : atI xs i with
      | none => rw [h] at q; exact q.elim
      | some d =>
        rw [h] at q
        obtain ⟨w, h1, h2⟩ := ra.atI h
        exact .inl (.inr (.inl ⟨a, vs, i, w, rfl, rfl, ha, h1, post_ref q e h2⟩))
    | _ => exact q.elim
  | lst xs =>
    obtain ⟨a, vs, rfl, ha, ra⟩ := rx.lst e
    cases y with
    | int i =>
      rw [ry.int]
      simp only [pyIx] at q
      cases h : atI xs i with
      | none => rw [h] at q; exact q.elim
      | some d =>
        rw [h] at q
        obtain ⟨w, h1, h2⟩ := ra.atI h
        exact .inl (.inl ⟨a, vs, i, w, rfl, rfl, .inl (.inl ha), h1, post_ref q e h2⟩)
    | _ => exact q.elim
  | str z =>
    cases y with
    | int i =>
      rw [rx.str, ry.int]
      obtain ⟨hz, q⟩ := q
      cases h : atI z.cps.toList i with
      | none => rw [h] at q; exact q.elim
      | some c =>
        rw [h] at q
        exact .inl (.inr (.inr ⟨z, i, c, rfl, rfl, hz, h, post_ref q e (.str _)⟩))
    | _ => exact q.elim
  | dct kvs =>
    obtain ⟨a, vs, rfl, ha, ra⟩ := rx.dct e
    simp only [pyIx] at q
    cases hk : keyD y with
    | none => rw [hk] at q; exact q.elim
    | some k =>
      rw [hk] at q
      dsimp only at q
      rw [ry.key hk]
      rcases ra.look k with ⟨w, d, h1, h2, h3⟩ | ⟨h1, h2⟩
      · rw [h2] at q
        exact .inr ⟨a, w, rfl, .inl ⟨vs, k, ha, rfl, h1.symm⟩, post_ref q e h3⟩
      · rw [h2] at q; exact q.elim
  | _ => exact q.elim
theorem me_ix {a b : Expr} {pos : Pos} {ma mb : Env → Wp Dt} (hu : X.A.units + 65 < cLine) (ha : MR X E a ma) (hb : MR X E b mb) (hs : PlainIx b := by exact fun _ _ => rfl) : ME X E (.Subscript a b pos) (fun ρ => (ma ρ).bind fun x => (mb ρ).bind fun y => pyIx x y) :=
  let ⟨_, pa, va⟩ := ha; let ⟨_, pb, vb⟩ := hb; ⟨_, pe_ix (ix_any hu) pa pb hs, ev_op od_pyIx va vb⟩
end

def cutD {α : Type} (xs : List α) (lo hi : Option Int) : List α := (xs.drop (HT.sIx xs.length 0 lo)).take (HT.sIx xs.length xs.length hi - HT.sIx xs.length 0 lo)
structure EvO (Z : Kx) (E : XS) (t : TO) (m : Env → Wp (Option Int)) : Prop where
  mn : ∀ ρ, Mn (m ρ)
  run : ∀ B0 F ρ σ B H (Q : Option Int → Hp → Prop), SR Z B0 F ρ σ B H → m ρ (fun o => ∀ B' H', Gr B H B' H' → Q o H') (PostX Z B H (E σ)) → t σ H Q
def MO (X : Cx) (E : XS) (e : Option Expr) (m : Env → Wp (Option Int)) : Prop := ∃ t, PO X e t ∧ EvO (kx X) E t m
def asI : Dt → Wp (Option Int)
  | .int i => .ret (some i)
  | _ => .bad
theorem mn_asI (d : Dt) : Mn (asI d) := by
  cases d <;> first | exact mn_ret | exact mn_bad
def pySl (x : Dt) (lo hi : Option Int) : Wp Dt := match x with
  | .lst xs => .ret (.lst (cutD xs lo hi))
  | .tup xs => .ret (.tup (cutD xs lo hi))
  | .str z => .gd (z.length ≤ sizeLine) (.ret (.str (cutS z lo hi)))
  | _ => .bad
theorem mn_pySl (x : Dt) (lo hi : Option Int) : Mn (pySl x lo hi) := by
  cases x <;> first | exact mn_ret | exact mn_gd mn_ret | exact mn_bad
section
variable {X : Cx} {Z : Kx} {B H : Hp} {E : XS} {e : Expr} {pos p2 : Pos}
theorem mo_none : MO X E none (fun _ => .ret none) := ⟨_, po_none, fun _ => mn_ret, fun B0 F ρ σ B H Q s q => q B H (Gr.refl s.bh)⟩
theorem mo_some {m : Env → Wp Dt} (h : ME X E e m) : MO X E (some e) (fun ρ => (m ρ).bind asI) := by
  obtain ⟨t, p, v⟩ := h
  refine ⟨_, po_some p, fun ρ => mn_bind (v.mn ρ) mn_asI, fun B0 F ρ σ B H Q s q => v.run B0 F ρ σ B H _ s (v.mn ρ _ _ _ _ (fun d k u B' H' g r => ?_) (fun _ z => z) q)⟩
  cases d with
  | int i => cases r; exact ⟨i, rfl, k B' H' g⟩
  | _ => exact k.elim
theorem SlR.or {r r' : V → Option Int → Option Int → Hp → VK → Prop} (h : SlR X r) (k : SlR X r') : SlR X (fun x l u H Q => r x l u H Q ∨ r' x l u H Q) := by
  intro pins s σ H x v vl vu lo hi sl Q I rx hs pl pu q
  rcases q with q | q
  · exact h pins s σ H x v vl vu lo hi sl Q I rx hs pl pu q
  · exact k pins s σ H x v vl vu lo hi sl Q I rx hs pl pu q
theorem RpAll.cut {vs : List V} {xs : List Dt} (r : RpAll Z B vs xs) (lo hi : Option Int) : RpAll Z B (cutV vs lo hi) (cutD xs lo hi) := by
  unfold cutV cutD
  rw [r.len]
  exact (r.drop _).take _
theorem me_slice {lo hi : Option Expr} {m : Env → Wp Dt} {ml mh : Env → Wp (Option Int)} (he : MR X E e m) (hl : MO X E lo ml) (hh : MO X E hi mh) :
    ME X E (.Subscript e (.Slice lo hi none p2) pos) (fun ρ => (m ρ).bind fun x => (ml ρ).bind fun l => (mh ρ).bind fun h => pySl x l h) := by
  obtain ⟨t, p, v⟩ := he
  obtain ⟨tl, pl, vl⟩ := hl
  obtain ⟨th, ph, vh⟩ := hh
  refine ⟨_, pe_slice (SlR.or (SlR.or sl_list sl_tupA) sl_str) p pl ph, fun ρ => mn_bind (v.mn ρ) fun _ => mn_bind (vl.mn ρ) fun _ => mn_bind (vh.mn ρ) fun _ => mn_pySl _ _ _, fun B0 F ρ σ B H Q s q => ?_⟩
  refine v.run B0 F ρ σ B H _ s (v.mn ρ _ _ _ _ (fun x k u B1 H1 g1 r1 => ?_) (fun _ z => z) q)
  refine vl.run B0 F ρ σ B1 H1 _ (s.gr g1) (vl.mn ρ _ _ _ _ (fun l k B2 H2 g2 => ?_) (fun _ z => z.gr g1) k)
  refine vh.run B0 F ρ σ B2 H2 _ ((s.gr g1).gr g2) (vh.mn ρ _ _ _ _ (fun h k B3 H3 g3 => ?_) (fun _ z => z.gr (g1.trans g2)) k)
  have g := (g1.trans g2).trans g3
  have r3 := r1.gr (g2.trans g3)
  have k' := mn_pySl x l h _ _ _ (fun _ => True) (fun d z => z.gr g) (fun _ _ => trivial) k
  cases x with
  | lst xs =>
    obtain ⟨a, vs, rfl, ha, ra⟩ := r3.lst g.bh
    exact .inl (.inl ⟨a, vs, rfl, .inl (.inl ha), fun p n => post_lst k' g.bh (ra.cut _ _) n⟩)
  | tup xs =>
    obtain ⟨a, vs, rfl, ha, ra⟩ := r3.tup g.bh
    refine .inl (.inr ⟨a, vs, rfl, ha, fun w => ?_, fun _ p n => post_tup k' g.bh (ra.cut _ _) n⟩)
    have ec : cutD xs l h = xs := by
      unfold cutD
      rw [← ra.len, w.1, w.2, List.drop_zero, Nat.sub_zero, ra.len]
      exact List.take_length
    have k2 : PostV _ _ _ _ (.tup (cutD xs l h)) := k'
    rw [ec] at k2
    cases r3 with | fz r => exact post_ref k2 g.bh r
  | str z => rw [r3.str]; exact .inr ⟨z, rfl, k'.1, post_ref k'.2 g.bh (.str _)⟩
  | _ => exact k'.elim
end

structure Ln (n : Nat) (m : Env → Wp (List Dt)) : Prop where
  len : ∀ ρ Q E, m ρ Q E → m ρ (fun ds => ds.length = n ∧ Q ds) E
def MAn (X : Cx) (E : XS) (es : List Expr) (n : Nat) (m : Env → Wp (List Dt)) : Prop := MA X E es m ∧ Ln n m
section
variable {X : Cx} {Z : Kx} {B H : Hp} {E : XS} {e : Expr} {es : List Expr} {pos : Pos}
theorem ma_nil : MAn X E [] 0 (fun _ => .ret []) := ⟨⟨_, pa_nil, fun _ => mn_ret, fun B0 F ρ σ B H Q s q => q [] B H (Gr.refl s.bh) .nil⟩, ⟨fun _ _ _ h => ⟨rfl, h⟩⟩⟩
theorem ma_cons {n : Nat} {m : Env → Wp Dt} {ms : Env → Wp (List Dt)} (h : ME X E e m) (k : MAn X E es n ms) (hs : starEach (e :: es) X.env = (false, eval e X.env) :: starEach es X.env := by rfl) : MAn X E (e :: es) (n + 1) (fun ρ => (m ρ).bind fun x => (ms ρ).bind fun xs => .ret (x :: xs)) := by
  obtain ⟨t, p, v⟩ := h
  obtain ⟨⟨ts, ps, vs⟩, ln⟩ := k
  refine ⟨⟨_, pa_cons p ps hs, fun ρ => mn_bind (v.mn ρ) fun _ => mn_bind (vs.mn ρ) fun _ => mn_ret, fun B0 F ρ σ B H Q s q => ?_⟩, ⟨fun ρ Q E q => v.mn ρ _ _ _ _ (fun x k => vs.mn ρ _ _ _ _ (fun xs z => ⟨by simp [z.1], z.2⟩) (fun _ z => z) (ln.len ρ _ _ k)) (fun _ z => z) q⟩⟩
  refine v.run B0 F ρ σ B H _ s (v.mn ρ _ _ _ _ (fun x k u B1 H1 g1 r1 => ?_) (fun _ z => z) q)
  exact vs.run B0 F ρ σ B1 H1 _ (s.gr g1) (vs.mn ρ _ _ _ _ (fun xs z us B2 H2 g2 r2 => z (u :: us) B2 H2 (g1.trans g2) (.cons (r1.ex g2.b) r2)) (fun _ z => z.gr g1) k)
theorem mar_nil : MAR X E [] (fun _ => .ret []) := ⟨_, pa_nil, fun _ => mn_ret, fun B0 F ρ σ B H Q s q => q [] B H (Gr.refl s.bh) .nil⟩
theorem mar_cons {m : Env → Wp Dt} {ms : Env → Wp (List Dt)} (h : MR X E e m) (k : MAR X E es ms) (hs : starEach (e :: es) X.env = (false, eval e X.env) :: starEach es X.env := by rfl) : MAR X E (e :: es) (fun ρ => (m ρ).bind fun x => (ms ρ).bind fun xs => .ret (x :: xs)) := by
  obtain ⟨t, p, v⟩ := h
  obtain ⟨ts, ps, vs⟩ := k
  refine ⟨_, pa_cons p ps hs, fun ρ => mn_bind (v.mn ρ) fun _ => mn_bind (vs.mn ρ) fun _ => mn_ret, fun B0 F ρ σ B H Q s q => ?_⟩
  refine v.run B0 F ρ σ B H _ s (v.mn ρ _ _ _ _ (fun x k u B1 H1 g1 r1 => ?_) (fun _ z => z) q)
  exact vs.run B0 F ρ σ B1 H1 _ (s.gr g1) (vs.mn ρ _ _ _ _ (fun xs z us B2 H2 g2 r2 => z (u :: us) B2 H2 (g1.trans g2) (.cons (r1.gr g2) r2)) (fun _ z => z.gr g1) k)
theorem me_tup {x1} {n : Nat} {m : Env → Wp (List Dt)} (h : MAn X E es n m) (hn : n ≤ sizeLine := by decide) : ME X E (.Tuple es x1 pos) (fun ρ => (m ρ).bind fun xs => .ret (.tup xs)) := by
  obtain ⟨⟨t, p, v⟩, ln⟩ := h
  refine ⟨_, pe_tup p, fun ρ => mn_bind (v.mn ρ) fun _ => mn_ret, fun B0 F ρ σ B H Q s q => v.run B0 F ρ σ B H _ s (v.mn ρ _ _ _ _ (fun xs k vs B1 H1 g r => ⟨by rw [r.len, k.1]; exact hn, fun p n => ?_⟩) (fun _ z => z) (ln.len ρ _ _ q))⟩
  exact post_tup (PostV.gr k.2 g) g.bh r n
theorem mn_lst {n : Nat} {m : Env → Wp (List Dt)} (h : MAn X E es n m) (hn : n ≤ sizeLine := by decide) : MN X E (.List es pos) (fun ρ => (m ρ).bind fun xs => .ret (.l xs)) := by
  obtain ⟨⟨t, p, v⟩, ln⟩ := h
  refine ⟨_, pe_lst p, fun ρ => mn_bind (v.mn ρ) fun _ => mn_ret, fun B0 F ρ σ B H Q s q => v.run B0 F ρ σ B H _ s (v.mn ρ _ _ _ _ (fun xs k vs B1 H1 g r => ⟨by rw [r.len, k.1]; exact hn, fun p n => ?_⟩) (fun _ z => z) (ln.len ρ _ _ q))⟩
  exact k.2 p B1 _ (g.trans (Gr.tmp g.bh n)) (g.no s.bh n) (.l upd_same r (g.bh.no n))
theorem me_lst {n : Nat} {m : Env → Wp (List Dt)} (h : MAn X E es n m) (hn : n ≤ sizeLine := by decide) : ME X E (.List es pos) (fun ρ => (m ρ).bind fun xs => .ret (.lst xs)) := by
  have := (mn_lst (pos := pos) h hn).me
  obtain ⟨t, p, v⟩ := this
  exact ⟨t, p, fun ρ => mn_bind (let ⟨⟨_, _, w⟩, _⟩ := h; w.mn ρ) fun _ => mn_ret, v.run⟩
theorem mn_dict0 : MN X E (.Dict [] [] pos) (fun _ => .ret (.d [])) :=
  ⟨_, pe_dnewK, fun _ => mn_ret, fun B0 F ρ σ B H Q s q p n => q p B _ (Gr.tmp s.bh n) n (.d upd_same .nil (s.bh.no n))⟩

def wIf {α : Type} (c : Wp Bool) (a b : Wp α) : Wp α := c.bind fun k => if k = true then a else b
theorem mn_wIf {α : Type} {c : Wp Bool} {a b : Wp α} (hc : Mn c) (ha : Mn a) (hb : Mn b) : Mn (wIf c a b) := mn_bind hc fun k => by cases k <;> simp <;> assumption
theorem me_if {c a b : Expr} {mc : Env → Wp Bool} {ma mb : Env → Wp Dt} (hc : MT X E c mc) (ha : ME X E a ma) (hb : ME X E b mb) : ME X E (.IfExp c a b pos) (fun ρ => wIf (mc ρ) (ma ρ) (mb ρ)) := by
  obtain ⟨tc, pc, vc⟩ := hc
  obtain ⟨ta, pa, va⟩ := ha
  obtain ⟨tb, pb, vb⟩ := hb
  refine ⟨_, pe_ifExp pc pa pb, fun ρ => mn_wIf (vc.mn ρ) (va.mn ρ) (vb.mn ρ), fun B0 F ρ σ B H Q s q => vc.run B0 F ρ σ B H _ s (vc.mn ρ _ _ _ _ (fun k z B1 H1 g => ?_) (fun _ z => z) q)⟩
  cases k with
  | true => exact iteT (va.run B0 F ρ σ B1 H1 Q (s.gr g) (va.mn ρ _ _ _ _ (fun _ w => w.gr g) (fun _ w => w.gr g) z))
  | false => exact iteF (vb.run B0 F ρ σ B1 H1 Q (s.gr g) (vb.mn ρ _ _ _ _ (fun _ w => w.gr g) (fun _ w => w.gr g) z))
def vAnd (m n : Wp Dt) : Wp Dt := (m.bind asB).bind fun b => if b = true then n else .ret (.bl false)
def vOr (m n : Wp Dt) : Wp Dt := (m.bind asB).bind fun b => if b = true then .ret (.bl true) else n
def vNot (m : Wp Dt) : Wp Dt := (m.bind asB).bind fun b => .ret (.bl (!b))
theorem me_one {op} {m : Env → Wp Dt} (h : ME X E e m) : ME X E (.BoolOp op [e] pos) m := let ⟨_, p, v⟩ := h; ⟨_, pe_one p, v⟩
theorem me_and {a b : Expr} {rest : List Expr} {m n : Env → Wp Dt} (h : ME X E a m) (k : ME X E (.BoolOp .And (b :: rest) pos) n) : ME X E (.BoolOp .And (a :: b :: rest) pos) (fun ρ => vAnd (m ρ) (n ρ)) := by
  obtain ⟨t, p, v⟩ := h
  obtain ⟨u, q, w⟩ := k
  refine ⟨_, pe_and p q, fun ρ => mn_bind (mn_bind (v.mn ρ) fun _ => mn_asB) fun b => by cases b <;> simp <;> first | exact w.mn ρ | exact mn_ret, fun B0 F ρ σ B H Q s z => v.run B0 F ρ σ B H _ s (v.mn ρ _ _ _ _ (fun d k u B1 H1 g r => ?_) (fun _ z => z) z)⟩
  cases d with
  | bl c =>
    cases r
    refine ⟨c, rfl, ?_⟩
    cases c with
    | true => exact iteT (w.run B0 F ρ σ B1 H1 Q (s.gr g) (w.mn ρ _ _ _ _ (fun _ w => w.gr g) (fun _ w => w.gr g) k))
    | false => exact iteF (k _ _ _ g (.bl _))
  | _ => exact k.elim
theorem me_or {a b : Expr} {rest : List Expr} {m n : Env → Wp Dt} (h : ME X E a m) (k : ME X E (.BoolOp .Or (b :: rest) pos) n) : ME X E (.BoolOp .Or (a :: b :: rest) pos) (fun ρ => vOr (m ρ) (n ρ)) := by
  obtain ⟨t, p, v⟩ := h
  obtain ⟨u, q, w⟩ := k
  refine ⟨_, pe_or p q, fun ρ => mn_bind (mn_bind (v.mn ρ) fun _ => mn_asB) fun b => by cases b <;> simp <;> first | exact w.mn ρ | exact mn_ret, fun B0 F ρ σ B H Q s z => v.run B0 F ρ σ B H _ s (v.mn ρ _ _ _ _ (fun d k u B1 H1 g r => ?_) (fun _ z => z) z)⟩
  cases d with
  | bl c =>
    cases r
    refine ⟨c, rfl, ?_⟩
    cases c with
    | false => exact iteF (w.run B0 F ρ σ B1 H1 Q (s.gr g) (w.mn ρ _ _ _ _ (fun _ w => w.gr g) (fun _ w => w.gr g) k))
    | true => exact iteT (k _ _ _ g (.bl _))
  | _ => exact k.elim
theorem me_not {a : Expr} {m : Env → Wp Dt} (h : ME X E a m) : ME X E (.UnaryOp .Not a pos) (fun ρ => vNot (m ρ)) := by
  obtain ⟨t, p, v⟩ := h
  refine ⟨_, pe_not p, fun ρ => mn_bind (mn_bind (v.mn ρ) fun _ => mn_asB) fun b => mn_ret, fun B0 F ρ σ B H Q s z => v.run B0 F ρ σ B H _ s (v.mn ρ _ _ _ _ (fun d k u B1 H1 g r => ?_) (fun _ z => z) z)⟩
  cases d with
  | bl c => cases r; exact ⟨c, rfl, k _ _ _ g (.bl _)⟩
  | _ => exact k.elim
def vChain (f f' : Dt → Dt → Wp Dt) (a b c : Wp Dt) : Wp Dt := a.bind fun x => b.bind fun y => ((f x y).bind asB).bind fun k => if k = true then c.bind fun z => f' y z else .ret (.bl false)
theorem ev_chain {r r' : R2} {f f' : Dt → Dt → Wp Dt} {ta tb tc : TE} {ma mb mc : Env → Wp Dt} (hf : OpD Z r f) (hf' : OpD Z r' f') (ha : EvR Z E ta ma) (hb : EvR Z E tb mb) (hc : EvR Z E tc mc) : Ev Z E (tChain r r' ta tb tc) (fun ρ => vChain f f' (ma ρ) (mb ρ) (mc ρ)) := by
  refine ⟨fun ρ => mn_bind (ha.mn ρ) fun _ => mn_bind (hb.mn ρ) fun _ => mn_bind (mn_bind (hf.1 _ _) fun _ => mn_asB) fun b => by cases b <;> simp <;> first | exact mn_bind (hc.mn ρ) fun _ => hf'.1 _ _ | exact mn_ret, fun B0 F ρ σ B H Q s q => ?_⟩
  refine ha.run B0 F ρ σ B H _ s (ha.mn ρ _ _ _ _ (fun x k u B1 H1 g1 r1 => ?_) (fun _ z => z) q)
  refine hb.run B0 F ρ σ B1 H1 _ (s.gr g1) (hb.mn ρ _ _ _ _ (fun y k v B2 H2 g2 r2 => ?_) (fun x z => z.gr g1) k)
  refine hf.2 x y u v B2 H2 _ _ g2.bh (r1.gr g2) r2 (hf.1 x y _ _ _ _ (fun d z w B3 H3 g3 rw => ?_) (fun x z => z) k)
  have g := (g1.trans g2).trans g3
  cases d with
  | bl c =>
    cases rw
    refine ⟨c, rfl, ?_⟩
    cases c with
    | true =>
      refine iteT (hc.run B0 F ρ σ B3 H3 _ (s.gr g) (hc.mn ρ _ _ _ _ (fun t z w B4 H4 g4 r4 => ?_) (fun _ z => z.gr g) z))
      exact hf'.2 y t v w B4 H4 Q _ g4.bh (r2.gr (g3.trans g4)) r4 (hf'.1 y t _ _ _ _ (fun d z => z.gr (g.trans g4)) (fun x z => z) z)
    | false => exact iteF (z _ _ _ g (.bl _))
  | _ => exact z.elim
theorem me_chain {op op' : CmpOp} {a b c : Expr} {r r' : R2} {f f' : Dt → Dt → Wp Dt} {ma mb mc : Env → Wp Dt} (ho : OpR X (compareOp op) r) (ho' : OpR X (compareOp op') r') (hf : OpD (kx X) r f) (hf' : OpD (kx X) r' f') (ha : MR X E a ma) (hb : MR X E b mb) (hc : MR X E c mc)
    (hm : lastMarks [op, op'] [b, c] = false := by with_unfolding_all rfl) : ME X E (.Compare a [op, op'] [b, c] pos) (fun ρ => vChain f f' (ma ρ) (mb ρ) (mc ρ)) :=
  let ⟨_, pa, va⟩ := ha; let ⟨_, pb, vb⟩ := hb; let ⟨_, pc, vc⟩ := hc; ⟨_, pe_chain ho ho' pa pb pc hm, ev_chain hf hf' va vb vc⟩
theorem mt_chain {op op' : CmpOp} {a b c : Expr} {r r' : R2} {f f' : Dt → Dt → Wp Dt} {ma mb mc : Env → Wp Dt} (ho : OpR X (compareOp op) r) (ho' : OpR X (compareOp op') r') (hf : OpD (kx X) r f) (hf' : OpD (kx X) r' f') (ha : MR X E a ma) (hb : MR X E b mb) (hc : MR X E c mc)
    (hm : lastMarks [op, op'] [b, c] = false := by with_unfolding_all rfl) : MT X E (.Compare a [op, op'] [b, c] pos) (fun ρ => (vChain f f' (ma ρ) (mb ρ) (mc ρ)).bind asB) :=
  let ⟨_, pa, va⟩ := ha; let ⟨_, pb, vb⟩ := hb; let ⟨_, pc, vc⟩ := hc; ⟨_, pt_chain ho ho' pa pb pc hm, evt_test (ev_chain hf hf' va vb vc)⟩
end

section
variable {X : Cx} {Z : Kx} {B H : Hp} {E : XS} {e : Expr} {es : List Expr} {pos : Pos}
theorem RpFs.look : ∀ {vs : List (Str × V)} {xs : List (Str × Dt)}, RpFs Z B vs xs → ∀ k : Str, (∃ v d, vs.lookup k = some v ∧ xs.lookup k = some d ∧ Rp Z B v d) ∨ (vs.lookup k = none ∧ xs.lookup k = none)
  | _, _, .nil, k => .inr ⟨rfl, rfl⟩
  | _, _, .cons (k := j) a r, k => by
    cases e : k == j with
    | true => exact .inl ⟨_, _, by simp [List.lookup_cons, e], by simp [List.lookup_cons, e], a⟩
    | false =>
      rcases r.look k with ⟨v, d, h1, h2, h3⟩ | ⟨h1, h2⟩
      · exact .inl ⟨v, d, by simpa [List.lookup_cons, e] using h1, by simpa [List.lookup_cons, e] using h2, h3⟩
      · exact .inr ⟨by simpa [List.lookup_cons, e] using h1, by simpa [List.lookup_cons, e] using h2⟩
def pyFld (c f : Str) (d : Dt) : Wp Dt := match d with
  | .obj c' fs => .gd (c' = c) (ofO (fs.lookup f))
  | _ => .bad
theorem mn_pyFld (c f : Str) (d : Dt) : Mn (pyFld c f d) := by
  cases d <;> first | exact mn_gd (mn_ofO _) | exact mn_bad
theorem me_fld (c : Str) {f : Str} {m : Env → Wp Dt} (hc : Cls X.K (He.ga X.K c)) (hn : NoAttr X.K (He.ga X.K c) f) (he : ME X E e m) (hb : attributeBase e f X.env (eval e X.env) = eval e X.env := by rfl) : ME X E (.Attribute e f pos) (fun ρ => (m ρ).bind (pyFld c f)) := by
  obtain ⟨t, p, v⟩ := he
  refine ⟨_, pe_fld p hb, fun ρ => mn_bind (v.mn ρ) (mn_pyFld c f), fun B0 F ρ σ B H Q s q => v.run B0 F ρ σ B H _ s (v.mn ρ _ _ _ _ (fun d k u B1 H1 g r => ?_) (fun _ z => z) q)⟩
  cases d with
  | obj c' fs =>
    obtain ⟨rfl, k⟩ := k
    cases r with
    | obj h rf =>
      rcases rf.look f with ⟨w, d, h1, h2, h3⟩ | ⟨h1, h2⟩
      · rw [h2] at k
        exact ⟨_, _, _, _, w, rfl, g.bh _ _ h, hc, hn, h1, k w B1 H1 g h3⟩
      · rw [h2] at k; exact k.elim
  | _ => exact k.elim

/-- a def's promise by its mirror -/
def spM (Z : Kx) (n : Nat) (m : List Dt → Wp Dt) : Sp := fun vs H Q E => vs.length = n ∧ ∃ B ds, Ex B H ∧ RpAll Z B vs ds ∧ m ds (PostV Z B H Q) (PostX Z B H E)
/-- o.m(..) of an instance of the class named c -/
def pyMeth (c m : Str) (mf : List Dt → Wp Dt) (o : Dt) (ms : Wp (List Dt)) : Wp Dt := match o with
  | .obj c' fs => .gd (c' = c ∧ fs.lookup m = none) (ms.bind fun ds => mf (o :: ds))
  | _ => .bad
theorem mn_pyMeth {c m : Str} {mf : List Dt → Wp Dt} {o : Dt} {ms : Wp (List Dt)} (hM : ∀ ds, Mn (mf ds)) (h : Mn ms) : Mn (pyMeth c m mf o ms) := by
  cases o <;> first | exact mn_gd (mn_bind h fun _ => hM _) | exact mn_bad
end
end Mv

namespace Mv
open PySem L2
def CallD (Z : Kx) (r : List V → Hp → VK → Prop) (f : List Dt → Wp Dt) : Prop := (∀ ds, Mn (f ds)) ∧ ∀ ds vs B H (Q : VK) (Ex' : Xn → Prop), Ex B H → RqAll Z B H vs ds → f ds (PostV Z B H Q) Ex' → r vs H Q
def CallN (Z : Kx) (r : List V → Hp → VK → Prop) (f : List Dt → Wp Nw) : Prop := (∀ ds, Mn (f ds)) ∧ ∀ ds vs B H (Q : VK) (Ex' : Xn → Prop), Ex B H → RqAll Z B H vs ds → f ds (fun d => ∀ a H', Gr B H B H' → H a = none → RqN Z B H' a d → Q (.ref a) H') Ex' → r vs H Q
section
variable {X : Cx} {Z : Kx} {B H : Hp} {E : XS} {e : Expr} {es : List Expr} {pos p : Pos} {x : Str} {bid T : String} {r : List V → Hp → VK → Prop}
theorem CallR.or {f : Value} {r r' : List V → Hp → VK → Prop} (h : CallR X f r) (k : CallR X f r') : CallR X f (fun xs H Q => r xs H Q ∨ r' xs H Q) := fun pins s σ H xs us Q I rx q => q.elim (h pins s σ H xs us Q I rx) (k pins s σ H xs us Q I rx)
theorem ev_cb {f : List Dt → Wp Dt} {ta : TA} {ma : Env → Wp (List Dt)} (hf : CallD Z r f) (ha : EvAR Z E ta ma) : Ev Z E (tCB r ta) (fun ρ => (ma ρ).bind f) :=
  ⟨fun ρ => mn_bind (ha.mn ρ) hf.1, fun B0 F ρ σ B H Q s q => ha.run B0 F ρ σ B H _ s (ha.mn ρ _ _ _ _ (fun ds k vs B1 H1 g r => hf.2 ds vs B1 H1 Q (fun _ => True) g.bh r (hf.1 ds _ _ _ _ (fun _ z => z.gr g) (fun _ _ => trivial) k)) (fun _ z => z) q)⟩
theorem ev_cbN {f : List Dt → Wp Nw} {ta : TA} {ma : Env → Wp (List Dt)} (hf : CallN Z r f) (ha : EvAR Z E ta ma) : EvN Z E (tCB r ta) (fun ρ => (ma ρ).bind f) :=
  ⟨fun ρ => mn_bind (ha.mn ρ) hf.1, fun B0 F ρ σ B H Q s q => ha.run B0 F ρ σ B H _ s (ha.mn ρ _ _ _ _ (fun ds k vs B1 H1 g r => hf.2 ds vs B1 H1 Q (fun _ => True) g.bh r (hf.1 ds _ _ _ _ (fun _ z a H2 g2 n r2 => z a B1 H2 (g.trans g2) (g.no s.bh n) r2) (fun _ _ => trivial) k)) (fun _ z => z) q)⟩
theorem me_callB {f : List Dt → Wp Dt} {ma : Env → Wp (List Dt)} (hc : CallR X (.builtin bid) r) (hf : CallD (kx X) r f) (hg : Gl X x) (hm : X.mg x = none) (hv : bootBuiltins x = some (.builtin bid)) (ha : MAR X E (e :: es) ma) (hn : x ≠ "__name__" := by decide) (hdb : (x == ("__debug__" : Str)) = false := by decide)
    (he : starEach (e :: es) X.env = (false, eval e X.env) :: starEach es X.env := by rfl) (hpl : (backTo pos (starEach es X.env)).any (·.1) = false := by rfl) : ME X E (.Call (.Name x p) (e :: es) [] pos) (fun ρ => (ma ρ).bind f) :=
  let ⟨_, pa, va⟩ := ha; ⟨_, pe_callB hc hg hm hv pa hn hdb he hpl, ev_cb hf va⟩
theorem me_callTy {f : List Dt → Wp Dt} {ma : Env → Wp (List Dt)} (hc : CallR X (.type T) r) (hf : CallD (kx X) r f) (hg : Gl X x) (hm : X.mg x = none) (hv : bootBuiltins x = some (.type T)) (ha : MAR X E (e :: es) ma) (hn : x ≠ "__name__" := by decide) (hdb : (x == ("__debug__" : Str)) = false := by decide)
    (he : starEach (e :: es) X.env = (false, eval e X.env) :: starEach es X.env := by rfl) (hpl : (backTo pos (starEach es X.env)).any (·.1) = false := by rfl) : ME X E (.Call (.Name x p) (e :: es) [] pos) (fun ρ => (ma ρ).bind f) :=
  let ⟨_, pa, va⟩ := ha; ⟨_, pe_callTy hc hg hm hv pa hn hdb he hpl, ev_cb hf va⟩
theorem mn_callB {f : List Dt → Wp Nw} {ma : Env → Wp (List Dt)} (hc : CallR X (.builtin bid) r) (hf : CallN (kx X) r f) (hg : Gl X x) (hm : X.mg x = none) (hv : bootBuiltins x = some (.builtin bid)) (ha : MAR X E (e :: es) ma) (hn : x ≠ "__name__" := by decide) (hdb : (x == ("__debug__" : Str)) = false := by decide)
    (he : starEach (e :: es) X.env = (false, eval e X.env) :: starEach es X.env := by rfl) (hpl : (backTo pos (starEach es X.env)).any (·.1) = false := by rfl) : MN X E (.Call (.Name x p) (e :: es) [] pos) (fun ρ => (ma ρ).bind f) :=
  let ⟨_, pa, va⟩ := ha; ⟨_, pe_callB hc hg hm hv pa hn hdb he hpl, ev_cbN hf va⟩
theorem mn_callTy {f : List Dt → Wp Nw} {ma : Env → Wp (List Dt)} (hc : CallR X (.type T) r) (hf : CallN (kx X) r f) (hg : Gl X x) (hm : X.mg x = none) (hv : bootBuiltins x = some (.type T)) (ha : MAR X E (e :: es) ma) (hn : x ≠ "__name__" := by decide) (hdb : (x == ("__debug__" : Str)) = false := by decide)
    (he : starEach (e :: es) X.env = (false, eval e X.env) :: starEach es X.env := by rfl) (hpl : (backTo pos (starEach es X.env)).any (·.1) = false := by rfl) : MN X E (.Call (.Name x p) (e :: es) [] pos) (fun ρ => (ma ρ).bind f) :=
  let ⟨_, pa, va⟩ := ha; ⟨_, pe_callTy hc hg hm hv pa hn hdb he hpl, ev_cbN hf va⟩
theorem me_bty {n : String} (hg : Gl X x) (hm : X.mg x = none) (hv : bootBuiltins x = some (.type n)) (hn : x ≠ "__name__" := by decide) (hdb : (x == ("__debug__" : Str)) = false := by decide) : ME X E (.Name x p) (fun _ => .ret (.ty n)) :=
  ⟨_, pe_bltn (v := .ty n) hg hm hv rfl hn hdb, ev_c fun _ => .ty n⟩

theorem RqAll.one {vs : List V} {d : Dt} (r : RqAll Z B H vs [d]) : ∃ v, vs = [v] ∧ Rq Z B H v d := by
  cases r with | cons a r => cases r; exact ⟨_, rfl, a⟩
theorem RqAll.two {vs : List V} {d d' : Dt} (r : RqAll Z B H vs [d, d']) : ∃ v v', vs = [v, v'] ∧ Rq Z B H v d ∧ Rq Z B H v' d' := by
  cases r with | cons a r => cases r with | cons b r => cases r; exact ⟨_, _, rfl, a, b⟩

def pyLen : List Dt → Wp Dt
  | [.str z] => .gd (z.length ≤ sizeLine) (.ret (.int z.length))
  | [.lst xs] => .ret (.int xs.length)
  | [.tup xs] => .ret (.int xs.length)
  | [.dct xs] => .ret (.int xs.length)
  | [.scr ns] => .ret (.int ns.length)
  | _ => .bad
theorem call_lenR : CallR X (.builtin "len") (fun xs H Q => ∃ a kvs, xs = [V.ref a] ∧ Rd H a (.dK kvs) ∧ Q (.int kvs.length) H) := by
  intro pins s σ H xs us Q I r h
  obtain ⟨a, kvs, rfl, ha, q⟩ := h
  cases r with
  | cons ru r0 =>
    cases r0
    cases ru
    exact d_len I ha fun t s' I' => ⟨.int kvs.length, H, I', ⟨t, rfl⟩, q⟩
theorem cr_pyLen : CallR X (.builtin "len") (fun xs H Q => (∃ x n, xs = [x] ∧ LenV X.K x H n ∧ Q (.int n) H) ∨ ∃ a kvs, xs = [V.ref a] ∧ Rd H a (.dK kvs) ∧ Q (.int kvs.length) H) := CallR.or call_len call_lenR
theorem cd_pyLen : CallD Z (fun xs H Q => (∃ x n, xs = [x] ∧ LenV Z.K x H n ∧ Q (.int n) H) ∨ ∃ a kvs, xs = [V.ref a] ∧ Rd H a (.dK kvs) ∧ Q (.int kvs.length) H) pyLen := by
  refine ⟨fun ds => by unfold pyLen; split <;> first | exact mn_ret | exact mn_gd mn_ret | exact mn_bad, fun ds vs B H Q Ex' e r0 q => ?_⟩
  unfold pyLen at q
  split at q
  · obtain ⟨v, rfl, r⟩ := r0.one
    rw [r.str]; exact .inl ⟨_, _, rfl, ⟨q.1, rfl⟩, post_ref q.2 e (.int _)⟩
  · obtain ⟨v, rfl, r⟩ := r0.one
    obtain ⟨a, vs, rfl, ha, ra⟩ := r.lst e
    exact .inl ⟨_, vs.length, rfl, .inl ⟨vs, .inl (.inl ha), rfl⟩, by rw [ra.len]; exact post_ref q e (.int _)⟩
  · obtain ⟨v, rfl, r⟩ := r0.one
    obtain ⟨a, vs, rfl, ha, ra⟩ := r.tup e
    exact .inl ⟨_, vs.length, rfl, .inr ⟨vs, ha, rfl⟩, by rw [ra.len]; exact post_ref q e (.int _)⟩
  · obtain ⟨v, rfl, r⟩ := r0.one
    obtain ⟨a, vs, rfl, ha, ra⟩ := r.dct e
    exact .inr ⟨a, vs, rfl, ha, by rw [ra.len]; exact post_ref q e (.int _)⟩
  · obtain ⟨v, rfl, r⟩ := r0.one
    obtain ⟨a, rfl, ha⟩ := r.scr e
    exact .inl ⟨_, _, rfl, .inl ⟨_, ha, rfl⟩, by rw [List.length_map]; exact post_ref q e (.int _)⟩
  · exact q.elim

def pyInt : List Dt → Wp Dt
  | [.int i] => .ret (.int i)
  | [.bl k] => .ret (.int (if k then 1 else 0))
  | [.str a] => (match PySem.intText? a with
    | some n => .gd (a.length ≤ 640) (.ret (.int n))
    | none => .bad)
  | _ => .bad
theorem cr_pyInt : CallR X (.type "int") (fun xs H Q => ((∃ i, xs = [.int i] ∧ Q (.int i) H) ∨ ∃ k, xs = [.bl k] ∧ Q (.int (if k then 1 else 0)) H) ∨ ∃ a n, xs = [.str a] ∧ PySem.intText? a = some n ∧ a.length ≤ 640 ∧ Q (.int n) H) := CallR.or call_int1 call_int_str
theorem cd_pyInt : CallD Z (fun xs H Q => ((∃ i, xs = [.int i] ∧ Q (.int i) H) ∨ ∃ k, xs = [.bl k] ∧ Q (.int (if k then 1 else 0)) H) ∨ ∃ a n, xs = [.str a] ∧ PySem.intText? a = some n ∧ a.length ≤ 640 ∧ Q (.int n) H) pyInt := by
  refine ⟨fun ds => by unfold pyInt; repeat' split
                       all_goals first | exact mn_ret | exact mn_gd mn_ret | exact mn_bad, fun ds vs B H Q Ex' e r0 q => ?_⟩
  unfold pyInt at q
  split at q
  · obtain ⟨v, rfl, r⟩ := r0.one
    rw [r.int]; exact .inl (.inl ⟨_, rfl, post_ref q e (.int _)⟩)
  · obtain ⟨v, rfl, r⟩ := r0.one
    rw [r.bl]; exact .inl (.inr ⟨_, rfl, post_ref q e (.int _)⟩)
  · obtain ⟨v, rfl, r⟩ := r0.one
    rename_i a
    cases h : PySem.intText? a with
    | none => rw [h] at q; exact q.elim
    | some n =>
      rw [h] at q
      rw [r.str]; exact .inr ⟨_, _, rfl, h, q.1, post_ref q.2 e (.int _)⟩
  · exact q.elim
def pyMin : List Dt → Wp Dt
  | [.int i, .int j] => .ret (.int (if j < i then j else i))
  | _ => .bad
def pyMax : List Dt → Wp Dt
  | [.int i, .int j] => .ret (.int (if j > i then j else i))
  | _ => .bad
theorem cd_pyMin : CallD Z (fun xs H Q => ∃ i j, xs = [.int i, .int j] ∧ Q (.int (if j < i then j else i)) H) pyMin := by
  refine ⟨fun ds => by unfold pyMin; split <;> first | exact mn_ret | exact mn_bad, fun ds vs B H Q Ex' e r0 q => ?_⟩
  unfold pyMin at q
  split at q
  · obtain ⟨v, w, rfl, r, r'⟩ := r0.two
    rw [r.int, r'.int]; exact ⟨_, _, rfl, post_ref q e (.int _)⟩
  · exact q.elim
def pyList : List Dt → Wp Nw
  | [.lst xs] => .ret (.l xs)
  | [.tup xs] => .ret (.l xs)
  | [.dct xs] => .ret (.l (xs.map fun kv => match kv.1 with | .inl i => Dt.int i | .inr x => .str x))
  | _ => .bad
theorem RpKv.keys : ∀ {vs : List (Key × V)} {xs : List (Key × Dt)}, RpKv Z B vs xs → RpAll Z B (vs.map fun kv => kV kv.1) (xs.map fun kv => match kv.1 with | .inl i => Dt.int i | .inr x => .str x)
  | _, _, .nil => .nil
  | _, _, .cons (k := k) a r => by
    refine .cons ?_ r.keys
    cases k with
    | inl i => exact .int i
    | inr x => exact .str x
theorem cr_pyList (hc : X.calm = true) : CallR X (.type "list") (fun xs H Q => (∃ p ys, xs = [.ref p] ∧ (SqL X.K H p ys ∨ SqT X.K H p ys) ∧ ∀ l, H l = none → Q (.ref l) (upd H l (.lst ys))) ∨ (∃ (a : Addr) (kvs : List (Key × V)), xs = [.ref a] ∧ Rd H a (.dK kvs) ∧ ∀ p, H p = none → Q (.ref p) (upd H p (.lst (kvs.map fun kv => kV kv.1))))) := CallR.or call_list_of (call_listD hc)
theorem cn_pyList : CallN Z (fun xs H Q => (∃ p ys, xs = [.ref p] ∧ (SqL Z.K H p ys ∨ SqT Z.K H p ys) ∧ ∀ l, H l = none → Q (.ref l) (upd H l (.lst ys))) ∨ (∃ (a : Addr) (kvs : List (Key × V)), xs = [.ref a] ∧ Rd H a (.dK kvs) ∧ ∀ p, H p = none → Q (.ref p) (upd H p (.lst (kvs.map fun kv => kV kv.1))))) pyList := by
  refine ⟨fun ds => by unfold pyList; split <;> first | exact mn_ret | exact mn_bad, fun ds vs B H Q Ex' e r0 q => ?_⟩
  unfold pyList at q
  split at q
  · obtain ⟨v, rfl, r⟩ := r0.one
    obtain ⟨a, vs, rfl, ha, ra⟩ := r.lst e
    exact .inl ⟨a, vs, rfl, .inl (.inl (.inl ha)), fun l n => q l _ (Gr.tmp e n) n (.l upd_same ra (e.no n))⟩
  · obtain ⟨v, rfl, r⟩ := r0.one
    obtain ⟨a, vs, rfl, ha, ra⟩ := r.tup e
    exact .inl ⟨a, vs, rfl, .inr ha, fun l n => q l _ (Gr.tmp e n) n (.l upd_same ra (e.no n))⟩
  · obtain ⟨v, rfl, r⟩ := r0.one
    obtain ⟨a, vs, rfl, ha, ra⟩ := r.dct e
    exact .inr ⟨a, vs, rfl, ha, fun l n => q l _ (Gr.tmp e n) n (.l upd_same ra.keys (e.no n))⟩
  · exact q.elim
def pyTuple : List Dt → Wp Dt
  | [.lst xs] => .ret (.tup xs)
  | [.tup xs] => .ret (.tup xs)
  | _ => .bad
theorem cd_pyTuple : CallD Z (fun xs H Q => ∃ p ys, xs = [.ref p] ∧ ((SqL Z.K H p ys ∧ ∀ l, H l = none → Q (.ref l) (upd H l (.tup ys))) ∨ (SqT Z.K H p ys ∧ Q (.ref p) H))) pyTuple := by
  refine ⟨fun ds => by unfold pyTuple; split <;> first | exact mn_ret | exact mn_bad, fun ds vs B H Q Ex' e r0 q => ?_⟩
  unfold pyTuple at q
  split at q
  · obtain ⟨v, rfl, r⟩ := r0.one
    obtain ⟨a, vs, rfl, ha, ra⟩ := r.lst e
    exact ⟨a, vs, rfl, .inl ⟨.inl (.inl ha), fun l n => post_tup q e ra n⟩⟩
  · obtain ⟨v, rfl, r⟩ := r0.one
    obtain ⟨a, vs, rfl, ha, ra⟩ := r.tup e
    refine ⟨a, vs, rfl, .inr ⟨ha, ?_⟩⟩
    cases r with | fz r => exact post_ref q e r
  · exact q.elim
def blsOf : List Dt → Option (List Bool)
  | [] => some []
  | .bl b :: xs => (blsOf xs).map (b :: ·)
  | _ :: _ => none
theorem RpAll.bls : ∀ {vs : List V} {xs : List Dt} {bs : List Bool}, RpAll Z B vs xs → blsOf xs = some bs → vs = bs.map V.bl
  | _, _, bs, .nil, h => by simp [blsOf] at h; subst h; rfl
  | _, _, bs, .cons (d := d) a r, h => by
    cases a with
    | bl b =>
      simp only [blsOf, Option.map_eq_some_iff] at h
      obtain ⟨cs, h1, h2⟩ := h
      subst h2
      rw [r.bls h1]; rfl
    | _ => simp [blsOf] at h
def pyAllB : List Dt → Wp Dt
  | [.lst xs] => (ofO (blsOf xs)).bind fun bs => .ret (.bl (bs.all id))
  | _ => .bad
theorem cd_pyAll : CallD Z (rAll Z.K) pyAllB := by
  refine ⟨fun ds => by unfold pyAllB; split <;> first | exact mn_bind (mn_ofO _) fun _ => mn_ret | exact mn_bad, fun ds vs B H Q Ex' e r0 q => ?_⟩
  unfold pyAllB at q
  split at q
  · obtain ⟨v, rfl, r⟩ := r0.one
    obtain ⟨a, vs, rfl, ha, ra⟩ := r.lst e
    rename_i xs
    cases h : blsOf xs with
    | none => rw [h] at q; exact q.elim
    | some bs =>
      rw [h] at q
      rw [ra.bls h] at ha
      exact ⟨a, bs, rfl, .inl (.inl ha), post_ref q e (.bl _)⟩
  · exact q.elim
def ty7 : Dt → Option Ty7
  | .non => some .non
  | .bl _ => some .bl
  | .int _ => some .int
  | .str _ => some .str
  | .lst _ => some .lst
  | .tup _ => some .tup
  | .dct _ => some .dct
  | _ => none
def isi7 : Ty7 → String → Option Bool
  | .bl, "int" => some true
  | t, n => if n ∈ ["int", "bool", "str", "tuple", "list", "dict"] then some (decide (t.name = n)) else none
def pyIsi : List Dt → Wp Dt
  | [d, .ty n] => (ofO (ty7 d)).bind fun t => (ofO (isi7 t n)).bind fun b => .ret (.bl b)
  | _ => .bad
theorem isi7_kit {t : Ty7} {n : String} {b : Bool} (h : isi7 t n = some b) : kitB t.name n = some b := by
  unfold isi7 at h
  split at h
  · cases h; decide +kernel
  · split at h
    · rename_i hn
      simp only [List.mem_cons, List.not_mem_nil, or_false] at hn
      cases h
      rcases hn with rfl | rfl | rfl | rfl | rfl | rfl <;> cases t <;> first | decide +kernel | (rename_i hx; exact (hx rfl rfl).elim)
    · cases h
theorem Rq.ty7 {v : V} {d : Dt} {t : Ty7} (r : Rq Z B H v d) (e : Ex B H) (h : Mv.ty7 d = some t) : TyX Z.K H v (.type t.name) := by
  cases d with
  | non => cases h; rw [r.non]; exact .base .non
  | bl b => cases h; rw [r.bl]; exact .base (.bl _)
  | int i => cases h; rw [r.int]; exact .base (.int _)
  | str x => cases h; rw [r.str]; exact .base (.str _)
  | lst xs => cases h; obtain ⟨a, vs, rfl, ha, _⟩ := r.lst e; exact .base (.lst ha)
  | tup xs =>
    cases h
    obtain ⟨a, vs, rfl, ha, _⟩ := r.tup e
    rcases ha with (ha | ⟨o, ha⟩) | ⟨o, its, n, h1, h2, _⟩
    · exact .base (.tup ha)
    · exact .fTuple ha
    · exact .kTuple h1 h2
  | dct xs =>
    cases h
    obtain ⟨a, vs, rfl, ha, _⟩ := r.dct e
    rcases ha with ha | ⟨o, ha⟩
    · exact .base (.dK ha)
    · exact .fDict ha
  | _ => cases h
theorem cd_pyIsi : CallD Z (rIsi Z.K) pyIsi := by
  refine ⟨fun ds => by unfold pyIsi; split <;> first | exact mn_bind (mn_ofO _) fun _ => mn_bind (mn_ofO _) fun _ => mn_ret | exact mn_bad, fun ds vs B H Q Ex' e r0 q => ?_⟩
  unfold pyIsi at q
  split at q
  · obtain ⟨v, w, rfl, r, r'⟩ := r0.two
    rename_i d n
    cases h : ty7 d with
    | none => rw [h] at q; exact q.elim
    | some t =>
      rw [h] at q
      cases h2 : isi7 t n with
      | none =>
        simp only [ofO, Wp.bind, Wp.ret] at q
        rw [h2] at q; exact q.elim
      | some b =>
        simp only [ofO, Wp.bind, Wp.ret] at q
        rw [h2] at q
        rw [r'.ty]
        exact ⟨v, _, _, _, b, rfl, .ty n, r.ty7 e h, kit_ty (isi7_kit h2), post_ref q e (.bl _)⟩
  · exact q.elim
end
end Mv

namespace Mv
open PySem L2

inductive RqS (Z : Kx) (B0 B H : Hp) : V → Sl → Prop
  | fz {v : V} {d : Dt} : Rp Z B v d → RqS Z B0 B H v (.fz d)
  | ol {a : Addr} {vs : List V} {xs : List Dt} : B0 a = none → H a = some (.lst vs) → RpAll Z B vs xs → B a = none → RqS Z B0 B H (.ref a) (.ol xs)
  | od {a : Addr} {vs : List (Key × V)} {xs : List (Key × Dt)} : B0 a = none → H a = some (.dK vs) → RpKv Z B vs xs → B a = none → RqS Z B0 B H (.ref a) (.od xs)
/-- (B0 here: the heap ahead of the expression) -/
structure EvX (Z : Kx) (E : XS) (te : TE) (m : Env → Wp Sl) : Prop where
  mn : ∀ ρ, Mn (m ρ)
  run : ∀ B0 F ρ σ B H (Q : VK), SR Z B0 F ρ σ B H → m ρ (fun s => ∀ v B' H', Gr B H B' H' → RqS Z H B' H' v s → Q v H') (PostX Z B H (E σ)) → te σ H Q
def MX (X : Cx) (E : XS) (e : Expr) (m : Env → Wp Sl) : Prop := ∃ te, PE X e te ∧ EvX (kx X) E te m
section
variable {X : Cx} {Z : Kx} {E : XS} {e : Expr} {B0 F B H B' H' : Hp} {ρ : Env} {σ : St}
theorem Ev.x {te : TE} {m : Env → Wp Dt} (h : Ev Z E te m) : EvX Z E te (fun ρ => (m ρ).bind fun d => .ret (.fz d)) :=
  ⟨fun ρ => mn_bind (h.mn ρ) fun _ => mn_ret, fun B0 F ρ σ B H Q s q => h.run B0 F ρ σ B H Q s (h.mn ρ _ _ _ _ (fun d k v B' H' g r => k v B' H' g (.fz r)) (fun _ z => z) q)⟩
theorem EvN.x {te : TE} {m : Env → Wp Nw} (h : EvN Z E te m) : EvX Z E te (fun ρ => (m ρ).bind fun d => .ret d.sl) :=
  ⟨fun ρ => mn_bind (h.mn ρ) fun _ => mn_ret, fun B0 F ρ σ B H Q s q => h.run B0 F ρ σ B H Q s (h.mn ρ _ _ _ _ (fun d k a B' H' g n r => k _ B' H' g (by
    cases r with
    | l h r nb => exact .ol n h r nb
    | d h r nb => exact .od n h r nb)) (fun _ z => z) q)⟩
theorem ME.x {m : Env → Wp Dt} (h : ME X E e m) : MX X E e (fun ρ => (m ρ).bind fun d => .ret (.fz d)) := let ⟨t, p, v⟩ := h; ⟨t, p, v.x⟩
theorem MN.x {m : Env → Wp Nw} (h : MN X E e m) : MX X E e (fun ρ => (m ρ).bind fun d => .ret d.sl) := let ⟨t, p, v⟩ := h; ⟨t, p, v.x⟩
theorem SR.setS (s : SR Z B0 F ρ σ B H) (g : Gr B H B' H') {i : Nat} {v : V} {x : Sl} (r : RqS Z H B' H' v x) : SR Z B0 F (ρ.set i x) (σ.set i (some v)) B' H' := by
  cases r with
  | fz r => exact (s.gr g).set r
  | ol n h r nb => exact s.setN g n h r nb
  | od n h r nb => exact s.setND g n h r nb
end

def Wp.fl (m : Wp Fl) (f : Env → Wp Fl) : Wp Fl := m.bind fun x => match x with
  | .nx ρ => f ρ
  | .rt d => .ret (.rt d)
  | .bk ρ => .ret (.bk ρ)
  | .ct ρ => .ret (.ct ρ)
  | .rs d S => .ret (.rs d S)
theorem mn_fl {m : Wp Fl} {f : Env → Wp Fl} (h : Mn m) (k : ∀ ρ, Mn (f ρ)) : Mn (Wp.fl m f) := mn_bind h fun x => by
  cases x <;> first | exact k _ | exact mn_ret
section
variable {X : Cx} {Z : Kx} {E : XS} {e : Expr} {st : Stmt} {rest : List Stmt} {pos : Pos} {B0 F B H : Hp} {ρ : Env} {σ : St} {D : Ends}
theorem PostXs.sr {x : Xn} (q : PostXs Z B0 F E x) (s : SR Z B0 F ρ σ B H) : PostX Z B H (E σ) x := fun c o B' H' g r => q σ c o B' H' (s.fin.trans g) r
theorem evs_seq {t u : TS} {m n : Env → Wp Fl} (h : EvS Z E t m) (k : EvS Z E u n) : EvS Z E (tSeq t u) (fun ρ => (m ρ).fl n) := by
  refine ⟨fun ρ => mn_fl (h.mn ρ) k.mn, fun B0 F ρ σ B H D s q => h.run B0 F ρ σ B H _ s (h.mn ρ _ _ _ _ (fun x z => ?_) (fun _ z => z) q)⟩
  cases x with
  | nx ρ' => exact fun σ' B' H' s' => k.run B0 F ρ' σ' B' H' D s' z
  | rt d => exact z
  | bk ρ' => exact z
  | ct ρ' => exact z
  | rs d S => exact z
theorem mss_nil : MSs X E [] (fun ρ => .ret (.nx ρ)) := ⟨_, pss_nil, fun _ => mn_ret, fun B0 F ρ σ B H D s q => q σ B H s⟩
theorem mss_cons {m n : Env → Wp Fl} (h : MS X E st m) (k : MSs X E rest n) : MSs X E (st :: rest) (fun ρ => (m ρ).fl n) := let ⟨_, p, v⟩ := h; let ⟨_, q, u⟩ := k; ⟨_, pss_cons p q, evs_seq v u⟩
theorem mss_one {m : Env → Wp Fl} (h : MS X E st m) : MSs X E [st] m := let ⟨_, p, v⟩ := h; ⟨_, pss_one p, v⟩
theorem ms_ret {m : Env → Wp Dt} (h : ME X E e m) : MS X E (.Return (some e) pos) (fun ρ => (m ρ).bind fun d => .ret (.rt d)) := by
  obtain ⟨t, p, v⟩ := h
  refine ⟨_, ps_ret p, fun ρ => mn_bind (v.mn ρ) fun _ => mn_ret, fun B0 F ρ σ B H D s q => v.run B0 F ρ σ B H _ s (v.mn ρ _ _ _ _ (fun d z u B' H' g r => z u B' H' (s.fin.trans g) r) (fun _ z => z.sr s) q)⟩
theorem evs_if {tc : TT} {t u : TS} {mc : Env → Wp Bool} {m n : Env → Wp Fl} (hc : EvT Z E tc mc) (h : EvS Z E t m) (k : EvS Z E u n) : EvS Z E (tIfS tc t u) (fun ρ => wIf (mc ρ) (m ρ) (n ρ)) := by
  refine ⟨fun ρ => mn_wIf (hc.mn ρ) (h.mn ρ) (k.mn ρ), fun B0 F ρ σ B H D s q => hc.run B0 F ρ σ B H _ s (hc.mn ρ _ _ _ _ (fun b z B1 H1 g => ?_) (fun _ z => z.sr s) q)⟩
  cases b with
  | true => exact iteT (h.run B0 F ρ σ B1 H1 D (s.gr g) z)
  | false => exact iteF (k.run B0 F ρ σ B1 H1 D (s.gr g) z)
theorem ms_if {c : Expr} {a b : List Stmt} {mc : Env → Wp Bool} {m n : Env → Wp Fl} (hc : MT X E c mc) (h : MSs X E a m) (k : MSs X E b n) : MS X E (.If c a b pos) (fun ρ => wIf (mc ρ) (m ρ) (n ρ)) :=
  let ⟨_, pc, vc⟩ := hc; let ⟨_, p, v⟩ := h; let ⟨_, q, u⟩ := k; ⟨_, ps_if pc p q, evs_if vc v u⟩

theorem evs_set {te : TE} {m : Env → Wp Sl} (i : Nat) (h : EvX Z E te m) : EvS Z E (tAsg te (gName i)) (fun ρ => (m ρ).bind fun x => .ret (.nx (ρ.set i x))) :=
  ⟨fun ρ => mn_bind (h.mn ρ) fun _ => mn_ret, fun B0 F ρ σ B H D s q => h.run B0 F ρ σ B H _ s (h.mn ρ _ _ _ _ (fun x z v B' H' g r => z _ B' H' (s.setS g r)) (fun _ z => z.sr s) q)⟩
theorem ms_set (i : Nat) {x : Str} {m : Env → Wp Sl} {pos' : Pos} (hN : X.N.Nodup) (h : MX X E e m) (hi : X.N[i]? = some x := by rfl) (hx : Loc X.env.scope x := by first | exact Or.inl rfl | exact Or.inr rfl) (hs : swapsWith e (some (.Name x pos')) pos.line X.env = pure false := by rfl) (hf : X.fn x = true ∨ X.env.scope.names.lookup x = some .local := by first | exact .inl rfl | exact .inr rfl | assumption) :
    MS X E (.Assign [.Name x pos'] e pos) (fun ρ => (m ρ).bind fun x => .ret (.nx (ρ.set i x))) := let ⟨_, p, v⟩ := h; ⟨_, ps_set hN hi hx p hs hf, evs_set i v⟩

structure EvG (Z : Kx) (g : TG) (m : Dt → Env → Wp Env) : Prop where
  mn : ∀ d ρ, Mn (m d ρ)
  ex : ∀ d ρ Q E, m d ρ Q E → ∃ ρ', Q ρ'
  run : ∀ B0 F ρ σ B H (v : V) (d : Dt) (R : St → Hp → Prop) (E' : Xn → Prop), SR Z B0 F ρ σ B H → Rp Z B v d → m d ρ (fun ρ' => ∀ σ', SR Z B0 F ρ' σ' B H → R σ' H) E' → g v σ H R
structure EvGs (Z : Kx) (n : Nat) (g : TGs) (m : List Dt → Env → Wp Env) : Prop where
  mn : ∀ d ρ, Mn (m d ρ)
  ex : ∀ d ρ Q E, m d ρ Q E → d.length = n ∧ ∃ ρ', Q ρ'
  run : ∀ B0 F ρ σ B H (v : List V) (d : List Dt) (R : St → Hp → Prop) (E' : Xn → Prop), SR Z B0 F ρ σ B H → RpAll Z B v d → m d ρ (fun ρ' => ∀ σ', SR Z B0 F ρ' σ' B H → R σ' H) E' → g v σ H R
def MG (X : Cx) (t : Expr) (m : Dt → Env → Wp Env) : Prop := ∃ g, PG X t g ∧ EvG (kx X) g m
def MGs (X : Cx) (t : List Expr) (n : Nat) (m : List Dt → Env → Wp Env) : Prop := ∃ g, PGs X t g ∧ EvGs (kx X) n g m
def aN (i : Nat) (d : Dt) (ρ : Env) : Wp Env := .ret (ρ.set i (.fz d))
theorem evg_name (i : Nat) : EvG Z (gName i) (aN i) := ⟨fun _ _ => mn_ret, fun _ _ _ _ h => ⟨_, h⟩, fun B0 F ρ σ B H v d R E' s r q => q _ (s.set r)⟩
theorem mg_name (i : Nat) {x : Str} (hN : X.N.Nodup) (hi : X.N[i]? = some x := by rfl) (hx : Loc X.env.scope x := by first | exact Or.inl rfl | exact Or.inr rfl) (hf : X.fn x = true ∨ X.env.scope.names.lookup x = some .local := by first | exact .inl rfl | exact .inr rfl | assumption) : MG X (.Name x pos) (aN i) := ⟨_, pg_name hN hi hx hf, evg_name i⟩
def aNil (ds : List Dt) (ρ : Env) : Wp Env := match ds with
  | [] => .ret ρ
  | _ => .bad
def aCons (m : Dt → Env → Wp Env) (n : List Dt → Env → Wp Env) (ds : List Dt) (ρ : Env) : Wp Env := match ds with
  | d :: r => (m d ρ).bind (n r)
  | [] => .bad
theorem evgs_nil : EvGs Z 0 gNil aNil := by
  refine ⟨fun d ρ => by cases d <;> first | exact mn_ret | exact mn_bad, fun d ρ Q E q => ?_, fun B0 F ρ σ B H v d R E' s r q => ?_⟩
  · cases d with
    | nil => exact ⟨rfl, _, q⟩
    | cons _ _ => exact q.elim
  cases r with
  | nil => exact ⟨rfl, q σ s⟩
  | cons _ _ => exact q.elim
theorem evgs_cons {k : Nat} {g : TG} {gs : TGs} {m : Dt → Env → Wp Env} {n : List Dt → Env → Wp Env} (h : EvG Z g m) (hk : EvGs Z k gs n) : EvGs Z (k + 1) (gCons g gs) (aCons m n) := by
  refine ⟨fun d ρ => by
    cases d with
    | nil => exact mn_bad
    | cons x r =>
      show Mn (Wp.bind (m x ρ) (n r))
      exact mn_bind (h.mn x ρ) fun ρ' => hk.mn r ρ', fun d ρ Q E q => ?_, fun B0 F ρ σ B H v d R E' s r q => ?_⟩
  · cases d with
    | nil => exact q.elim
    | cons x r =>
      obtain ⟨ρ', q'⟩ := h.ex _ _ _ _ q
      obtain ⟨l, z⟩ := hk.ex _ _ _ _ q'
      exact ⟨by simp [l], z⟩
  cases r with
  | nil => exact q.elim
  | cons a r => exact ⟨_, _, rfl, h.run B0 F ρ σ B H _ _ _ E' s a (h.mn _ ρ _ _ _ _ (fun ρ' z σ' s' => hk.run B0 F ρ' σ' B H _ _ R E' s' r z) (fun _ z => z) q)⟩
theorem mgs_nil : MGs X [] 0 aNil := ⟨_, pgs_nil, evgs_nil⟩
theorem mgs_cons {k : Nat} {es : List Expr} {m : Dt → Env → Wp Env} {n : List Dt → Env → Wp Env} (h : MG X e m) (hk : MGs X es k n) (hs : (assignEach (e :: es) X.env).map (·.2) = assign e X.env :: (assignEach es X.env).map (·.2) := by rfl) : MGs X (e :: es) (k + 1) (aCons m n) :=
  let ⟨_, p, v⟩ := h; let ⟨_, q, u⟩ := hk; ⟨_, pgs_cons p q hs, evgs_cons v u⟩
def aTup (n : List Dt → Env → Wp Env) (d : Dt) (ρ : Env) : Wp Env := match d with
  | .tup ds => n ds ρ
  | _ => .bad
theorem evg_tup {n : Nat} {g : TGs} {m : List Dt → Env → Wp Env} (h : EvGs Z n g m) : EvG Z (gTup Z.K n g) (aTup m) := by
  refine ⟨fun d ρ => by cases d <;> first | exact h.mn _ _ | exact mn_bad, fun d ρ Q E q => ?_, fun B0 F ρ σ B H v d R E' s r q => ?_⟩
  · cases d <;> first | exact (h.ex _ _ _ _ q).2 | exact q.elim
  cases d with
  | tup ds =>
    cases r with
    | tup sq ra => exact ⟨_, _, rfl, s.bh.lg.sqt sq, by rw [ra.len]; exact (h.ex _ _ _ _ q).1, h.run B0 F ρ σ B H _ _ R E' s ra q⟩
  | _ => exact q.elim
theorem mg_tup {n k : Nat} {es : List Expr} {m : List Dt → Env → Wp Env} (hc : X.calm = true) (h : MGs X es n m) (hn : (assignEach es X.env).length = n := by rfl) (hst : (assignEach es X.env).findIdx? (·.1) = none := by rfl) : MG X (.Tuple es k pos) (aTup m) :=
  let ⟨_, p, v⟩ := h; ⟨_, pg_tup hc p hn hst, evg_tup v⟩
/-- target = e, e frozen -/
theorem ms_asg {tg : Expr} {m : Env → Wp Dt} {mg : Dt → Env → Wp Env} (h : ME X E e m) (hg : MG X tg mg) (hs : swapsWithSole [tg] e pos.line X.env = pure false := by rfl) (hw : swappedStores [tg] e X.env = pure none := by rfl) (h1 : (assignEach [tg] X.env).map (·.2) = [assign tg X.env] := by rfl) :
    MS X E (.Assign [tg] e pos) (fun ρ => (m ρ).bind fun d => (mg d ρ).bind fun ρ' => .ret (.nx ρ')) := by
  obtain ⟨t, p, v⟩ := h
  obtain ⟨g, pg, vg⟩ := hg
  refine ⟨_, ps_asg p pg hs hw h1, fun ρ => mn_bind (v.mn ρ) fun _ => mn_bind (vg.mn _ ρ) fun _ => mn_ret, fun B0 F ρ σ B H D s q => v.run B0 F ρ σ B H _ s (v.mn ρ _ _ _ _ (fun d z u B' H' g r => ?_) (fun _ z => z.sr s) q)⟩
  exact vg.run B0 F ρ σ B' H' u d _ _ (s.gr g) r (vg.mn d ρ _ _ _ _ (fun ρ' z σ' s' => z σ' B' H' s') (fun _ z => z) z)

theorem ms_par {i j : Nat} {x y : Str} {a b : Expr} {px py pt : Pos} {kt k2 pt2} {ma mb : Env → Wp Sl} (hc : X.calm = true) (hN : X.N.Nodup) (ha : MX X E a ma) (hb : MX X E b mb) (hi : X.N[i]? = some x := by rfl) (hj : X.N[j]? = some y := by rfl) (hij : i ≠ j := by decide)
    (hx : X.env.scope.names.lookup x = some .local := by rfl) (hy : X.env.scope.names.lookup y = some .local := by rfl)
    (hw : swappedStores [.Tuple [.Name x px, .Name y py] kt pt] (.Tuple [a, b] k2 pt2) X.env = pure (some [x, y]) := by rfl)
    (hs : swapsWithSole [.Tuple [.Name x px, .Name y py] kt pt] (.Tuple [a, b] k2 pt2) pos.line X.env = pure false := by rfl)
    (h1 : starEach (a :: [b]) X.env = (false, eval a X.env) :: starEach [b] X.env := by rfl) (h2 : starEach (b :: []) X.env = (false, eval b X.env) :: starEach [] X.env := by rfl) :
    MS X E (.Assign [.Tuple [.Name x px, .Name y py] kt pt] (.Tuple [a, b] k2 pt2) pos) (fun ρ => (ma ρ).bind fun u => (mb ρ).bind fun v => .ret (.nx ((ρ.set i u).set j v))) := by
  obtain ⟨ta, pa, va⟩ := ha
  obtain ⟨tb, pb, vb⟩ := hb
  refine ⟨_, ps_par hc hN hi hj hij hx hy (pa_cons pa (pa_cons pb pa_nil h2) h1) hw hs, fun ρ => mn_bind (va.mn ρ) fun _ => mn_bind (vb.mn ρ) fun _ => mn_ret, fun B0 F ρ σ B H D s q => ?_⟩
  refine va.run B0 F ρ σ B H _ s (va.mn ρ _ _ _ _ (fun u z v1 B1 H1 g1 r1 => ?_) (fun _ z => z.sr s) q)
  refine vb.run B0 F ρ σ B1 H1 _ (s.gr g1) (vb.mn ρ _ _ _ _ (fun v z v2 B2 H2 g2 r2 => ⟨_, _, rfl, ?_⟩) (fun _ z => z.sr (s.gr g1)) z)
  exact z _ B2 H2 ((s.setS g1 r1).setS g2 r2)
theorem ms_par3 {i j l : Nat} {x y z : Str} {a b c : Expr} {px py pz pt : Pos} {kt k2 pt2} {ma mb mc : Env → Wp Sl} (hc : X.calm = true) (hN : X.N.Nodup) (ha : MX X E a ma) (hb : MX X E b mb) (hcc : MX X E c mc) (hi : X.N[i]? = some x := by rfl) (hj : X.N[j]? = some y := by rfl) (hl : X.N[l]? = some z := by rfl) (hij : i ≠ j := by decide) (hil : i ≠ l := by decide) (hjl : j ≠ l := by decide)
    (hx : X.env.scope.names.lookup x = some .local := by rfl) (hy : X.env.scope.names.lookup y = some .local := by rfl) (hz : X.env.scope.names.lookup z = some .local := by rfl)
    (hw : swappedStores [.Tuple [.Name x px, .Name y py, .Name z pz] kt pt] (.Tuple [a, b, c] k2 pt2) X.env = pure (some [x, y, z]) := by rfl)
    (hs : swapsWithSole [.Tuple [.Name x px, .Name y py, .Name z pz] kt pt] (.Tuple [a, b, c] k2 pt2) pos.line X.env = pure false := by rfl)
    (h1 : starEach (a :: [b, c]) X.env = (false, eval a X.env) :: starEach [b, c] X.env := by rfl) (h2 : starEach (b :: [c]) X.env = (false, eval b X.env) :: starEach [c] X.env := by rfl) (h3 : starEach (c :: []) X.env = (false, eval c X.env) :: starEach [] X.env := by rfl) :
    MS X E (.Assign [.Tuple [.Name x px, .Name y py, .Name z pz] kt pt] (.Tuple [a, b, c] k2 pt2) pos) (fun ρ => (ma ρ).bind fun u => (mb ρ).bind fun v => (mc ρ).bind fun w => .ret (.nx (((ρ.set i u).set j v).set l w))) := by
  obtain ⟨ta, pa, va⟩ := ha
  obtain ⟨tb, pb, vb⟩ := hb
  obtain ⟨tc, pc, vc⟩ := hcc
  refine ⟨_, ps_par3 hc hN hi hj hl hij hil hjl hx hy hz (pa_cons pa (pa_cons pb (pa_cons pc pa_nil h3) h2) h1) hw hs, fun ρ => mn_bind (va.mn ρ) fun _ => mn_bind (vb.mn ρ) fun _ => mn_bind (vc.mn ρ) fun _ => mn_ret, fun B0 F ρ σ B H D s q => ?_⟩
  refine va.run B0 F ρ σ B H _ s (va.mn ρ _ _ _ _ (fun u z v1 B1 H1 g1 r1 => ?_) (fun _ z => z.sr s) q)
  refine vb.run B0 F ρ σ B1 H1 _ (s.gr g1) (vb.mn ρ _ _ _ _ (fun v z v2 B2 H2 g2 r2 => ?_) (fun _ z => z.sr (s.gr g1)) z)
  refine vc.run B0 F ρ σ B2 H2 _ ((s.gr g1).gr g2) (vc.mn ρ _ _ _ _ (fun w z v3 B3 H3 g3 r3 => ⟨_, _, _, rfl, ?_⟩) (fun _ z => z.sr ((s.gr g1).gr g2)) z)
  exact z _ B3 H3 (((s.setS g1 r1).setS g2 r2).setS g3 r3)
end

section
variable {X : Cx} {Z : Kx} {E : XS} {e : Expr} {pos apos cpos : Pos} {B0 F B H : Hp} {ρ : Env} {σ : St} {D : Ends}
def gL (ρ : Env) (i : Nat) : Wp (List Dt) := match ρ[i]? with
  | some (.ol xs) => .ret xs
  | _ => .bad
def gD (ρ : Env) (i : Nat) : Wp (List (Key × Dt)) := match ρ[i]? with
  | some (.od xs) => .ret xs
  | _ => .bad
theorem mn_gL {ρ : Env} {i : Nat} : Mn (gL ρ i) := by
  unfold gL; split <;> first | exact mn_ret | exact mn_bad
theorem mn_gD {ρ : Env} {i : Nat} : Mn (gD ρ i) := by
  unfold gD; split <;> first | exact mn_ret | exact mn_bad
theorem gL_at {ρ : Env} {i : Nat} {Q : List Dt → Prop} {E : Xn → Prop} (h : gL ρ i Q E) : ∃ xs, ρ[i]? = some (.ol xs) ∧ Q xs := by
  unfold gL at h
  cases e : ρ[i]? with
  | none => rw [e] at h; exact h.elim
  | some s =>
    rw [e] at h
    cases s with
    | ol xs => exact ⟨xs, rfl, h⟩
    | _ => exact h.elim
theorem gD_at {ρ : Env} {i : Nat} {Q : List (Key × Dt) → Prop} {E : Xn → Prop} (h : gD ρ i Q E) : ∃ xs, ρ[i]? = some (.od xs) ∧ Q xs := by
  unfold gD at h
  cases e : ρ[i]? with
  | none => rw [e] at h; exact h.elim
  | some s =>
    rw [e] at h
    cases s with
    | od xs => exact ⟨xs, rfl, h⟩
    | _ => exact h.elim
/-- x.append(e), x an owned list -/
theorem ms_append (i : Nat) {x : Str} {xp : Pos} {m : Env → Wp Dt} (he : ME X E e m) (hN : X.N[i]? = some x := by rfl) (hv : Vis X.env.scope x := by first | exact Or.inl rfl | exact Or.inr (Or.inl rfl) | exact Or.inr (Or.inr rfl)) (hd : (x == ("__debug__" : Str)) = false := by decide) (hcd : (x == ("__classdict__" : Str)) = false := by decide)
    (hst : starEach (e :: []) X.env = (false, eval e X.env) :: starEach [] X.env := by rfl)
    (hbase : attributeBase (.Name x xp) "append" X.env (eval (.Name x xp) X.env) = eval (.Name x xp) X.env := by rfl)
    (hfew : ((backTo cpos (starEach (e :: []) X.env)).all (fun x => !x.1) && (backToKw cpos (keywordEach [] X.env)).all (fun x => x.1.isSome)
      && decide ((e :: []).length + ([] : List Keyword).length + (if ([] : List Keyword).isEmpty then 0 else 1) < 30)) = true := by rfl)
    (hline : (apos.endLine == cpos.line) = true := by rfl)
    (hs : swapsWith (.Call (.Attribute (.Name x xp) "append" apos) [e] [] cpos) none pos.line X.env = pure false := by rfl) :
    MS X E (.Expr (.Call (.Attribute (.Name x xp) "append" apos) [e] [] cpos) pos) (fun ρ => (gL ρ i).bind fun xs => (m ρ).bind fun d => .gd (xs.length < sizeLine) (.ret (.nx (ρ.set i (.ol (xs ++ [d])))))) := by
  obtain ⟨t, p, v⟩ := he
  refine ⟨_, ps_expr (pe_bm PySem.F.plainAttrs_list PySem.F.slot_list_append PySem.F.type_list_append mt_append (pe_var hN hv hd hcd) (pa_cons p pa_nil hst) hbase hfew hline hst rfl) hs, fun ρ => mn_bind mn_gL fun _ => mn_bind (v.mn ρ) fun d => mn_gd mn_ret, fun B0 F ρ σ B H D s q => ?_⟩
  obtain ⟨xs, ei, q⟩ := gL_at q
  obtain ⟨a, vs, ea, ha, ra, nb⟩ := s.getL ei
  refine ⟨_, ea, .inl ⟨rfl, vs, .inl (.inl ha)⟩, v.run B0 F ρ σ B H _ s (v.mn ρ _ _ _ _ (fun d z u B1 H1 g r => ?_) (fun _ z => z.sr s) q)⟩
  have s1 := s.gr g
  obtain ⟨h1, n1⟩ := g.h a _ nb ha
  exact ⟨a, vs, u, rfl, rfl, h1, by rw [ra.len]; exact z.1, z.2 σ B1 _ (s1.mutL ei ea ((ra.ex g.b).app (.one r)))⟩
/-- d[k] = e, d an owned dict -/
def putD (kvs : List (Key × Dt)) (k : Key) (d : Dt) : List (Key × Dt) := if (kvs.any fun kv => decide (kv.1 = k)) = true then kvs.map (fun kv => if kv.1 = k then (kv.1, d) else kv) else kvs ++ [(k, d)]
theorem RpKv.any : ∀ {vs : List (Key × V)} {xs : List (Key × Dt)}, RpKv Z B vs xs → ∀ k : Key, (vs.any fun kv => decide (kv.1 = k)) = (xs.any fun kv => decide (kv.1 = k))
  | _, _, .nil, _ => rfl
  | _, _, .cons a r, k => by simp only [List.any_cons]; rw [r.any k]
theorem RpKv.repl : ∀ {vs : List (Key × V)} {xs : List (Key × Dt)}, RpKv Z B vs xs → ∀ {k : Key} {v : V} {d : Dt}, Rp Z B v d → RpKv Z B (vs.map fun kv => if kv.1 = k then (kv.1, v) else kv) (xs.map fun kv => if kv.1 = k then (kv.1, d) else kv)
  | _, _, .nil, _, _, _, _ => .nil
  | _, _, .cons (k := j) a r, k, v, d, q => by
    simp only [List.map_cons]
    by_cases e : j = k
    · rw [if_pos e, if_pos e]; exact .cons q (r.repl q)
    · rw [if_neg e, if_neg e]; exact .cons a (r.repl q)
theorem RpKv.app : ∀ {vs ws : List (Key × V)} {xs ys : List (Key × Dt)}, RpKv Z B vs xs → RpKv Z B ws ys → RpKv Z B (vs ++ ws) (xs ++ ys)
  | _, _, _, _, .nil, s => s
  | _, _, _, _, .cons a r, s => .cons a (r.app s)
theorem RpKv.put {vs : List (Key × V)} {xs : List (Key × Dt)} (r : RpKv Z B vs xs) {k : Key} {v : V} {d : Dt} (q : Rp Z B v d) : RpKv Z B (putK vs k v) (putD xs k d) := by
  unfold putK putD
  rw [r.any k]
  split
  · exact r.repl q
  · exact r.app (.cons q .nil)
theorem ms_dput (i : Nat) {x : Str} {xp sp : Pos} {ke : Expr} {mk m : Env → Wp Dt} (hu : X.A.units + 65 < cLine) (he : ME X E e m) (hk : ME X E ke mk) (hN : X.N[i]? = some x := by rfl) (hv : Vis X.env.scope x := by first | exact Or.inl rfl | exact Or.inr (Or.inl rfl) | exact Or.inr (Or.inr rfl)) (hd : (x == ("__debug__" : Str)) = false := by decide) (hcd : (x == ("__classdict__" : Str)) = false := by decide)
    (hs : swapsWith e (some (.Subscript (.Name x xp) ke sp)) pos.line X.env = pure false := by rfl) :
    MS X E (.Assign [.Subscript (.Name x xp) ke sp] e pos) (fun ρ => (m ρ).bind fun d => (gD ρ i).bind fun kvs => (mk ρ).bind fun k => (ofO (keyD k)).bind fun k => .gd (kvs.length < sizeLine) (.ret (.nx (ρ.set i (.od (putD kvs k d)))))) := by
  obtain ⟨t, p, v⟩ := he
  obtain ⟨tk, pk, vk⟩ := hk
  refine ⟨_, ps_dput (by omega) (pe_var hN hv hd hcd) pk p hs, fun ρ => mn_bind (v.mn ρ) fun _ => mn_bind mn_gD fun _ => mn_bind (vk.mn ρ) fun _ => mn_bind (mn_ofO _) fun _ => mn_gd mn_ret, fun B0 F ρ σ B H D s q => ?_⟩
  refine v.run B0 F ρ σ B H _ s (v.mn ρ _ _ _ _ (fun d z u B1 H1 g1 r1 => ?_) (fun _ z => z.sr s) q)
  obtain ⟨kvs, ei, z⟩ := gD_at z
  have s1 := s.gr g1
  obtain ⟨a, vs, ea, ha, ra, nb⟩ := s1.getD ei
  refine ⟨_, ea, vk.run B0 F ρ σ B1 H1 _ s1 (vk.mn ρ _ _ _ _ (fun kd z w B2 H2 g2 r2 => ?_) (fun _ z => z.sr s1) z)⟩
  have s2 := s1.gr g2
  obtain ⟨h2, n2⟩ := g2.h a _ nb ha
  dsimp only at z
  cases hk : keyD kd with
  | none => rw [hk] at z; exact z.elim
  | some k =>
    rw [hk] at z
    rw [(Rq.fz (H := H2) r2).key hk]
    exact ⟨a, _, rfl, DPut.k (k := k) h2 (by rw [ra.len]; exact z.1), z.2 σ B2 _ (s2.mutD ei ea ((ra.ex g2.b).put (r1.ex g2.b)))⟩
/-- what is owned is frozen, ahead of a statement -/
def fzS (i : Nat) (ρ : Env) : Env := match ρ[i]? with
  | some (.ol xs) => ρ.set i (.fz (.lst xs))
  | some (.od xs) => ρ.set i (.fz (.dct xs))
  | _ => ρ
theorem SR.fzS (s : SR Z B0 F ρ σ B H) (i : Nat) : (∃ B', Ex B B' ∧ SR Z B0 F (fzS i ρ) σ B' H) ∨ ∃ a vs, σ[i]? = some (some (.ref a)) ∧ H a = some (.dK vs) ∧ ∀ ob, ∃ B', Ex B B' ∧ SR Z B0 F (fzS i ρ) σ B' (upd H a (.frz ob (.dK vs))) := by
  unfold Mv.fzS
  cases e : ρ[i]? with
  | none => exact .inl ⟨B, .refl _, s⟩
  | some x =>
    cases x with
    | ol xs => exact .inl (s.fzL e)
    | od xs => exact .inr (s.fzD e)
    | no => exact .inl ⟨B, .refl _, s⟩
    | oo _ _ _ => exact .inl ⟨B, .refl _, s⟩
    | oa _ _ => exact .inl ⟨B, .refl _, s⟩
    | sto _ => exact .inl ⟨B, .refl _, s⟩
    | clo _ _ => exact .inl ⟨B, .refl _, s⟩
    | fz d => exact .inl ⟨B, .refl _, s⟩
theorem evs_fz {t : TS} {m : Env → Wp Fl} (i : Nat) (h : EvS Z E t m) : EvS Z E (tLkS i t) (fun ρ => m (fzS i ρ)) := by
  refine ⟨fun ρ => h.mn _, fun B0 F ρ σ B H D s q => ?_⟩
  rcases s.fzS i with ⟨B', _, s'⟩ | ⟨a, vs, e1, e2, z⟩
  · exact .inl (h.run B0 F _ σ B' H D s' q)
  · exact .inr ⟨a, vs, e1, e2, fun ob => let ⟨B', _, s'⟩ := z ob; h.run B0 F _ σ B' _ D s' q⟩
theorem mss_fz {sts : List Stmt} {m : Env → Wp Fl} (i : Nat) (h : MSs X E sts m) : MSs X E sts (fun ρ => m (fzS i ρ)) := let ⟨_, p, v⟩ := h; ⟨_, pss_lkS i p, evs_fz i v⟩
end

/-- a walk over xs, as long as B1 is part of the frozen -/
def WalkD (Z : Kx) (J : It) (B1 : Hp) (xs : List Dt) : Prop := ∃ (G : Hp → Prop) (Y : Nat → Hp → V → Hp → Prop), Walk J xs.length G Y ∧ (∀ B' H', Ex B1 B' → Ex B' H' → G H') ∧
  ∀ i H x H' B', i < xs.length → Ex B1 B' → Ex B' H → Y i H x H' → ∃ B'' d, xs[i]? = some d ∧ Gr B' H B'' H' ∧ Rp Z B'' x d
structure EvI (Z : Kx) (E : XS) (wi : TI) (m : Env → Wp (List Dt)) : Prop where
  mn : ∀ ρ, Mn (m ρ)
  run : ∀ B0 F ρ σ B H (R : It → Hp → Prop), SR Z B0 F ρ σ B H → m ρ (fun xs => ∀ J B1 H1, Gr B H B1 H1 → WalkD Z J B1 xs → R J H1) (PostX Z B H (E σ)) → wi σ H R
def MI (X : Cx) (E : XS) (tg it : Expr) (m : Env → Wp (List Dt)) : Prop := ∃ wi, PI X tg it wi ∧ EvI (kx X) E wi m
section
variable {X : Cx} {Z : Kx} {E : XS} {e tg : Expr} {pos p : Pos} {B0 F B H : Hp} {ρ : Env} {σ : St} {D : Ends}
theorem walkD_at {J : It} {vs : List V} {xs : List Dt} {G : Hp → Prop} (w : Walk J vs.length G (YAt vs)) (hG : ∀ B' H', Ex B B' → Ex B' H' → G H') (r : RpAll Z B vs xs) : WalkD Z J B xs := by
  rw [r.len] at w
  refine ⟨G, _, w, hG, fun i H x H' B' hi e1 e2 y => ?_⟩
  obtain ⟨rfl, hx⟩ := y
  cases hd : xs[i]? with
  | none => rw [List.getElem?_eq_none_iff] at hd; omega
  | some d =>
    obtain ⟨v, hv, rv⟩ := r.at hd
    rw [hx] at hv; cases hv
    exact ⟨B', d, rfl, Gr.refl e2, rv.ex e1⟩
def itT : Dt → Wp (List Dt)
  | .tup xs => .ret xs
  | _ => .bad
theorem RpAll.ints (ns : List Int) : RpAll Z B (ns.map V.int) (ns.map Dt.int) := by
  induction ns with
  | nil => exact .nil
  | cons n ns ih => exact .cons (.int n) ih
/-- range(n), range(a, b) -/
def rgD (lo : Int) (n : Nat) : List Dt := (List.range n).map fun i => .int (lo + (i : Nat))
theorem walkD_rg {lo : Int} {n : Nat} : WalkD Z (Itr lo n) B (rgD lo n) := by
  have e : (rgD lo n).length = n := by simp [rgD]
  refine ⟨fun _ => True, _, by rw [e]; exact walk_range, fun _ _ _ _ => trivial, fun i H x H' B' hi e1 e2 y => ?_⟩
  obtain ⟨rfl, rfl⟩ := y
  rw [e] at hi
  exact ⟨B', .int (lo + i), by simp [rgD, hi], Gr.refl e2, .int _⟩
def itR1 : List Dt → Wp (List Dt)
  | [.int j] => .gd (-(2 ^ 62) ≤ j ∧ j < 2 ^ 62) (.ret (rgD 0 j.toNat))
  | _ => .bad
def itR2 : List Dt → Wp (List Dt)
  | [.int i, .int j] => .gd (-(2 ^ 62) ≤ i ∧ i < 2 ^ 62 ∧ -(2 ^ 62) ≤ j ∧ j < 2 ^ 62) (.ret (rgD i (j - i).toNat))
  | _ => .bad
theorem mi_range1 {a : Expr} {n : Nat} {m : Env → Wp (List Dt)} (hg : Gl X "range") (hm : X.mg "range" = none) (ha : MAn X E [a] n m) (hs : starEach [a] X.env = [(false, eval a X.env)] := by rfl) : MI X E tg (.Call (.Name "range" p) [a] [] pos) (fun ρ => (m ρ).bind itR1) := by
  obtain ⟨⟨t, pa, v⟩, _⟩ := ha
  refine ⟨_, pi_range1 hg hm pa hs, fun ρ => mn_bind (v.mn ρ) fun ds => by unfold itR1; split <;> first | exact mn_gd mn_ret | exact mn_bad, fun B0 F ρ σ B H R s q => v.run B0 F ρ σ B H _ s (v.mn ρ _ _ _ _ (fun d z us B1 H1 g r => ?_) (fun _ z => z) q)⟩
  unfold itR1 at z
  split at z
  · cases r with
    | cons a r => cases a; cases r; exact ⟨_, rfl, z.1.1, z.1.2, z.2 _ B1 H1 g walkD_rg⟩
  · exact z.elim
/-- a text, sign by sign -/
def sgs (z : Str) : List Dt := z.cps.toList.map fun c => .str ⟨#[c]⟩
end

def forL (body : Dt → Env → Wp Fl) : List Dt → Env → Wp Fl
  | [], ρ => .ret (.nx ρ)
  | x :: xs, ρ => (body x ρ).bind fun f => match f with
    | .nx ρ' => forL body xs ρ'
    | .ct ρ' => forL body xs ρ'
    | .bk ρ' => .ret (.nx ρ')
    | .rt d => .ret (.rt d)
    | .rs d S => .ret (.rs d S)
theorem mn_forL {body : Dt → Env → Wp Fl} (h : ∀ x ρ, Mn (body x ρ)) : ∀ (xs : List Dt) (ρ : Env), Mn (forL body xs ρ)
  | [], ρ => mn_ret
  | x :: xs, ρ => mn_bind (h x ρ) fun f => by cases f <;> first | exact mn_forL h xs _ | exact mn_ret
section
variable {X : Cx} {Z : Kx} {E : XS} {e tg it : Expr} {body : List Stmt} {pos p : Pos} {B0 F B H : Hp} {ρ : Env} {σ : St} {D : Ends}
theorem evs_for {wi : TI} {g : TG} {tb : TS} {mi : Env → Wp (List Dt)} {mg : Dt → Env → Wp Env} {mb : Env → Wp Fl} (hi : EvI Z E wi mi) (hg : EvG Z g mg) (hb : EvS Z E tb mb) :
    EvS Z E (tFor wi g tb) (fun ρ => (mi ρ).bind fun xs => forL (fun x ρ => (mg x ρ).bind mb) xs ρ) := by
  have hM : ∀ x ρ, Mn ((mg x ρ).bind mb) := fun x ρ => mn_bind (hg.mn x ρ) hb.mn
  refine ⟨fun ρ => mn_bind (hi.mn ρ) fun xs => mn_forL hM xs ρ, fun B0 F ρ σ B H D s q => ?_⟩
  refine hi.run B0 F ρ σ B H _ s (hi.mn ρ _ _ _ _ (fun xs z J B1 H1 g1 w => ?_) (fun _ z => z.sr s) q)
  obtain ⟨G, Y, w, hG, hY⟩ := w
  obtain ⟨F', s0, bg, back, bgF⟩ := (s.gr g1).rootF
  refine for_it w (fun i σ' H' => ∃ ρ' B', SR Z B1 F' ρ' σ' B' H' ∧ forL (fun x ρ => (mg x ρ).bind mb) (xs.drop i) ρ' (PostS Z B0 F D) (PostXs Z B0 F E)) ⟨ρ, B1, s0, z⟩ (fun i σ' H' _ ⟨ρ', B', s', _⟩ => hG B' H' s'.ex s'.bh) ?_ ?_
  · rintro i x σ' H' H'' hlt ⟨ρ', B', s', z'⟩ y
    obtain ⟨B2, d, hd, g2, r2⟩ := hY i H' x H'' B' hlt s'.ex s'.bh y
    have ed : xs.drop i = d :: xs.drop (i + 1) := by
      rw [List.drop_eq_getElem_cons hlt]
      congr 1
      rw [List.getElem?_eq_getElem hlt] at hd
      exact Option.some.inj hd
    rw [ed] at z'
    have s2 := s'.gr g2
    refine hg.run B1 F' ρ' σ' B2 H'' x d _ _ s2 r2 (hg.mn d ρ' _ _ _ _ (fun ρ2 z2 σ2 s3 => ?_) (fun _ z => z) z')
    refine hb.run B1 F' ρ2 σ2 B2 H'' _ s3 (hb.mn ρ2 _ _ _ _ (fun f z3 => ?_) (fun x z τ c o B' H' g r => z τ c o B' H' (bg _ _ g) r) z2)
    cases f with
    | nx ρ3 => exact fun σ5 B5 H5 s5 => ⟨ρ3, B5, s5, z3⟩
    | ct ρ3 => exact fun σ5 B5 H5 s5 => ⟨ρ3, B5, s5, z3⟩
    | bk ρ3 => exact fun σ5 B5 H5 s5 => z3 σ5 B5 H5 (back _ _ _ _ s5)
    | rt d3 => exact fun v5 B5 H5 g5 r5 => z3 v5 B5 H5 (bg _ _ g5) r5
    | rs d3 S3 => exact fun v5 B5 H5 g5 r5 => z3 v5 B5 H5 (g5.root (s.gr g1).ex bg bgF) r5
  · rintro σ' H' ⟨ρ', B', s', z'⟩
    rw [List.drop_length] at z'
    exact z' σ' B' H' (back _ _ _ _ s')

theorem ms_for {mi : Env → Wp (List Dt)} {mg : Dt → Env → Wp Env} {mb : Env → Wp Fl} (hp : PassesOwn (model X.prog X.w) X.A X.env X.xe) (hc : X.calm = true) (hi : MI X E tg it mi) (hg : MG X tg mg) (hb : MSs X E body mb)
    (hs : ∀ x, foldedSetIterable it X.env x = pure x := by intro _; rfl) : MS X E (.For tg it body [] pos) (fun ρ => (mi ρ).bind fun xs => forL (fun x ρ => (mg x ρ).bind mb) xs ρ) :=
  let ⟨_, pi, vi⟩ := hi; let ⟨_, pg, vg⟩ := hg; let ⟨_, pb, vb⟩ := hb; ⟨_, ps_for hp hc pi pg pb hs, evs_for vi vg vb⟩
end

def compL (t : Env → Wp Bool) (e : Env → Wp Dt) (g : Dt → Env → Wp Env) (ρ : Env) : List Dt → List Dt → Wp (List Dt)
  | [], acc => .ret acc
  | x :: xs, acc => (g x ρ).bind fun ρ' => (t ρ').bind fun b => if b = true then (e ρ').bind fun d => .gd (acc.length < sizeLine) (compL t e g ρ xs (acc ++ [d])) else compL t e g ρ xs acc
theorem mn_compL {t : Env → Wp Bool} {e : Env → Wp Dt} {g : Dt → Env → Wp Env} {ρ : Env} (ht : ∀ ρ, Mn (t ρ)) (he : ∀ ρ, Mn (e ρ)) (hg : ∀ x ρ, Mn (g x ρ)) : ∀ xs acc : List Dt, Mn (compL t e g ρ xs acc)
  | [], _ => mn_ret
  | x :: xs, acc => mn_bind (hg x ρ) fun ρ' => mn_bind (ht ρ') fun b => by
    cases b with
    | true => simpa using mn_bind (he ρ') fun d => mn_gd (mn_compL ht he hg xs _)
    | false => simpa using mn_compL ht he hg xs acc
section
variable {X : Cx} {Z : Kx} {E : XS} {e tg it : Expr} {pos p : Pos} {B0 F B H : Hp} {ρ : Env} {σ : St} {D : Ends}
structure EvTs (Z : Kx) (E : XS) (tt : TT) (m : Env → Wp Bool) : Prop where
  ev : EvT Z E tt m
def MTs (X : Cx) (E : XS) (es : List Expr) (m : Env → Wp Bool) : Prop := ∃ tt, PTs X es tt ∧ EvT (kx X) E tt m
theorem mts_nil : MTs X E [] (fun _ => .ret true) := ⟨_, pts_nil, fun _ => mn_ret, fun B0 F ρ σ B H Q s q => q B H (Gr.refl s.bh)⟩
theorem mts_one {m : Env → Wp Bool} (h : MT X E e m) : MTs X E [e] m := let ⟨_, p, v⟩ := h; ⟨_, pts_one p, v⟩
/-- the target leaves the other slots as they were -/
structure EvW (g : TG) (vs : List Nat) : Prop where
  wp : ∀ v σ H R, g v (wipe σ vs) H R → g v (wipe σ vs) H fun σ2 H2 => wipe σ2 vs = wipe σ vs ∧ R σ2 H2
theorem wipe_set (σ : St) (i : Nat) (o : Option V) : ∀ vs : List Nat, i ∈ vs → wipe (σ.set i o) vs = wipe σ vs
  | [], h => by simp at h
  | v :: vs, h => by
    unfold wipe
    by_cases e : v = i
    · subst e
      by_cases hv : v ∈ vs
      · rw [wipe_set σ v o vs hv]
      · have : ∀ ws : List Nat, (wipe (σ.set v o) ws).set v none = (wipe σ ws).set v none := by
          intro ws
          induction ws with
          | nil => simp [wipe]
          | cons w ws ih =>
            unfold wipe
            by_cases ew : w = v
            · subst ew; rw [List.set_set, List.set_set]; exact ih
            · rw [List.set_comm _ _ ew, ih, List.set_comm _ _ (Ne.symm ew)]
        exact this vs
    · have hv : i ∈ vs := by
        rcases List.mem_cons.mp h with h | h
        · exact absurd h.symm e
        · exact h
      rw [wipe_set σ i o vs hv]
theorem wipe_wipe (σ : St) : ∀ vs ws : List Nat, (∀ v ∈ vs, v ∈ ws) → wipe (wipe σ vs) ws = wipe σ ws
  | [], ws, _ => rfl
  | v :: vs, ws, h => by
    show wipe ((wipe σ vs).set v none) ws = _
    rw [wipe_set _ v none ws (h v (by simp)), wipe_wipe σ vs ws fun x hx => h x (by simp [hx])]
structure EvC (Z : Kx) (g : TG) (vs : List Nat) (m : Dt → Env → Wp Env) : Prop where
  ev : EvG Z g m
  run : ∀ B0 F ρ σ B H (v : V) (d : Dt) (R : St → Hp → Prop) (E' : Xn → Prop), SR Z B0 F ρ σ B H → Rp Z B v d → m d ρ (fun ρ' => ∀ σ', wipe σ' vs = wipe σ vs → SR Z B0 F ρ' σ' B H → R σ' H) E' → g v σ H R
structure EvCs (Z : Kx) (n : Nat) (g : TGs) (vs : List Nat) (m : List Dt → Env → Wp Env) : Prop where
  ev : EvGs Z n g m
  run : ∀ B0 F ρ σ B H (v : List V) (d : List Dt) (R : St → Hp → Prop) (E' : Xn → Prop), SR Z B0 F ρ σ B H → RpAll Z B v d → m d ρ (fun ρ' => ∀ σ', wipe σ' vs = wipe σ vs → SR Z B0 F ρ' σ' B H → R σ' H) E' → g v σ H R
theorem evc_name (i : Nat) {vs : List Nat} (h : i ∈ vs) : EvC Z (gName i) vs (aN i) := ⟨evg_name i, fun B0 F ρ σ B H v d R E' s r q => q _ (wipe_set σ i _ vs h) (s.set r)⟩
theorem evn_lc {wi : TI} {g : TG} {tt : TT} {te : TE} {vs : List Nat} {mi : Env → Wp (List Dt)} {mg : Dt → Env → Wp Env} {mt : Env → Wp Bool} {me : Env → Wp Dt} (hi : EvI Z E wi mi) (hg : EvC Z g vs mg) (ht : EvT Z EZ tt mt) (he : Ev Z EZ te me) :
    EvN Z E (tLc wi g tt te vs) (fun ρ => (mi ρ).bind fun xs => (Wp.calm (compL mt me mg (wipeE ρ vs) xs [])).bind fun ys => .ret (.l ys)) := by
  have hM := fun (ρ : Env) => mn_compL (ρ := ρ) ht.mn he.mn hg.ev.mn
  refine ⟨fun ρ => mn_bind (hi.mn ρ) fun xs => mn_bind (mn_calm (hM _ _ _)) fun _ => mn_ret, fun B0 F ρ σ B H Q s q => ?_⟩
  refine hi.run B0 F ρ σ B H _ s (hi.mn ρ _ _ _ _ (fun xs z J B1 H1 g1 w => ?_) (fun _ z => z) q)
  obtain ⟨G, Y, w, hG, hY⟩ := w
  intro Dl nD
  have s1 := s.gr g1
  obtain ⟨F', s0, bg, back⟩ := s1.root
  have s2 : SR Z B1 F' ρ σ B1 (upd H1 Dl (.lst [])) := s0.gr (Gr.tmp s1.bh nD)
  have nF := s0.fresh nD
  refine lc_it w (fun i H' => ∃ acc ds B', H' Dl = some (.lst acc) ∧ B' Dl = none ∧ Gr B1 H1 B' H' ∧ RpAll Z B' acc ds ∧ SR Z B1 F' ρ σ B' H' ∧ compL mt me mg (wipeE ρ vs) (xs.drop i) ds (fun ys => ∀ a B' H', Gr B H B' H' → H a = none → RqN Z B' H' a (.l ys) → Q (.ref a) H') (fun _ => False))
    ⟨[], [], B1, upd_same, nF.2, Gr.tmp s1.bh nD, .nil, s2, z⟩ (fun i H' _ ⟨_, _, B', _, _, g', _, _, _⟩ => hG B' H' g'.b g'.bh) ?_ ?_
  · rintro i x H' H'' hlt ⟨acc, ds, B', hD, nB, g', ra, s', z'⟩ y
    obtain ⟨B2, d, hd, g2, r2⟩ := hY i H' x H'' B' hlt g'.b g'.bh y
    have ed : xs.drop i = d :: xs.drop (i + 1) := by
      rw [List.drop_eq_getElem_cons hlt]
      congr 1
      rw [List.getElem?_eq_getElem hlt] at hd
      exact Option.some.inj hd
    rw [ed] at z'
    have s3 := (s'.gr g2)
    have s4 := s3.wipe vs
    obtain ⟨hD2, nB2⟩ := g2.h Dl _ nB hD
    refine hg.run B1 F' _ _ B2 H'' x d _ _ s4 r2 (hg.ev.mn d _ _ _ _ _ (fun ρ2 z2 σ2 e2 s5 => ⟨by rw [e2, wipe_wipe _ _ _ fun _ h => h], ?_⟩) (fun _ z => z) z')
    refine ht.run B1 F' ρ2 σ2 B2 H'' _ s5 (ht.mn ρ2 _ _ _ _ (fun b z3 B3 H3 g3 => ?_) (fun _ z => z.elim) z2)
    have s6 := s5.gr g3
    obtain ⟨hD3, nB3⟩ := g3.h Dl _ nB2 hD2
    cases b with
    | true =>
      refine iteT (he.run B1 F' ρ2 σ2 B3 H3 _ s6 (he.mn ρ2 _ _ _ _ (fun dd z4 u B4 H4 g4 r4 => ?_) (fun _ z => z.elim) z3))
      obtain ⟨hD4, nB4⟩ := g4.h Dl _ nB3 hD3
      have gg : Gr B' H' B4 H4 := (g2.trans g3).trans g4
      have ra4 := ra.ex gg.b
      have s7 : SR Z B1 F' ρ σ B4 H4 := s'.gr gg
      have nodl : Gr B1 H1 B4 (upd H4 Dl (.lst (acc ++ [u]))) := by
        have gA := g'.trans gg
        refine ⟨gA.b, gA.bh.put nB4, fun a o n h => ?_⟩
        rw [upd_ne (ne_of_none h nD)]
        exact gA.h a o n h
      refine ⟨acc, hD4, by rw [ra.len]; exact z4.1, acc ++ [u], ds ++ [dd], B4, upd_same, nB4, nodl, ra4.app (.one r4), ?_, z4.2⟩
      exact s0.gr nodl
    | false =>
      have gg : Gr B' H' B3 H3 := g2.trans g3
      exact iteF ⟨acc, ds, B3, hD3, nB3, g'.trans gg, ra.ex gg.b, s'.gr gg, z3⟩
  · rintro H' ⟨acc, ds, B', hD, nB, g', ra, s', z'⟩
    rw [List.drop_length] at z'
    exact z' Dl B' H' (g1.trans g') (g1.no s.bh nD) (.l hD ra nB)
/-- one reading for a family of contexts -/
theorem uniE {ι : Type} (Xs : ι → Cx) (i0 : ι) (hZ : ∀ i, kx (Xs i) = Z) {m : Env → Wp Dt} (h : ∀ i, ME (Xs i) E e m) : ∃ te, (∀ i, PE (Xs i) e te) ∧ Ev Z E te m := by
  refine ⟨fun σ H Q => ∀ i pins s, Inv (Xs i) pins σ H s → wpAny (model (Xs i).prog (Xs i).w) (Xs i).A (eval e (Xs i).env) (EP (Xs i) pins σ Q) (Xs i).xe s, fun i => ⟨fun pins s σ H Q I q => q i pins s I⟩, ⟨?_, ?_⟩⟩
  · obtain ⟨_, _, v⟩ := h i0
    exact v.mn
  · intro B0 F ρ σ B H Q s q i pins sh I
    obtain ⟨te, p, v⟩ := h i
    rw [hZ i] at v
    exact p.run pins sh σ H Q I (v.run B0 F ρ σ B H Q s q)
theorem uniT {ι : Type} (Xs : ι → Cx) (i0 : ι) (hZ : ∀ i, kx (Xs i) = Z) {es : List Expr} {m : Env → Wp Bool} (h : ∀ i, MTs (Xs i) E es m) : ∃ tt, (∀ i, PTs (Xs i) es tt) ∧ EvT Z E tt m := by
  refine ⟨fun σ H Q => ∀ i pins s, Inv (Xs i) pins σ H s → wpAny (model (Xs i).prog (Xs i).w) (Xs i).A (forIn es true fun c r => if r = true then do let ok ← isTrue c (Xs i).env (eval c (Xs i).env); pure (ForInStep.yield ok) else pure (ForInStep.yield r)) (TP (Xs i) pins σ Q) (Xs i).xe s, fun i => ⟨fun pins s σ H Q I q => q i pins s I⟩, ⟨?_, ?_⟩⟩
  · obtain ⟨_, _, v⟩ := h i0
    exact v.mn
  · intro B0 F ρ σ B H Q s q i pins sh I
    obtain ⟨te, p, v⟩ := h i
    rw [hZ i] at v
    exact p.run pins sh σ H Q I (v.run B0 F ρ σ B H Q s q)
theorem mn_lc {scope : Scope} {own : List (Str × Nat)} {ifs : List Expr} {elt : Expr} {g : TG} {mi : Env → Wp (List Dt)} {mg : Dt → Env → Wp Env} {mt : Env → Wp Bool} {me : Env → Wp Dt} (hc : X.calm = true) (hN : X.N.Nodup) (hi : MI X E tg it mi) (ok : BlkOk X.N X.env.scope scope own)
    (hg : ∀ (s : Shared) (H : Hp) (C : Addr) (cl : List (Str × Addr)) (fp : List Addr), PG (X.blk s H scope (compEnvC scope cl C X.env) fp) tg g) (hgv : EvC (kx X) g (own.map (·.2)) mg)
    (ht : ∀ (s : Shared) (H : Hp) (C : Addr) (cl : List (Str × Addr)) (fp : List Addr), MTs (X.blk s H scope (compEnvC scope cl C X.env) fp) EZ ifs mt)
    (he : ∀ (s : Shared) (H : Hp) (C : Addr) (cl : List (Str × Addr)) (fp : List Addr), ME (X.blk s H scope (compEnvC scope cl C X.env) fp) EZ elt me)
    (hs : ∀ x, foldedSetIterable it X.env x = pure x := by intro _; rfl) :
    MN X E (.ListComp elt [⟨tg, it, ifs, 0⟩] scope pos) (fun ρ => (mi ρ).bind fun xs => (Wp.calm (compL mt me mg (wipeE ρ (own.map (·.2))) xs [])).bind fun ys => .ret (.l ys)) := by
  obtain ⟨wi, pi, vi⟩ := hi
  obtain ⟨tt, pt, vt⟩ := uniT (Z := kx X) (fun i : Shared × Hp × Addr × List (Str × Addr) × List Addr => X.blk i.1 i.2.1 scope (compEnvC scope i.2.2.2.1 i.2.2.1 X.env) i.2.2.2.2) (X.s_0, X.H_0, 0, [], []) (fun _ => rfl) fun i => ht _ _ _ _ _
  obtain ⟨te, pe, ve⟩ := uniE (Z := kx X) (fun i : Shared × Hp × Addr × List (Str × Addr) × List Addr => X.blk i.1 i.2.1 scope (compEnvC scope i.2.2.2.1 i.2.2.1 X.env) i.2.2.2.2) (X.s_0, X.H_0, 0, [], []) (fun _ => rfl) fun i => he _ _ _ _ _
  exact ⟨_, pe_lc hc hN pi ok hg (fun s H C cl fp => pt (s, H, C, cl, fp)) (fun s H C cl fp => pe (s, H, C, cl, fp)) hs, evn_lc vi hgv vt ve⟩
theorem ms_setLc (i : Nat) {y : Str} {py spos : Pos} {scope : Scope} {own : List (Str × Nat)} {ifs : List Expr} {elt : Expr} {g : TG} {mi : Env → Wp (List Dt)} {mg : Dt → Env → Wp Env} {mt : Env → Wp Bool} {me : Env → Wp Dt} (hc : X.calm = true) (hN : X.N.Nodup) (hi : MI X E tg it mi) (ok : BlkOk X.N X.env.scope scope own)
    (hg : ∀ (s : Shared) (H : Hp) (C : Addr) (cl : List (Str × Addr)) (fp : List Addr), PG (X.blk s H scope (compEnvC scope cl C X.env) fp) tg g) (hgv : EvC (kx X) g (own.map (·.2)) mg)
    (ht : ∀ (s : Shared) (H : Hp) (C : Addr) (cl : List (Str × Addr)) (fp : List Addr), MTs (X.blk s H scope (compEnvC scope cl C X.env) fp) EZ ifs mt)
    (he : ∀ (s : Shared) (H : Hp) (C : Addr) (cl : List (Str × Addr)) (fp : List Addr), ME (X.blk s H scope (compEnvC scope cl C X.env) fp) EZ elt me)
    (hsw : swapsWith (.ListComp elt [⟨tg, it, ifs, 0⟩] scope pos) (some (.Name y py)) spos.line X.env = pure true)
    (hs : ∀ x, foldedSetIterable it X.env x = pure x := by intro _; rfl) (hy : X.N[i]? = some y := by rfl) (hyl : X.env.scope.names.lookup y = some .local := by rfl) :
    MS X E (.Assign [.Name y py] (.ListComp elt [⟨tg, it, ifs, 0⟩] scope pos) spos) (fun ρ => (((mi ρ).bind fun xs => (Wp.calm (compL mt me mg (wipeE ρ (own.map (·.2))) xs [])).bind fun ys => .ret (Nw.l ys)).bind fun (d : Nw) => .ret d.sl).bind fun x => .ret (.nx (ρ.set i x))) := by
  obtain ⟨wi, pi, vi⟩ := hi
  obtain ⟨tt, pt, vt⟩ := uniT (Z := kx X) (fun i : Shared × Hp × Addr × List (Str × Addr) × List Addr => X.blk i.1 i.2.1 scope (compEnvC scope i.2.2.2.1 i.2.2.1 X.env) i.2.2.2.2) (X.s_0, X.H_0, 0, [], []) (fun _ => rfl) fun i => ht _ _ _ _ _
  obtain ⟨te, pe, ve⟩ := uniE (Z := kx X) (fun i : Shared × Hp × Addr × List (Str × Addr) × List Addr => X.blk i.1 i.2.1 scope (compEnvC scope i.2.2.2.1 i.2.2.1 X.env) i.2.2.2.2) (X.s_0, X.H_0, 0, [], []) (fun _ => rfl) fun i => he _ _ _ _ _
  exact ⟨_, ps_setLc hc hN hy hyl hsw pi ok hg (fun s H C cl fp => pt (s, H, C, cl, fp)) (fun s H C cl fp => pe (s, H, C, cl, fp)) hs, evs_set i (evn_lc vi hgv vt ve).x⟩
end

def finW : Fl → Wp Dt
  | .nx _ => .ret .non
  | .rt d => .ret d
  | _ => .bad
def fnWp (n : Nat) (mb : Env → Wp Fl) (ds : List Dt) : Wp Dt := (mb (ds.map Sl.fz ++ List.replicate (n - ds.length) .no)).bind finW
section
variable {P : Program} {w : World} {K : PySem.W.Frag} {mg : Str → Option Value} {base : Heap} {x qual : Str} {params : Arguments} {body : List Stmt} {scope : Scope} {dvs : List V} {kws : List (Str × V)} {f : Addr} {fd : FuncData} {N ps : List Str} {k : Nat}
end
end Mv

namespace Mv
open PySem L2
theorem _root_.L2.Room.u65 {k : Nat} {A : Around} (r : Room k A) : A.units + 65 < cLine := by have := r.un; omega
section
variable {X : Cx} {Z : Kx} {E : XS} {e tg : Expr} {es : List Expr} {x : Str} {p pos : Pos} {k n : Nat} {B H : Hp}
/-- list + list, something new -/
def addN : Dt → Dt → Wp Nw
  | .lst a, .lst b => .gd (a.length + b.length ≤ sizeLine) (.ret (.l (a ++ b)))
  | _, _ => .bad
theorem mn_addN (x y : Dt) : Mn (addN x y) := by
  unfold addN; split <;> first | exact mn_gd mn_ret | exact mn_bad
theorem mn_add {a b : Expr} {ma mb : Env → Wp Dt} (ha : MR X E a ma) (hb : MR X E b mb) : MN X E (.BinOp a .Add b pos) (fun ρ => (ma ρ).bind fun x => (mb ρ).bind fun y => addN x y) := by
  obtain ⟨ta, pa, va⟩ := ha
  obtain ⟨tb, pb, vb⟩ := hb
  refine ⟨_, pe_op op_cat pa pb, fun ρ => mn_bind (va.mn ρ) fun _ => mn_bind (vb.mn ρ) fun _ => mn_addN _ _, fun B0 F ρ σ B H Q s q => ?_⟩
  refine va.run B0 F ρ σ B H _ s (va.mn ρ _ _ _ _ (fun x k u B1 H1 g1 r1 => ?_) (fun _ z => z) q)
  refine vb.run B0 F ρ σ B1 H1 _ (s.gr g1) (vb.mn ρ _ _ _ _ (fun y k v B2 H2 g2 r2 => ?_) (fun x z => z.gr g1) k)
  have g := g1.trans g2
  cases x with
  | lst xs =>
    cases y with
    | lst ys =>
      obtain ⟨a, vs, rfl, ha, ra⟩ := (r1.gr g2).lst g.bh
      obtain ⟨b, ws, rfl, hb, rb⟩ := r2.lst g.bh
      exact ⟨a, b, vs, ws, rfl, rfl, ha, hb, by rw [ra.len, rb.len]; exact k.1, fun p n => k.2 p B2 _ (g.trans (Gr.tmp g.bh n)) (g.no s.bh n) (.l upd_same (ra.app rb) (g.bh.no n))⟩
    | _ => exact k.elim
  | _ => exact k.elim
def iAny (K : PySem.W.Frag) (tl : TE) : TI := fun σ H R => tl σ H fun x H1 => ((∃ a, x = .ref a ∧ (∃ xs, SqL K H1 a xs) ∧ R (Itl K a) H1) ∨ (∃ a, x = .ref a ∧ (∃ xs, SqT K H1 a xs) ∧ R (Itt K a) H1)) ∨ (∃ z, x = .str z ∧ R (Its z) H1) ∨ ∃ d o kvs, x = .ref d ∧ H1 d = some (.frz o (.dK kvs)) ∧ R (Itk d o kvs) H1
theorem PI.of_val {l : Expr} {tl : TE} (hl : PE X l tl) {wi : V → Hp → (It → Hp → Prop) → Prop}
    (h : ∀ (pins : List (Addr × Obj)) (s : Shared) (σ : St) (H : Hp) (x : V) (v : Value) (R : It → Hp → Prop), Inv X pins σ H s → RelV x v → wi x H R → wpAny (model X.prog X.w) X.A (pyIter v) (PIE X pins σ tg R) X.xe s) : PI X tg l (fun σ H R => tl σ H fun x H1 => wi x H1 R) :=
  ⟨fun pins s σ H R I q => thn (hl.run pins s σ H _ I q) fun v s1 ⟨x, H1, I1, r1, q1⟩ => h pins s1 σ H1 x v R I1 r1 q1⟩
theorem pi_any {l : Expr} {tl : TE} (hl : PE X l tl) : PI X tg l (iAny X.K tl) := by
  refine PI.of_val (wi := fun x H1 R => ((∃ a, x = .ref a ∧ (∃ xs, SqL X.K H1 a xs) ∧ R (Itl X.K a) H1) ∨ (∃ a, x = .ref a ∧ (∃ xs, SqT X.K H1 a xs) ∧ R (Itt X.K a) H1)) ∨ (∃ z, x = .str z ∧ R (Its z) H1) ∨ ∃ d o kvs, x = .ref d ∧ H1 d = some (.frz o (.dK kvs)) ∧ R (Itk d o kvs) H1) hl fun pins s σ H x v R I r q => ?_
  rcases q with (⟨a, rfl, ⟨xs, hq⟩, q⟩ | ⟨a, rfl, ⟨xs, hq⟩, q⟩) | ⟨z, rfl, q⟩ | ⟨d, o, kvs, rfl, hd, q⟩
  · cases r
    obtain ⟨its, rv, p, hz⟩ := I.list hq
    exact wpAny_pyIter_list p.isList (pi_one (tk := s.toks) I _ (turn_list a _) ⟨_, Heap.get?_push_size _ rfl, rfl, rfl⟩ q)
  · cases r
    obtain ⟨its, rv, p, hz⟩ := I.tuple hq
    exact wpAny_pyIter_tuple (show s.heap.IsTuple a its.toArray from p) (pi_one (tk := s.toks) I _ (turn_tuple a _) ⟨_, Heap.get?_push_size _ rfl, rfl, rfl⟩ q)
  · obtain ⟨t, rfl⟩ := r
    cases ha : z.cps.all (· < 128)
    · exact wpAny_pyIter_wide ha (pi_one (tk := s.toks) I _ (turn_str _ z t "str_iterator" (.inr rfl)) ⟨_, Heap.get?_push_size _ rfl, rfl, rfl⟩ q)
    · exact wpAny_pyIter_ascii ha (pi_one (tk := s.toks) I _ (turn_str _ z t "str_ascii_iterator" (.inl rfl)) ⟨_, Heap.get?_push_size _ rfl, rfl, rfl⟩ q)
  · cases r
    obtain ⟨hs, hgd, hx, es, ep, vs, hdt, hsz, kv, hm⟩ := I.frzK hd
    refine iter_keys hs hgd hx hdt (pi_one (tk := s.toks) I _ (turn_keys _ hdt) ⟨_, Heap.get?_push_size _ rfl, rfl, ?_⟩ q)
    rw [hsz] <;> rfl
def keyDt (k : Key) : Dt := match k with
  | .inl i => .int i
  | .inr x => .str x
theorem rp_key {k : Key} : Rp Z B (kV k) (keyDt k) := by
  cases k with
  | inl i => exact .int i
  | inr x => exact .str x
def itA : Dt → Wp (List Dt)
  | .lst xs => .ret xs
  | .tup xs => .ret xs
  | .scr ns => .ret (ns.map Dt.int)
  | .str z => .ret (sgs z)
  | .dct kvs => .ret (kvs.map fun kv => keyDt kv.1)
  | _ => .bad
theorem RpKv.keyAt : ∀ {vs : List (Key × V)} {xs : List (Key × Dt)}, RpKv Z B vs xs → ∀ {i : Nat} {k : Key} {v : V}, vs[i]? = some (k, v) → xs[i]?.map (·.1) = some k
  | _, _, .nil, i, k, v, h => by simp at h
  | _, _, .cons a r, 0, k, v, h => by simp at h; simp [h.1]
  | _, _, .cons a r, i + 1, k, v, h => by simpa using r.keyAt (i := i) (by simpa using h)
theorem mi_any {m : Env → Wp Dt} (h : ME X E e m) : MI X E tg e (fun ρ => (m ρ).bind itA) := by
  obtain ⟨t, p, v⟩ := h
  refine ⟨_, pi_any p, fun ρ => mn_bind (v.mn ρ) fun d => by cases d <;> first | exact mn_ret | exact mn_bad, fun B0 F ρ σ B H R s q => v.run B0 F ρ σ B H _ s (v.mn ρ _ _ _ _ (fun d z u B1 H1 g r => ?_) (fun _ z => z) q)⟩
  cases d with
  | lst xs =>
    cases r with
    | lst ha ra => exact .inl (.inl ⟨_, rfl, ⟨_, .inl (.inl (g.bh _ _ ha))⟩, z _ B1 H1 g (walkD_at walk_list (fun B' H' e1 e2 => .inl (.inl (e2 _ _ (e1 _ _ ha)))) ra)⟩)
  | scr ns =>
    cases r with
    | scr ha => exact .inl (.inl ⟨_, rfl, ⟨_, g.bh.lg.sql ha⟩, z _ B1 H1 g (walkD_at walk_list (fun B' H' e1 e2 => (e1.trans e2).lg.sql ha) (RpAll.ints ns))⟩)
  | tup xs =>
    cases r with
    | tup ha ra => exact .inl (.inr ⟨_, rfl, ⟨_, g.bh.lg.sqt ha⟩, z _ B1 H1 g (walkD_at walk_tup (fun B' H' e1 e2 => (e1.trans e2).lg.sqt ha) ra)⟩)
  | str t =>
    cases r
    have el : (sgs t).length = t.cps.size := by simp [sgs]
    refine .inr (.inl ⟨t, rfl, z _ B1 H1 g ⟨fun _ => True, _, by rw [el]; exact walk_str, fun _ _ _ _ => trivial, fun i H x H' B' hi e1 e2 y => ?_⟩⟩)
    obtain ⟨rfl, c, hc, rfl⟩ := y
    exact ⟨B', .str ⟨#[c]⟩, by simp [sgs, hc], Gr.refl e2, .str _⟩
  | dct kvs =>
    cases r with
    | @dct a o vs _ ha ra =>
      refine .inr (.inr ⟨a, o, vs, rfl, g.bh _ _ ha, z _ B1 H1 g ⟨_, _, by rw [List.length_map, ← ra.len]; exact walk_keys, fun B' H' e1 e2 => e2 _ _ (e1 _ _ ha), fun i H x H' B' hi e1 e2 y => ?_⟩⟩)
      obtain ⟨rfl, k, v, hk, rfl⟩ := y
      exact ⟨B', keyDt k, by rw [List.getElem?_map, show (fun kv : Key × Dt => keyDt kv.1) = keyDt ∘ (·.1) from rfl, ← Option.map_map, ra.keyAt hk]; rfl, Gr.refl e2, rp_key⟩
  | _ => exact z.elim
def strsOf : List Dt → Option (List Str)
  | [] => some []
  | .str b :: xs => (strsOf xs).map (b :: ·)
  | _ :: _ => none
theorem strsOf_map : ∀ bs : List Str, strsOf (bs.map Dt.str) = some bs
  | [] => rfl
  | b :: bs => by simp [strsOf, strsOf_map bs]
theorem RpAll.strs : ∀ {vs : List V} {xs : List Dt} {bs : List Str}, RpAll Z B vs xs → strsOf xs = some bs → vs = bs.map V.str
  | _, _, bs, .nil, h => by simp [strsOf] at h; subst h; rfl
  | _, _, bs, .cons (d := d) a r, h => by
    cases a with
    | str b =>
      simp only [strsOf, Option.map_eq_some_iff] at h
      obtain ⟨cs, h1, h2⟩ := h
      subst h2
      rw [r.strs h1]; rfl
    | _ => simp [strsOf] at h
def asS : Dt → Wp Str
  | .str a => .ret a
  | _ => .bad
theorem mn_asS (d : Dt) : Mn (asS d) := by cases d <;> first | exact mn_ret | exact mn_bad
def seqOf : Dt → Option (List Dt)
  | .lst xs => some xs
  | .tup xs => some xs
  | _ => none
def pyJoin (a : Str) (x : Dt) : Wp Dt := (ofO ((seqOf x).bind strsOf)).bind fun ys => .gd ((ys.map (·.length)).sum + ys.length * a.length ≤ 16777216) (.ret (.str (Txt.join a ys)))
theorem mn_pyJoin (a : Str) (x : Dt) : Mn (pyJoin a x) := mn_bind (mn_ofO _) fun _ => mn_gd mn_ret
theorem me_join {o : Expr} {apos : Pos} {mo m : Env → Wp Dt} (ho : ME X E o mo) (he : MR X E e m) (hs : starEach [e] X.env = [(false, eval e X.env)] := by rfl) (hbase : attributeBase o "join" X.env (eval o X.env) = eval o X.env := by rfl) (hline : (apos.endLine == pos.line) = true := by rfl) :
    ME X E (.Call (.Attribute o "join" apos) [e] [] pos) (fun ρ => ((mo ρ).bind asS).bind fun a => (m ρ).bind fun x => pyJoin a x) := by
  obtain ⟨to, po, vo⟩ := ho
  obtain ⟨te, pe, ve⟩ := he
  refine ⟨_, pe_join po pe hs hbase hline, fun ρ => mn_bind (mn_bind (vo.mn ρ) mn_asS) fun _ => mn_bind (ve.mn ρ) fun _ => mn_pyJoin _ _, fun B0 F ρ σ B H Q s q => ?_⟩
  refine vo.run B0 F ρ σ B H _ s (vo.mn ρ _ _ _ _ (fun a k u B1 H1 g1 r1 => ?_) (fun _ z => z) q)
  cases a with
  | str t =>
    cases r1
    refine ⟨⟨_, rfl⟩, ve.run B0 F ρ σ B1 H1 _ (s.gr g1) (ve.mn ρ _ _ _ _ (fun y k v B2 H2 g2 r2 => ?_) (fun x z => z.gr g1) k)⟩
    have g := g1.trans g2
    cases y with
    | lst xs =>
      obtain ⟨a, vs, rfl, ha, ra⟩ := r2.lst g.bh
      simp only [pyJoin, seqOf, Option.bind_some] at k
      cases h : strsOf xs with
      | none => rw [h] at k; exact k.elim
      | some ys =>
        rw [h] at k
        rw [ra.strs h] at ha
        exact ⟨t, a, ys, rfl, rfl, .inl (.inl (.inl ha)), k.1, post_ref (PostV.gr k.2 g) g.bh (.str _)⟩
    | tup xs =>
      obtain ⟨a, vs, rfl, ha, ra⟩ := r2.tup g.bh
      simp only [pyJoin, seqOf, Option.bind_some] at k
      cases h : strsOf xs with
      | none => rw [h] at k; exact k.elim
      | some ys =>
        rw [h] at k
        rw [ra.strs h] at ha
        exact ⟨t, a, ys, rfl, rfl, .inr ha, k.1, post_ref (PostV.gr k.2 g) g.bh (.str _)⟩
    | _ => exact k.elim
  | _ => exact k.elim
end
end Mv

namespace Mv
open PySem L2
section
variable {X : Cx} {Z : Kx} {E : XS} {e : Expr} {st : Stmt} {pos p : Pos} {B0 F B H : Hp} {ρ : Env} {σ : St} {D : Ends}
/-- frozen behind a statement -/
def fzA (i : Nat) (m : Wp Fl) : Wp Fl := m.bind fun f => match f with
  | .nx ρ => .ret (.nx (fzS i ρ))
  | .rt d => .ret (.rt d)
  | .bk ρ => .ret (.bk ρ)
  | .ct ρ => .ret (.ct ρ)
  | .rs d S => .ret (.rs d S)
theorem mn_fzA {i : Nat} {m : Wp Fl} (h : Mn m) : Mn (fzA i m) := mn_bind h fun f => by cases f <;> exact mn_ret
theorem ms_fzA (i : Nat) {m : Env → Wp Fl} (h : MS X E st m) : MS X E st (fun ρ => fzA i (m ρ)) := by
  obtain ⟨t, p, v⟩ := h
  refine ⟨_, ps_lkA i p, fun ρ => mn_fzA (v.mn ρ), fun B0 F ρ σ B H D s q => v.run B0 F ρ σ B H _ s (v.mn ρ _ _ _ _ (fun f z => ?_) (fun _ z => z) q)⟩
  cases f with
  | nx ρ' =>
    intro σ' B' H' s'
    rcases s'.fzS i with ⟨B2, _, s2⟩ | ⟨a, vs, e1, e2, y⟩
    · exact .inl (z σ' B2 H' s2)
    · exact .inr ⟨a, vs, e1, e2, fun ob => let ⟨B2, _, s2⟩ := y ob; z σ' B2 _ s2⟩
  | rt d => exact z
  | bk ρ' => exact z
  | ct ρ' => exact z
  | rs _ _ => exact z
/-- a, b = e1, e2 by way of a tuple (names that are cells) -/
theorem ms_tup2 {i j : Nat} {x y : Str} {a b : Expr} {px py pt : Pos} {kt k2 pt2} {ma mb : Env → Wp Sl} (hc : X.calm = true) (hN : X.N.Nodup) (ha : MX X E a ma) (hb : MX X E b mb) (hi : X.N[i]? = some x := by rfl) (hj : X.N[j]? = some y := by rfl)
    (hx : Loc X.env.scope x := by first | exact Or.inl rfl | exact Or.inr rfl) (hy : Loc X.env.scope y := by first | exact Or.inl rfl | exact Or.inr rfl)
    (hfx : X.fn x = true ∨ X.env.scope.names.lookup x = some .local := by first | exact .inl rfl | exact .inr rfl | assumption) (hfy : X.fn y = true ∨ X.env.scope.names.lookup y = some .local := by first | exact .inl rfl | exact .inr rfl | assumption)
    (hw : swappedStores [.Tuple [.Name x px, .Name y py] kt pt] (.Tuple [a, b] k2 pt2) X.env = pure none := by rfl)
    (hs : swapsWithSole [.Tuple [.Name x px, .Name y py] kt pt] (.Tuple [a, b] k2 pt2) pos.line X.env = pure false := by rfl)
    (h1 : starEach (a :: [b]) X.env = (false, eval a X.env) :: starEach [b] X.env := by rfl) (h2 : starEach (b :: []) X.env = (false, eval b X.env) :: starEach [] X.env := by rfl) :
    MS X E (.Assign [.Tuple [.Name x px, .Name y py] kt pt] (.Tuple [a, b] k2 pt2) pos) (fun ρ => (ma ρ).bind fun u => (mb ρ).bind fun v => .ret (.nx ((ρ.set i u).set j v))) := by
  obtain ⟨ta, pa, va⟩ := ha
  obtain ⟨tb, pb, vb⟩ := hb
  refine ⟨_, ps_asg (pe_tup (pa_cons pa (pa_cons pb pa_nil h2) h1)) (pg_tup hc (pgs_cons (pg_name (i := i) hN hi hx hfx) (pgs_cons (pg_name (i := j) hN hj hy hfy) pgs_nil))) hs hw rfl, fun ρ => mn_bind (va.mn ρ) fun _ => mn_bind (vb.mn ρ) fun _ => mn_ret, fun B0 F ρ σ B H D s q => ?_⟩
  refine va.run B0 F ρ σ B H _ s (va.mn ρ _ _ _ _ (fun u z v1 B1 H1 g1 r1 => ?_) (fun _ z => z.sr s) q)
  refine vb.run B0 F ρ σ B1 H1 _ (s.gr g1) (vb.mn ρ _ _ _ _ (fun v z v2 B2 H2 g2 r2 => ⟨by show 2 ≤ sizeLine; decide, fun t nt => ⟨t, _, rfl, .inl (.inl upd_same), rfl, _, _, rfl, _, _, rfl, rfl, ?_⟩⟩) (fun _ z => z.sr (s.gr g1)) z)
  have s2 := (s.setS (i := i) g1 r1).setS (i := j) g2 r2
  exact z _ B2 _ (s2.gr (Gr.tmp s2.bh nt))
theorem ms_tup3 {i j l : Nat} {x y w : Str} {a b c : Expr} {px py pw pt : Pos} {kt k2 pt2} {ma mb mc : Env → Wp Sl} (hc : X.calm = true) (hN : X.N.Nodup) (ha : MX X E a ma) (hb : MX X E b mb) (hcc : MX X E c mc) (hi : X.N[i]? = some x := by rfl) (hj : X.N[j]? = some y := by rfl) (hl : X.N[l]? = some w := by rfl)
    (hx : Loc X.env.scope x := by first | exact Or.inl rfl | exact Or.inr rfl) (hy : Loc X.env.scope y := by first | exact Or.inl rfl | exact Or.inr rfl) (hz : Loc X.env.scope w := by first | exact Or.inl rfl | exact Or.inr rfl)
    (hfx : X.fn x = true ∨ X.env.scope.names.lookup x = some .local := by first | exact .inl rfl | exact .inr rfl | assumption) (hfy : X.fn y = true ∨ X.env.scope.names.lookup y = some .local := by first | exact .inl rfl | exact .inr rfl | assumption) (hfz : X.fn w = true ∨ X.env.scope.names.lookup w = some .local := by first | exact .inl rfl | exact .inr rfl | assumption)
    (hw : swappedStores [.Tuple [.Name x px, .Name y py, .Name w pw] kt pt] (.Tuple [a, b, c] k2 pt2) X.env = pure none := by rfl)
    (hs : swapsWithSole [.Tuple [.Name x px, .Name y py, .Name w pw] kt pt] (.Tuple [a, b, c] k2 pt2) pos.line X.env = pure false := by rfl)
    (h1 : starEach (a :: [b, c]) X.env = (false, eval a X.env) :: starEach [b, c] X.env := by rfl) (h2 : starEach (b :: [c]) X.env = (false, eval b X.env) :: starEach [c] X.env := by rfl) (h3 : starEach (c :: []) X.env = (false, eval c X.env) :: starEach [] X.env := by rfl) :
    MS X E (.Assign [.Tuple [.Name x px, .Name y py, .Name w pw] kt pt] (.Tuple [a, b, c] k2 pt2) pos) (fun ρ => (ma ρ).bind fun u => (mb ρ).bind fun v => (mc ρ).bind fun w => .ret (.nx (((ρ.set i u).set j v).set l w))) := by
  obtain ⟨ta, pa, va⟩ := ha
  obtain ⟨tb, pb, vb⟩ := hb
  obtain ⟨tc, pc, vc⟩ := hcc
  refine ⟨_, ps_asg (pe_tup (pa_cons pa (pa_cons pb (pa_cons pc pa_nil h3) h2) h1)) (pg_tup hc (pgs_cons (pg_name (i := i) hN hi hx hfx) (pgs_cons (pg_name (i := j) hN hj hy hfy) (pgs_cons (pg_name (i := l) hN hl hz hfz) pgs_nil)))) hs hw rfl, fun ρ => mn_bind (va.mn ρ) fun _ => mn_bind (vb.mn ρ) fun _ => mn_bind (vc.mn ρ) fun _ => mn_ret, fun B0 F ρ σ B H D s q => ?_⟩
  refine va.run B0 F ρ σ B H _ s (va.mn ρ _ _ _ _ (fun u z v1 B1 H1 g1 r1 => ?_) (fun _ z => z.sr s) q)
  refine vb.run B0 F ρ σ B1 H1 _ (s.gr g1) (vb.mn ρ _ _ _ _ (fun v z v2 B2 H2 g2 r2 => ?_) (fun _ z => z.sr (s.gr g1)) z)
  refine vc.run B0 F ρ σ B2 H2 _ ((s.gr g1).gr g2) (vc.mn ρ _ _ _ _ (fun w z v3 B3 H3 g3 r3 => ⟨by show 3 ≤ sizeLine; decide, fun t nt => ⟨t, _, rfl, .inl (.inl upd_same), rfl, _, _, rfl, _, _, rfl, _, _, rfl, rfl, ?_⟩⟩) (fun _ z => z.sr ((s.gr g1).gr g2)) z)
  have s2 := ((s.setS (i := i) g1 r1).setS (i := j) g2 r2).setS (i := l) g3 r3
  exact z _ B3 _ (s2.gr (Gr.tmp s2.bh nt))
/-- -a -/
def pyNeg : Dt → Wp Dt
  | .int i => .ret (.int (-i))
  | _ => .bad
theorem me_neg {m : Env → Wp Dt} (h : MR X E e m) : ME X E (.UnaryOp .USub e pos) (fun ρ => (m ρ).bind pyNeg) := by
  obtain ⟨t, p, v⟩ := h
  refine ⟨_, pe_un un_neg p, fun ρ => mn_bind (v.mn ρ) fun d => by cases d <;> first | exact mn_ret | exact mn_bad, fun B0 F ρ σ B H Q s q => v.run B0 F ρ σ B H _ s (v.mn ρ _ _ _ _ (fun d z u B1 H1 g r => ?_) (fun _ z => z) q)⟩
  cases d with
  | int i => rw [r.int]; exact ⟨i, rfl, z _ _ _ g (.int _)⟩
  | _ => exact z.elim
end
end Mv

namespace Mv
open PySem L2
def drwK (g : Addr) (m t : Int) : List (Key × V) := [(.inr "mixed", .int m), (.inr "great", .ref g), (.inr "turn", .int t)]
section
variable {X : Cx} {pins : List (Addr × Obj)} {σ : St} {H : Hp} {s : Shared} {a g : Addr}
theorem dk_any {P : Program} {w : World} {H H' : Hp} {h : Heap} {a : Addr} {kvs : List (Key × V)} (x : ObjOk P w H h a (.dK kvs)) : ObjOk P w H' h a (.dK kvs) := x
theorem lst_any {P : Program} {w : World} {H H' : Hp} {h : Heap} {a : Addr} {xs : List V} (x : ObjOk P w H h a (.lst xs)) : ObjOk P w H' h a (.lst xs) := x
theorem dk_get {P : Program} {w : World} {H : Hp} {h : Heap} {a : Addr} {kvs : List (Key × V)} (x : ObjOk P w H h a (.dK kvs)) : ∃ o, h.get? a = some o := by
  obtain ⟨_, _, _, _, o, _, _, e, _⟩ := x; exact ⟨o, e⟩
theorem lst_get {P : Program} {w : World} {H : Hp} {h : Heap} {a : Addr} {xs : List V} (x : ObjOk P w H h a (.lst xs)) : ∃ o, h.get? a = some o := by
  obtain ⟨_, _, _, _, e⟩ := x; exact ⟨_, e⟩
theorem dk_stay {P : Program} {w : World} {H : Hp} {h h' : Heap} {a : Addr} {kvs : List (Key × V)} (x : ObjOk P w H h a (.dK kvs)) (k : ∀ o, h.get? a = some o → h'.get? a = some o) : ObjOk P w H h' a (.dK kvs) := by
  obtain ⟨z, y, vs, r, ob, es, ep, e, c⟩ := x; exact ⟨z, y, vs, r, ob, es, ep, k _ e, c⟩
theorem lst_stay {P : Program} {w : World} {H : Hp} {h h' : Heap} {a : Addr} {xs : List V} (x : ObjOk P w H h a (.lst xs)) (k : ∀ o, h.get? a = some o → h'.get? a = some o) : ObjOk P w H h' a (.lst xs) := by
  obtain ⟨z, its, n, r, e⟩ := x; exact ⟨z, its, n, r, k _ e⟩
/-- opened -/
theorem Inv.openD (I : Inv X pins σ H s) (ne : a ≠ g) (ha : H a = some (drwD (kx X) a g)) (hg : H g = some (drwG (kx X) g)) :
    ∃ (m t : Int) (ns : List Int), 0 ≤ m ∧ 0 ≤ t ∧ ns.length ≤ 63 ∧ Inv X pins σ (upd (upd H a (.dK (drwK g m t))) g (.lst (ns.map V.int))) s := by
  obtain ⟨⟨m, t, h1, h2, oa⟩, _, _⟩ := I.hok a _ ha
  obtain ⟨⟨ns, h3, og⟩, _, _⟩ := I.hok g _ hg
  refine ⟨m, t, ns, h1, h2, h3, ?_⟩
  have I1 : Inv X pins σ (upd H a (.dK (drwK g m t))) s := I.write (x := a) (e := a) (t' := s.toks) (h' := s.heap) (by rw [ha]; trivial) (.inl rfl) (fun b v _ q => q) (dk_get oa) (dk_any oa)
  exact I1.write (x := g) (e := g) (t' := s.toks) (h' := s.heap) (by rw [upd_ne (Ne.symm ne), hg]; trivial) (.inl rfl) (fun b v _ q => q) (lst_get og) (lst_any og)
/-- closed -/
theorem Inv.closeD {m t : Int} {ns : List Int} (I : Inv X pins σ H s) (ne : a ≠ g) (h1 : 0 ≤ m) (h2 : 0 ≤ t) (h3 : ns.length ≤ 63) (ha : H a = some (.dK (drwK g m t))) (hg : H g = some (.lst (ns.map V.int))) :
    Inv X pins σ (upd (upd H a (drwD (kx X) a g)) g (drwG (kx X) g)) s := by
  have oa := I.hok a _ ha
  have og := I.hok g _ hg
  have I1 : Inv X pins σ (upd H a (drwD (kx X) a g)) s := I.write (x := a) (e := a) (t' := s.toks) (h' := s.heap) (by rw [ha]; trivial) (.inl rfl) (fun b v _ q => q) (dk_get oa)
    ⟨⟨m, t, h1, h2, dk_any oa⟩, dk_get oa, fun h1 h2 ⟨m, t, p, q, x⟩ k => ⟨m, t, p, q, dk_stay x k⟩⟩
  exact I1.write (x := g) (e := g) (t' := s.toks) (h' := s.heap) (by rw [upd_ne (Ne.symm ne), hg]; trivial) (.inl rfl) (fun b v _ q => q) (lst_get og)
    ⟨⟨ns, h3, lst_any og⟩, lst_get og, fun h1 h2 ⟨ns, p, x⟩ k => ⟨ns, p, lst_stay x k⟩⟩
/-- a block that runs while the draws' state is open; it leaves by return alone -/
def tOpenD (Z : Kx) (t : TS) : TS := fun D σ H => ∃ a g, a ≠ g ∧ H a = some (drwD Z a g) ∧ H g = some (drwG Z g) ∧ ∀ (m ts : Int) (ns : List Int), 0 ≤ m → 0 ≤ ts → ns.length ≤ 63 →
  t { nx := fun _ _ => False, rt := fun v H' => ∃ (m' t' : Int) (ns' : List Int), 0 ≤ m' ∧ 0 ≤ t' ∧ ns'.length ≤ 63 ∧ H' a = some (.dK (drwK g m' t')) ∧ H' g = some (.lst (ns'.map V.int)) ∧ D.rt v (upd (upd H' a (drwD Z a g)) g (drwG Z g)) }
    σ (upd (upd H a (.dK (drwK g m ts))) g (.lst (ns.map V.int)))
theorem pss_openD {sts : List Stmt} {t : TS} (h : PSs X sts t) : PSs X sts (tOpenD (kx X) t) := by
  refine ⟨fun pins s σ H D I q => ?_⟩
  obtain ⟨a, g, ne, ha, hg, q⟩ := q
  obtain ⟨m, ts, ns, h1, h2, h3, I1⟩ := Inv.openD I ne ha hg
  refine thn (h.run pins s σ _ _ I1 (q m ts ns h1 h2 h3)) fun f s1 z => ?_
  cases f with
  | next => obtain ⟨_, _, _, z⟩ := z; exact z.elim
  | brk => obtain ⟨_, _, _, z⟩ := z; exact z.elim
  | cont => obtain ⟨_, _, _, z⟩ := z; exact z.elim
  | ret u =>
    obtain ⟨v, σ', H', I2, r, m', t', ns', k1, k2, k3, k4, k5, z⟩ := z
    exact ⟨v, σ', _, Inv.closeD I2 ne k1 k2 k3 k4 k5, r, z⟩
/-- return, the state closed for the first time -/
def tRetD (Z : Kx) (te : TE) : TS := fun D σ H => te σ H fun v H' => ∃ (a g : Addr) (m' t' : Int) (ns' : List Int), a ≠ g ∧ 0 ≤ m' ∧ 0 ≤ t' ∧ ns'.length ≤ 63 ∧ H' a = some (.dK (drwK g m' t')) ∧ H' g = some (.lst (ns'.map V.int)) ∧ D.rt v (upd (upd H' a (drwD Z a g)) g (drwG Z g))
theorem ps_retD {e : Expr} {te : TE} {pos : Pos} (he : PE X e te) : PS X (.Return (some e) pos) (tRetD (kx X) te) := by
  refine ⟨fun pins s σ H D I q => ?_⟩
  refine wpAny_Return_some (thn (he.run pins s σ H _ I q) fun u s1 ⟨v, H1, I1, r, a, g, m', t', ns', ne, k1, k2, k3, k4, k5, z⟩ => ?_)
  exact ⟨v, σ, _, Inv.closeD I1 ne k1 k2 k3 k4 k5, r, z⟩
end
end Mv

namespace Mv
open PySem L2 PyProof.Rows
section
variable {gb : Bool} {P : Program} {w : World} {K : PySem.W.Frag} {mg : Str → Option Value} {base : Heap} {CX : CXT} {j k : Nat} {f : Addr} {fd : FuncData} {ps : List Str} {sp : Sp}
/-- a promise that may lean on it that nothing is being shown (gb) -/
def Gd (gb : Bool) (A : Around) : Prop := gb = true → A.guards = some []
structure FnG (gb : Bool) (P : Program) (w : World) (K : PySem.W.Frag) (mg : Str → Option Value) (base : Heap) (CX : CXT) (k : Nat) (f : Addr) (fd : FuncData) (ps : List Str) (sp : Sp) : Prop where
  len : ∀ vs H Q E, sp vs H Q E → vs.length = ps.length
  run : ∀ (A : Around) (out : List PySem.Env) (s : Shared) (H : Hp) (ar : Args) (us : List Value) (vs : List V) (Q : VK) (E : XK), Gd gb A → Room k A → Env0 P w K mg base A out s H → BindsTo s fd ar (ps.zip us) → Vals vs us → sp vs H Q E →
    codeAny (model P w) A (.call (.ref f) ar) (CR CX out P w H s Q E) s
theorem FnG.of (F : FnOk P w K mg base CX k f fd ps sp) : FnG gb P w K mg base CX k f fd ps sp :=
  ⟨F.len, fun A out s H ar us vs Q E _ r => F.run A out s H ar us vs Q E r⟩
theorem FnG.mono (F : FnG gb P w K mg base CX j f fd ps sp) (h : j ≤ k) : FnG gb P w K mg base CX k f fd ps sp :=
  ⟨F.len, fun A out s H ar us vs Q E g r => F.run A out s H ar us vs Q E g (r.mono h)⟩
theorem FnG.imp {sp' : Sp} (F : FnG gb P w K mg base CX k f fd ps sp) (h : ∀ vs H Q E, sp' vs H Q E → sp vs H Q E) : FnG gb P w K mg base CX k f fd ps sp' :=
  ⟨fun vs H Q E q => F.len vs H Q E (h _ _ _ _ q), fun A out s H ar us vs Q E g r e b v q => F.run A out s H ar us vs Q E g r e b v (h _ _ _ _ q)⟩
end
section
variable {gb : Bool} {P : Program} {w : World} {K : PySem.W.Frag} {mg : Str → Option Value} {base : Heap} {CX : CXT} {k : Nat} {f : Addr} {fd : FuncData} {N ps : List Str} {sp : Sp} {x qual : Str} {params : Arguments} {body : List Stmt} {scope : Scope} {dvs : List V} {kws : List (Str × V)}
theorem okG (F : FunD K x qual params body scope dvs kws f fd) (S : FnScope N ps scope) (len : ∀ vs H Q E, sp vs H Q E → vs.length = ps.length)
    (hbody : ∀ (cdv : Value) (A : Around) (out : List PySem.Env) (s : Shared) (H : Hp) (vs : List V) (Q : VK) (E : XK), Gd gb A → Room k (A.deeper (envOfC qual scope s.heap.objs.size f cdv)) → sp vs H Q E →
      ∃ t, PSs (cxOf CX P w K mg base N qual scope f cdv A out s H E) body t ∧ t { nx := fun _ H' => Q .non H', rt := Q } (start N vs) H) : FnG gb P w K mg base CX (k + 1) f fd ps sp := by
  obtain ⟨oc, od, dV, kV, doc, pm, an, cdv, ct, osl, rfl, look, hcd, _, _⟩ := F.ex
  refine ⟨len, fun A out s H ar us vs Q E hg room env bnd rel hsp => ?_⟩
  have hlen := len _ _ _ _ hsp
  have kin : K.In s.heap := env.mod.kin.keeps fun b o e => (env.bs b o e).1
  have nol : s.heap.NoLimit := env.mod.nolimit.keeps fun b o e => (env.bs b o e).1
  have kinds : ∀ y ∈ ps.zip us, scope.names.lookup y.1 = some .local ∨ (scope.names.lookup y.1 = some .cell ∧ ((cellsFrom (s.heap.objs.size + 1) scope.names []).lookup y.1).isSome = true) := by
    rintro ⟨n, v⟩ hy
    exact (S.par n (List.of_mem_zip hy).1).imp id fun q => ⟨q, PySem.W.cellsFrom_some _ _ _ (.inl q)⟩
  refine codeAny_call_function room.depth (kin _ _ look) rfl S.co S.gen rfl (PySem.W.codeRec_of kin hcd) (bnd _ _ _ _ (wpAny_newFunctionEnv_cells S.kind kinds fun en he s1 c => ?_))
  subst he
  obtain ⟨t, ht, hq⟩ := hbody cdv A out s H vs Q E hg (room.deeper _) hsp
  refine ⟨nol.keeps c.toInCall.keep, codeAny_func (wpAny_mono (ht.run [] s1 (start N vs) H _ (inv_start S room.hd env hlen rel c) hq) (fun fl s' z => ?_) fun _ _ z => z)⟩
  cases fl with
  | ret u => obtain ⟨v, _, H', J, rv, q⟩ := z; exact ⟨v, H', J.os, J.bare, J.base, J.hok, rv, q⟩
  | next => obtain ⟨_, H', J, q⟩ := z; exact ⟨V.non, H', J.os, J.bare, J.base, J.hok, rfl, q⟩
  | brk => obtain ⟨_, _, _, q⟩ := z; exact q.elim
  | cont => obtain ⟨_, _, _, q⟩ := z; exact q.elim
/-- a def by its mirror -/
theorem fn_mG {mb : Env → Wp Fl} {mf : List Dt → Wp Dt} (F : FunD K x qual params body scope dvs kws f fd) (S : FnScope N ps scope)
    (hle : ∀ ds : List Dt, ds.length = ps.length → ∀ Q E, mf ds Q E → fnWp N.length mb ds Q fun _ => False)
    (hb : ∀ (cdv : Value) (A : Around) (out : List PySem.Env) (s : Shared) (H : Hp) (E : XK), Gd gb A → Room k (A.deeper (envOfC qual scope s.heap.objs.size f cdv)) → MSs (cxOf CX0 P w K mg base N qual scope f cdv A out s H E).nox EZ body mb) :
    FnG gb P w K mg base CX0 (k + 1) f fd ps (spM ⟨K, P, w⟩ ps.length mf) := by
  refine okG F S (fun vs H Q E h => h.1) fun cdv A out s H vs Q E hg hr h => ?_
  obtain ⟨hl, B, ds, hB, r, q⟩ := h
  obtain ⟨ts, pss, v⟩ := hb cdv A out s H E hg hr
  refine ⟨ts, pss.nox, ?_⟩
  have hd : ds.length = ps.length := by rw [← r.len]; exact hl
  have st := (SR.start hB r).more (N.length - ds.length)
  have e : L2.start N vs = vs.map some ++ List.replicate (N.length - ds.length) none := by unfold L2.start; rw [r.len]
  rw [e]
  refine v.run B H _ _ B H _ st (v.mn _ _ _ _ _ (fun fl z => ?_) (fun _ z => z.elim) (hle ds hd _ _ q))
  cases fl with
  | nx ρ' => exact fun σ' B' H' s' => z _ B' H' s'.fin .non
  | rt d => exact fun u B' H' g r' => z u B' H' g r'
  | bk _ => exact z.elim
  | ct _ => exact z.elim
  | rs _ _ => exact z.elim
/-- a def that may raise, by its mirror -/
theorem fn_mX {mb : Env → Wp Fl} {mf : List Dt → Wp Dt} (F : FunD K x qual params body scope dvs kws f fd) (S : FnScope N ps scope)
    (hle : ∀ ds : List Dt, ds.length = ps.length → ∀ Q E, mf ds Q E → fnWp N.length mb ds Q E)
    (hb : ∀ (cdv : Value) (A : Around) (out : List PySem.Env) (s : Shared) (H : Hp) (E : XK), Gd gb A → Room k (A.deeper (envOfC qual scope s.heap.objs.size f cdv)) → MSs (cxOf (L2.CX P w) P w K mg base N qual scope f cdv A out s H E) (fun _ => E) body mb) :
    FnG gb P w K mg base (L2.CX P w) (k + 1) f fd ps (spM ⟨K, P, w⟩ ps.length mf) := by
  refine okG F S (fun vs H Q E h => h.1) fun cdv A out s H vs Q E hg hr h => ?_
  obtain ⟨hl, B, ds, hB, r, q⟩ := h
  obtain ⟨ts, pss, v⟩ := hb cdv A out s H E hg hr
  refine ⟨ts, pss, ?_⟩
  have hd : ds.length = ps.length := by rw [← r.len]; exact hl
  have st := (SR.start hB r).more (N.length - ds.length)
  have e : L2.start N vs = vs.map some ++ List.replicate (N.length - ds.length) none := by unfold L2.start; rw [r.len]
  rw [e]
  refine v.run B H _ _ B H _ st (v.mn _ _ _ _ _ (fun fl z => ?_) (fun _ z _ => z) (hle ds hd _ _ q))
  cases fl with
  | nx ρ' => exact fun σ' B' H' s' => z _ B' H' s'.fin .non
  | rt d => exact fun u B' H' g r' => z u B' H' g r'
  | bk _ => exact z.elim
  | ct _ => exact z.elim
  | rs _ _ => exact z.elim
end
section
variable {gb : Bool} {X : Cx} {CX : CXT} {k n : Nat} {f C : Addr} {fd : FuncData} {ps : List Str} {sp : Sp} {dvs : List V} {ds : List Value} {E : XS} {x m : Str} {p pos apos : Pos} {e o : Expr} {es : List Expr} {ta : TE} {t : TA}
/-- what no call lets out passes -/
theorem passZ {X : Cx} {σ : L2.St} {E : XK} : PassesAt CX0 X σ E := fun _ _ _ _ _ _ h => h.elim
theorem runG {pins : List (Addr × Obj)} {σ : L2.St} {H : Hp} {s : Shared} {Q : VK} {us : List Value} {vs : List V} (F : FnG gb X.prog X.w X.K X.mg X.base CX k f fd ps sp) (hg : Gd gb X.A) (hr : Room k X.A) (hb : Binds X.K fd ps []) {E : XK} (hx : PassesAt CX X σ E)
    (I : Inv X pins σ H s) (r : Vals vs us) (h : sp vs H Q E) : wpAny (model X.prog X.w) X.A (call (.ref f) us) (EP X pins σ Q) X.xe s := by
  have hl : us.length = ps.length := by rw [← r.length]; exact F.len _ _ _ _ h
  have hbs := hb s us I.kIn (by rw [List.append_nil]; exact hl)
  rw [List.append_nil] at hbs
  refine wpAny_call (codeAny_mono (F.run X.A X.stack s H ⟨us, []⟩ us vs Q E hg hr I.env0 hbs r h) fun res s' hq => ?_)
  cases res with
  | error e => exact hx pins H s e s' I hq
  | ok fl => cases fl with
    | ret u => exact I.after hq
    | next => exact hq.elim
    | brk => exact hq.elim
    | cont => exact hq.elim
def OwnC (CX : CXT) (gb : Bool) (P : Program) (w : World) (K : PySem.W.Frag) (mg : Str → Option Value) (base : Heap) (k : Nat) (x : Str) (n : Nat) (m : List Dt → Wp Dt) : Prop :=
  (∀ ds, Mn (m ds)) ∧ ∃ f fd ps, FnG gb P w K mg base CX k f fd ps (spM ⟨K, P, w⟩ n m) ∧ mg x = some (.ref f) ∧ PySem.W.keepIn K (.ref f) = true ∧ Binds K fd ps []
/-- a def that raises nothing; one that may -/
abbrev OwnG := OwnC CX0
abbrev OwnX (gb : Bool) (P : Program) (w : World) := OwnC (L2.CX P w) gb P w
theorem ev_callG {Z : Kx} {n : Nat} {mf : List Dt → Wp Dt} {ta : TA} {ma : Env → Wp (List Dt)} (hm : ∀ ds, Mn (mf ds)) (ha : EvA Z E ta ma) (ln : Ln n ma) : Ev Z E (fun σ H Q => ta σ H fun vs H1 => spM Z n mf vs H1 Q (E σ)) (fun ρ => (ma ρ).bind mf) := by
  refine ⟨fun ρ => mn_bind (ha.mn ρ) hm, fun B0 F ρ σ B H Q s q => ha.run B0 F ρ σ B H _ s (ha.mn ρ _ _ _ _ (fun ds k vs B1 H1 g r => ?_) (fun _ z => z) (ln.len ρ _ _ q))⟩
  exact ⟨by rw [r.len]; exact k.1, B1, ds, g.bh, r, hm ds _ _ _ _ (fun _ z => z.gr g) (fun _ z => z.gr g) k.2⟩
theorem me_ownC {m : List Dt → Wp Dt} {ma : Env → Wp (List Dt)} (O : OwnC CX gb X.prog X.w X.K X.mg X.base k x n m) (hx : ∀ σ, PassesAt CX X σ (E σ)) (hr : Room k X.A) (hgd : Gd gb X.A) (ha : MAn X E (e :: es) n ma) (hg : Gl X x := by rfl) (hdb : (x == ("__debug__" : Str)) = false := by decide)
    (he : starEach (e :: es) X.env = (false, eval e X.env) :: starEach es X.env := by rfl) (hpl : (backTo pos (starEach es X.env)).any (·.1) = false := by rfl) : ME X E (.Call (.Name x p) (e :: es) [] pos) (fun ρ => (ma ρ).bind m) := by
  obtain ⟨hM, f, fd, ps, F, hm, hk, hb⟩ := O
  obtain ⟨⟨t, pa, va⟩, ln⟩ := ha
  refine ⟨_, ⟨fun pins s σ H Q I h => ?_⟩, ev_callG hM va ln⟩
  refine wpAny_Call_Name_kw (ld_glob I hg hm (PySem.W.callWith_K (h₀ := X.base) I.ok.mod.kin hk (thn (pa.run pos pins s σ H _ I h) fun us s1 ⟨vs, H1, I1, r, q⟩ => ⟨I1.kIn, ?_⟩) he hpl) hdb)
  exact runG F hgd hr hb (hx σ) I1 r q
theorem me_ownG {m : List Dt → Wp Dt} {ma : Env → Wp (List Dt)} (O : OwnG gb X.prog X.w X.K X.mg X.base k x n m) (hr : Room k X.A) (hgd : Gd gb X.A) (ha : MAn X E (e :: es) n ma) (hg : Gl X x := by rfl) (hdb : (x == ("__debug__" : Str)) = false := by decide)
    (he : starEach (e :: es) X.env = (false, eval e X.env) :: starEach es X.env := by rfl) (hpl : (backTo pos (starEach es X.env)).any (·.1) = false := by rfl) : ME X E (.Call (.Name x p) (e :: es) [] pos) (fun ρ => (ma ρ).bind m) := me_ownC O (fun _ => passZ) hr hgd ha hg hdb he hpl
/-- .. that may raise -/
theorem me_ownX {W : WX} {m : List Dt → Wp Dt} {ma : Env → Wp (List Dt)} (tk : Takes X W) (O : OwnX gb X.prog X.w X.K X.mg X.base k x n m) (hr : Room k X.A) (hgd : Gd gb X.A) (ha : MAn X (WE W) (e :: es) n ma) (hg : Gl X x := by rfl) (hdb : (x == ("__debug__" : Str)) = false := by decide)
    (he : starEach (e :: es) X.env = (false, eval e X.env) :: starEach es X.env := by rfl) (hpl : (backTo pos (starEach es X.env)).any (·.1) = false := by rfl) : ME X (WE W) (.Call (.Name x p) (e :: es) [] pos) (fun ρ => (ma ρ).bind m) := me_ownC O (fun σ => passAt tk σ) hr hgd ha hg hdb he hpl
/-- methods -/
def OwnMC (CX : CXT) (gb : Bool) (P : Program) (w : World) (K : PySem.W.Frag) (mg : Str → Option Value) (base : Heap) (k : Nat) (c mt : Str) (n : Nat) (m : List Dt → Wp Dt) : Prop :=
  (∀ ds, Mn (m ds)) ∧ ∃ f fd ps, FnG gb P w K mg base CX k f fd ps (spM ⟨K, P, w⟩ n m) ∧ Cls K (He.ga K c) ∧ Meth K (He.ga K c) mt f ∧ Binds K fd ps []
abbrev OwnM := OwnMC CX0
def tMethG (Z : Kx) (c m : Str) (sp : Sp) (E : XS) (ta : TE) (t : TA) : TE := fun σ H Q => ta σ H fun x H1 => ∃ (a dx : Addr) (fs : List (Str × V)), x = .ref a ∧ H1 a = some (.ins (He.ga Z.K c) dx fs) ∧ fs.lookup m = none ∧ t σ H1 fun vs H2 => sp (.ref a :: vs) H2 Q (E σ)
theorem ev_methG {Z : Kx} {c m : Str} {mf : List Dt → Wp Dt} {to : TE} {ta : TA} {mo : Env → Wp Dt} {ma : Env → Wp (List Dt)} (hM : ∀ ds, Mn (mf ds)) (vo : Ev Z E to mo) (va : EvA Z E ta ma) (ln : Ln n ma) : Ev Z E (tMethG Z c m (spM Z (n + 1) mf) E to ta) (fun ρ => (mo ρ).bind fun d => pyMeth c m mf d (ma ρ)) := by
  refine ⟨fun ρ => mn_bind (vo.mn ρ) fun d => mn_pyMeth hM (va.mn ρ), fun B0 F ρ σ B H Q s q => vo.run B0 F ρ σ B H _ s (vo.mn ρ _ _ _ _ (fun d k u B1 H1 g r => ?_) (fun _ z => z) q)⟩
  cases d with
  | obj c' fs =>
    obtain ⟨⟨rfl, hl⟩, k⟩ := k
    have r0 := r
    cases r with
    | obj h rf =>
      refine ⟨_, _, _, rfl, g.bh _ _ h, ?_, ?_⟩
      · rcases rf.look m with ⟨w, d, h1, h2, h3⟩ | ⟨h1, h2⟩
        · rw [h2] at hl; cases hl
        · exact h1
      refine va.run B0 F ρ σ B1 H1 _ (s.gr g) (va.mn ρ _ _ _ _ (fun ds z vs B2 H2 g2 r2 => ?_) (fun _ z => z.gr g) (ln.len ρ _ _ k))
      exact ⟨by simp [r2.len, z.1], B2, _, g2.bh, .cons (r0.ex g2.b) r2, hM _ _ _ _ _ (fun _ z => z.gr (g.trans g2)) (fun _ z => z.gr (g.trans g2)) z.2⟩
  | _ => exact k.elim
theorem me_ownMC (c : Str) {mf : List Dt → Wp Dt} {pl : Sem Bool} {mo : Env → Wp Dt} {ma : Env → Wp (List Dt)} (O : OwnMC CX gb X.prog X.w X.K X.mg X.base k c m (n + 1) mf) (hx : ∀ σ, PassesAt CX X σ (E σ)) (hr : Room k X.A) (hgd : Gd gb X.A) (ho : ME X E o mo) (ha : MAn X E (e :: es) n ma)
    (hst : starEach (e :: es) X.env = (false, eval e X.env) :: starEach es X.env := by rfl) (hpl : (backTo pos (starEach es X.env)).any (·.1) = false := by rfl)
    (ht : eval (.Call (.Attribute o m apos) (e :: es) [] pos) X.env = (do
      let ov ← eval o X.env
      standAt apos.atName
      let (f, first) ← holding [ov] (getMethod ov m pl)
      callWith pos f first (backTo pos (starEach (e :: es) X.env)) (backToKw pos (keywordEach [] X.env))) := by rfl) :
    ME X E (.Call (.Attribute o m apos) (e :: es) [] pos) (fun ρ => (mo ρ).bind fun d => pyMeth c m mf d (ma ρ)) := by
  obtain ⟨hM, f, fd, ps, F, hc, hm, hb⟩ := O
  obtain ⟨to, po, vo⟩ := ho
  obtain ⟨⟨ta, pa, va⟩, ln⟩ := ha
  refine ⟨_, ⟨fun pins s σ H Q I h => ?_⟩, ev_methG (Z := kx X) (c := c) (m := m) hM vo va ln⟩
  refine PySem.W.methodCall_KW (pl := pl) (thn (po.run pins s σ H _ I h) fun u s1 ⟨x, H1, I1, rx, a, dx, fs, ex, ea, l, q⟩ => ?_) ht
  subst ex
  obtain rfl : u = Value.ref a := rx
  refine getmeth_ok I1 ea hc hm l (PySem.W.callWith_K (first := [.ref a]) (h₀ := X.base) I.ok.mod.kin hm.kp (thn (pa.run pos pins s1 σ H1 _ I1 q) fun us s2 ⟨vs, H2, I2, r, q2⟩ => ⟨I2.kIn, ?_⟩) hst hpl)
  exact runG (us := .ref a :: us) (vs := .ref a :: vs) F hgd hr hb (hx σ) I2 (.cons rfl r) q2
theorem me_ownM (c : Str) {mf : List Dt → Wp Dt} {pl : Sem Bool} {mo : Env → Wp Dt} {ma : Env → Wp (List Dt)} (O : OwnM gb X.prog X.w X.K X.mg X.base k c m (n + 1) mf) (hr : Room k X.A) (hgd : Gd gb X.A) (ho : ME X E o mo) (ha : MAn X E (e :: es) n ma)
    (hst : starEach (e :: es) X.env = (false, eval e X.env) :: starEach es X.env := by rfl) (hpl : (backTo pos (starEach es X.env)).any (·.1) = false := by rfl)
    (ht : eval (.Call (.Attribute o m apos) (e :: es) [] pos) X.env = (do let ov ← eval o X.env; standAt apos.atName; let (f, first) ← holding [ov] (getMethod ov m pl); callWith pos f first (backTo pos (starEach (e :: es) X.env)) (backToKw pos (keywordEach [] X.env))) := by rfl) :
    ME X E (.Call (.Attribute o m apos) (e :: es) [] pos) (fun ρ => (mo ρ).bind fun d => pyMeth c m mf d (ma ρ)) := me_ownMC c O (fun _ => passZ) hr hgd ho ha hst hpl ht
end

section
variable {X : Cx} {Z : Kx} {B H : Hp}
end

section
variable {P : Program} {w : World} {K : PySem.W.Frag} {mg mb : Str → Option Value} {CX : CXT} {k : Nat} {fa a : Addr} {fd : FuncData} {x : Str} {sp : Sp} {s₁ : Shared} {vs : List Value} {ns : List Int}
def LawEnd (s₁ : Shared) : Result → Shared → Prop := fun r s' => r = .ok (.ret (.bool true)) ∧ OldK s₁.heap s'.heap ∧ s'.os = s₁.os ∧ AllBare s'.gens
/-- with the abstract heap given: nothing tracked but, at most, the script -/
theorem law_at {H : Hp} (KX : K.In s₁.heap) (hns : s₁.heap.Ns mainGlobals mg) (hb : s₁.heap.Ns builtinsNs mb) (hbb : ∀ x : Str, x ≠ "__name__" → mb x = bootBuiltins x) (hlim : s₁.heap.NoLimit) (hg : s₁.gens = #[]) (hr : Room k callerA)
    (F : ∀ bs : Heap, K.In bs → bs.Ns mainGlobals mg → FnG true P w K mg bs CX k fa fd [x] sp) (hbind : ∀ (s : Shared) (u : Value), BindsTo s fd ⟨[u], []⟩ [(x, u)])
    (hsp : sp [.ref a] H (fun v _ => v = .bl true) fun _ _ _ => False) (hCX : ∀ H e s', CX [] H s₁ (fun _ _ _ => False) e s' → False)
    (only : Only H) (hok : HOk P w H s₁.heap) (kno : ∀ b, H b ≠ none → K.lookup b = none) (nod : ∀ {b : Addr} {o : Obj} {es : Array DictEntry} {ep : Nat}, s₁.heap.get? b = some o → o.data = .dict es ep → H b = none) :
    codeAny (model P w) callerA (.call (.ref fa) ⟨[.ref a], []⟩) (LawEnd s₁) s₁ := by
  have nsk : ∀ {b : Addr} {m : Str → Option Value}, s₁.heap.Ns b m → (hidT s₁.heap H).Ns b m := fun ⟨o, es, ep, e, d, r⟩ => ⟨o, es, ep, hidT_get e (nod e d), d, r⟩
  have kin : K.In (hidT s₁.heap H) := fun b o e => hidT_get (KX b o e) (by
    refine Classical.byContradiction fun z => ?_
    rw [kno b z] at e; cases e)
  have mod : Mod K mg (hidT s₁.heap H) := ⟨kin, nsk hns, ⟨mb, nsk hb, hbb⟩, let ⟨mc, h1, h2⟩ := hlim; ⟨mc, nsk h1, h2⟩⟩
  have env : Env0 P w K mg (hidT s₁.heap H) callerA [] s₁ H := ⟨rfl, mod, fun b o e => of_hidT e, Nat.le_of_eq (hidT_size _ _), trivial, fun b z => by have z' : b ∈ ([] : List Addr) := z; simp at z', hok, .of_eq hg⟩
  refine codeAny_mono ((F _ kin (nsk hns)).run callerA [] s₁ H ⟨[.ref a], []⟩ [.ref a] [.ref a] _ _ (fun _ => rfl) hr env (hbind s₁ (.ref a)) (.cons rfl .nil) hsp) fun res s' h => ?_
  cases res with
  | error e => exact (hCX H e s' h).elim
  | ok fl =>
    cases fl with
    | next => exact h.elim
    | brk => exact h.elim
    | cont => exact h.elim
    | ret u =>
      obtain ⟨v, H', os, bare, un, hok', rel, q⟩ := h
      have q' : v = .bl true := q
      subst q'
      obtain rfl : u = Value.bool true := rel
      refine ⟨rfl, OldK.of_keep fun b o e => ?_, os, bare⟩
      rcases only b with z | ⟨ob, xs, z⟩
      · exact un.keep b o e z (fun y => by have y' : b ∈ ([] : List Addr) := y; simp at y') (by simp)
      · have e1 := (hok b _ z).1
        rw [e] at e1; cases e1
        exact (hok' b _ (un.frzs b _ _ z)).1
theorem law_callG (KX : K.In s₁.heap) (hns : s₁.heap.Ns mainGlobals mg) (hb : s₁.heap.Ns builtinsNs mb) (hbb : ∀ x : Str, x ≠ "__name__" → mb x = bootBuiltins x) (hlim : s₁.heap.NoLimit) (hg : s₁.gens = #[])
    (ha : s₁.heap.get? a = some { cls := .type "list", data := .seq vs.toArray }) (hi : IntsAre vs ns) (hl : ns.length ≤ sizeLine) (hr : Room k callerA)
    (F : ∀ bs : Heap, K.In bs → bs.Ns mainGlobals mg → FnG true P w K mg bs CX k fa fd [x] sp) (hbind : ∀ (s : Shared) (u : Value), BindsTo s fd ⟨[u], []⟩ [(x, u)])
    (hsp : ∀ H : Hp, Only H → SqL K H a (ns.map V.int) → sp [.ref a] H (fun v _ => v = .bl true) fun _ _ _ => False)
    (hCX : ∀ H e s', CX [] H s₁ (fun _ _ _ => False) e s' → False) :
    codeAny (model P w) callerA (.call (.ref fa) ⟨[.ref a], []⟩) (LawEnd s₁) s₁ := by
  have rv := vals_ints hi
  have lenV := hi.length
  cases hk : K.lookup a with
  | some o =>
    have e := KX a o hk
    rw [ha] at e
    cases e
    refine law_at (H := fun _ => none) KX hns hb hbb hlim hg hr F hbind (hsp _ (fun _ => .inl rfl) (.inr ⟨_, vs.toArray, _, hk, rfl, rfl, rfl, ?_, by simpa using rv⟩)) hCX (fun _ => .inl rfl) (fun b u z => by cases z) (fun b z => (z rfl).elim) fun _ _ => rfl
    rw [List.size_toArray, lenV]; exact hl
  | none =>
    have pos : (fun b : Addr => if b = a then some (HO.frz { cls := .type "list", data := .seq vs.toArray } (.lst (ns.map V.int))) else none) a = some (.frz { cls := .type "list", data := .seq vs.toArray } (.lst (ns.map V.int))) := if_pos rfl
    have only : Only (fun b : Addr => if b = a then some (HO.frz { cls := .type "list", data := .seq vs.toArray } (.lst (ns.map V.int))) else none) := fun b => by
      by_cases h : b = a
      · subst h; exact .inr ⟨_, _, pos⟩
      · exact .inl (if_neg h)
    refine law_at KX hns hb hbb hlim hg hr F hbind (hsp _ only (.inl (.inr ⟨_, pos⟩))) hCX only (fun b u z => ?_) (fun b z => ?_) fun {b o es ep} e d => ?_
    · by_cases h : b = a
      · subst h
        have z' := pos.symm.trans z
        cases z'
        exact ⟨ha, by rw [List.length_map]; exact hl, vs, _, rv, ha⟩
      · have z' := (if_neg h).symm.trans z; cases z'
    · by_cases h : b = a
      · subst h; exact hk
      · exact (z (if_neg h)).elim
    · by_cases h : b = a
      · subst h
        rw [ha] at e; cases e
        cases (d : Data.seq vs.toArray _ = Data.dict es ep)
      · exact if_neg h
/-- the walk the head asks for -/
theorem walk_G {l : PySem.W.OpenLaw} {n : Nat} {q : Program} {loose : List Str} {XP : (Str → Option Value) → Heap → Prop} {YP : World → Heap → Prop} {d : DefRec}
    (hn : l.most = some n) (hn2 : n ≤ sizeLine) (hdf : d.params.defaults = []) (hr : Room k callerA)
    (F : ∀ (w : World) (mg : Str → Option Value) (fa : Addr) (h : Heap), YP w h → h.Ns mainGlobals mg → mg d.name = some (.ref fa) →
      ∃ (K : PySem.W.Frag) (fd : FuncData) (sp : Sp), K.In h ∧ (∀ (s : Shared) (u : Value), BindsTo s fd ⟨[u], []⟩ [(x, u)]) ∧
        (∀ (H : Hp) (a : Addr) (ns : List Int), ns.length ≤ n → Only H → SqL K H a (ns.map V.int) → sp [.ref a] H (fun v _ => v = .bl true) fun _ _ _ => False) ∧
        ∀ bs : Heap, K.In bs → bs.Ns mainGlobals mg → FnG true l.prog w K mg bs CX k fa fd [x] sp)
    (hCX : ∀ (H : Hp) (s : Shared) (e : Value) (s' : Shared), CX [] H s (fun _ _ _ => False) e s' → False) :
    PySem.W.WalkO q loose XP YP l.row.toRowW d [] (fun f vs => PySem.call f vs) := by
  refine Att.attach_call hn hdf fun w s₀ s₁ mg mb fa o pm cd doc a vs ns G Y ho hd hcd hmg hobj hints hlen hg => ?_
  obtain ⟨K, fd, sp, KX, hb, hsp, hF⟩ := F w mg fa _ Y G.T.g hmg
  exact law_callG KX G.T.g G.T.b G.T.builtins G.T.nolimit hg hobj hints (Nat.le_trans hlen hn2) hr hF hb (fun H hO hS => hsp H a ns hlen hO hS) fun H e s' => hCX H s₁ e s'
end
end Mv

namespace Mv
open PySem PySem.Spec PyProof.Rows L2
theorem meets_enum1 {v : Value} {o : Obj} {Hh : Heap → Prop} (B : Begins v o Hh) : Meets (Builtin.«enumerate.__new__» ⟨[.type "enumerate", v], []⟩) (fun _ R s => Hh s.heap ∧
      R (.ok (.ret (.ref (s.heap.push o).objs.size))) { s with heap := (s.heap.push o).push { cls := .type "enumerate", data := .fields #[.none, .bool false, .ref s.heap.objs.size, rawInt 0, .none, .none] } }) :=
  .of_wp fun prog w A R s h => by
    obtain ⟨hp, g, d, tk, os⟩ := s
    obtain ⟨h1, h⟩ := h
    have hsub := sub_enumerate
    have it1 : ∀ {A' : Around} {E : Value → Shared → Prop} {Q : Value → Shared → Prop}, Q (.ref hp.objs.size) ⟨hp.push o, g, d, tk, os⟩ → wpAny (model prog w) A' (pyIter v) Q E ⟨hp, g, d, tk, os⟩ := fun q => B.iter prog w _ _ ⟨hp, g, d, tk, os⟩ _ h1 q
    wp_walk using it1
    refine wpAny_stack_any fun st => wpAny_pure ?_
    split
    · rename_i c _ _ _ _ _
      cases (c == Value.type "enumerate") <;> (wp_walk using it1; exact ⟨_, rfl, h⟩)
    · wp_walk using it1
      exact ⟨_, rfl, h⟩
theorem call_enum1 {prog : Program} {w : World} {A : Around} {E : Value → Shared → Prop} {s : Shared} {v : Value} {o : Obj} {Hh : Heap → Prop} {Q : Value → Shared → Prop} (B : Begins v o Hh) (h1 : Hh s.heap)
    (h : ∀ h', IsEnum h' (s.heap.objs.size + 1) s.heap.objs.size 0 .none → h'.get? s.heap.objs.size = some o → (∀ b o, s.heap.get? b = some o → h'.get? b = some o) → Q (.ref (s.heap.objs.size + 1)) { s with heap := h' }) :
    wpAny (model prog w) A (call (.type "enumerate") [v]) Q E s := by
  refine callType_new F.called_enumerate (by decide) (F.typeCall_enumerate_1 _) (F.newCall_enumerate_1 _) (fun obj => F.args_object_init_2 obj _) F.entry_enumerate_new (meets_enum1 B) ⟨h1, ?_⟩
  have hz : (s.heap.push o).objs.size = s.heap.objs.size + 1 := Heap.size_push ..
  have he : IsEnum ((s.heap.push o).push { cls := .type "enumerate", data := .fields #[.none, .bool false, .ref s.heap.objs.size, rawInt 0, .none, .none] }) (s.heap.objs.size + 1) s.heap.objs.size 0 .none := by
    have q := Heap.get?_push_size (s.heap.push o) (o := { cls := .type "enumerate", data := .fields #[.none, .bool false, .ref s.heap.objs.size, rawInt 0, .none, .none] }) rfl
    rw [hz] at q; exact q
  show _ ∧ _
  rw [hz]
  exact ⟨⟨_, he, rfl⟩, h _ he (Heap.get?_push_of_some _ (Heap.get?_push_size _ B.free)) fun b o x => Heap.get?_push_of_some _ (Heap.get?_push_of_some _ x)⟩
def IteT (K : PySem.W.Frag) (a : Addr) : It :=
  ⟨fun i H => ∃ (xs : List V) (x : V), SqT K H a xs ∧ xs[i]? = some x, fun i H v H' => ∃ T x, v = .ref T ∧ H T = none ∧ H' = upd H T (.tup [.int (i : Nat), x]) ∧ ∀ xs, SqT K H a xs → xs[i]? = some x, fun i H => ∃ xs : List V, SqT K H a xs ∧ xs.length = i⟩
theorem apartT {h : Heap} {it a : Addr} {i : Nat} {items : Array Value} (h1 : h.IsTupleIter it a i) (h2 : h.IsTuple a items) : a ≠ it := fun z => by
  subst z
  obtain ⟨o, e, c, _⟩ := h1
  obtain ⟨o', e', c', _⟩ := h2
  rw [e] at e'; cases e'
  rw [c] at c'
  injection c' with h
  exact absurd h (by decide)
theorem turn_enumT {P : Program} {w : World} {K : PySem.W.Frag} {elts : List Expr} {kk : Nat} {tpos : Pos} (a e it : Addr) :
    Turn P w K (.Tuple elts kk tpos) (IteT K a) [e, it] e (fun i h => (∃ old, IsEnum h e it ((i : Nat) : Int) old) ∧ h.IsTupleIter it a i ∧ e ≠ it ∧ e ≠ a) where
  mem := by simp
  obj := fun i h st b hb => by
    obtain ⟨⟨old, he⟩, ⟨o, ho, hc, hd⟩, _⟩ := st
    have z : b = e ∨ b = it := by simpa using hb
    rcases z with z | z <;> rw [z]
    · exact ⟨_, he, fun v q => nomatch q⟩
    · exact ⟨o, ho, fun v q => by rw [hd] at q; cases q⟩
  keep := fun i h h' st k => let ⟨⟨old, he⟩, hi, hne⟩ := st; ⟨⟨old, k e (by simp) _ he⟩, hi.at fun o q => k it (by simp) o q, hne⟩
  item := by
    intro X hP hw hK hc i pins s σ H E I hf st hg
    subst hP hw hK
    obtain ⟨⟨old, he⟩, hit, hne, hea⟩ := st
    obtain ⟨xs, x, hq, hx⟩ := hg
    obtain ⟨its, rv, p, _⟩ := I.tuple hq
    obtain ⟨u, hu, ru⟩ := rv.get hx
    have hel : e < s.heap.objs.size := Heap.lt_size he
    have hil : it < s.heap.objs.size := by obtain ⟨_, q, _⟩ := hit; exact Heap.lt_size q
    have lt : i < its.toArray.size := by
      have := (List.getElem?_eq_some_iff.mp hu).1
      simpa using this
    have hai := apartT hit p
    refine wpAny_pyNext_enum_itemD (Draws.tuple (A := X.A.in1) (I.ok.hd hc) it a hai its.toArray) he ⟨hit, p⟩ lt hne (by simp [hne, hea]) fun y h' tk hy ho hst hT hsz hk => ?_
    have hy' : its[i]? = some y := by simpa using hy
    rw [hu] at hy'
    cases hy'
    refine ⟨_, rfl, wpAny_letOwnedTupleGo_enum (s := { s with heap := h', toks := tk + 1 }) ho fun h'' he' sb => ?_⟩
    have hT2 : h''.get? s.heap.objs.size = some { cls := .type "tuple", data := .seq #[.int i tk, u] } := (sb.2 _ (Nat.ne_of_gt hel)).trans hT
    have new : ObjOk X.prog X.w (upd H s.heap.objs.size (.tup [.int (i : Nat), x])) h'' s.heap.objs.size (.tup [.int (i : Nat), x]) := ⟨by show 2 ≤ sizeLine; decide, [.int i tk, u], .cons ⟨_, rfl⟩ (.cons ru .nil), ⟨_, hT2, rfl, _, rfl⟩⟩
    have I1 : Inv X pins σ (upd H s.heap.objs.size (.tup [.int (i : Nat), x])) { s with heap := h'', toks := tk + 1 } :=
      I.turnedNew (t' := tk + 1) (ch := [e, it]) (fun b ob hb q => (sb.2 b (fun z => hb (by simp [z]))).trans (hk b ob (fun z => hb (by simp [z])) (fun z => hb (by simp [z])) q)) hf (Nat.le_refl _) new
    refine ⟨.ref s.heap.objs.size, _, I1, rfl, ⟨_, x, rfl, I.hok.fresh (Nat.le_refl _), rfl, fun ys hy => by rw [I.tuple_inj hy hq]; exact hx⟩, ⟨⟨u, ?_⟩, hst.1.at fun o q => (sb.2 it (Ne.symm hne)).trans q, hne, hea⟩, fun b hb => ?_⟩
    · rw [show ((i + 1 : Nat) : Int) = (i : Int) + 1 by omega]; exact he'
    · have z : b = e ∨ b = it := by simpa using hb
      have hb' : b < s.heap.objs.size := by rcases z with z | z <;> rw [z] <;> assumption
      rw [upd_ne (Nat.ne_of_lt hb')]
      exact (hf b hb).1
  done := by
    intro X hP hw hK hc i pins s σ H E I hf st hg
    subst hP hw hK
    obtain ⟨⟨old, he⟩, hit, hne, hea⟩ := st
    obtain ⟨xs, hq, hx⟩ := hg
    obtain ⟨its, rv, p, _⟩ := I.tuple hq
    obtain ⟨f0, f1, f2, f3, f4, f5⟩ := hf it (by simp)
    have hl := rv.length
    have hi : i = its.toArray.size := by simp; omega
    have hai := apartT hit p
    refine wpAny_pyNext_enum_endD (Draws.tuple (A := X.A.in1) (I.ok.hd hc) it a hai its.toArray) he (by rw [← hi]; exact ⟨hit, p⟩) fun h' eb => ⟨rfl, I.turned (t' := s.toks) (fun b o hb q => eb b o hb q) f0 f1 f3 f4 f5⟩
  self := fun A i s Q E st h => let ⟨⟨_, he⟩, _⟩ := st; wpAny_pyIter_enum he h
theorem walk_enumT {K : PySem.W.Frag} {a : Addr} {xs : List V} : Walk (IteT K a) xs.length (fun H => SqT K H a xs) (YPair (fun i => some (.int (i : Nat))) (fun i => xs[i]?)) := by
  refine ⟨fun i _ hi q => ⟨xs, xs[i], q, by simp [hi]⟩, fun _ q => ⟨xs, q, rfl⟩, fun i H v H' _ q y => ?_⟩
  obtain ⟨T, x, h1, h2, h3, h4⟩ := y
  exact ⟨T, .int (i : Nat), x, h1, h2, h3, rfl, h4 xs q⟩
def iEnumA (K : PySem.W.Frag) (ta : TA) : TI := fun σ H R => ta σ H fun vs H1 => (∃ a xs, vs = [.ref a] ∧ SqL K H1 a xs ∧ R (Ite K a) H1) ∨ ∃ a xs, vs = [.ref a] ∧ SqT K H1 a xs ∧ R (IteT K a) H1
theorem pi_enumA {X : Cx} {e : Expr} {ta : TA} {p pos tpos : Pos} {elts : List Expr} {kk : Nat} (hg : Gl X "enumerate") (hm : X.mg "enumerate" = none) (ha : PA X [e] ta) (hs : starEach [e] X.env = [(false, eval e X.env)] := by rfl) :
    PI X (.Tuple elts kk tpos) (.Call (.Name "enumerate" p) [e] [] pos) (iEnumA X.K ta) := by
  refine ⟨fun pins s σ H R I h => ?_⟩
  refine Call_ (ld_blt I hg hm boot_enumerate (PyProof.Rows.callWith_type1 (thn (ha.run pos pins s σ H _ I h) fun us s1 ⟨vs, H1, I1, r1, q1⟩ => ?_) hs rfl))
  have fin : ∀ (h' : Heap) (J : It) (tn : Nat → Heap → Prop), Turn X.prog X.w X.K (.Tuple elts kk tpos) J [s1.heap.objs.size + 1, s1.heap.objs.size] (s1.heap.objs.size + 1) tn → tn 0 h' → (∀ b o, s1.heap.get? b = some o → h'.get? b = some o) → R J H1 → PIE X pins σ (.Tuple elts kk tpos) R (.ref (s1.heap.objs.size + 1)) { s1 with heap := h' } := fun h' J tn T st hk q =>
    ⟨_, _, tn, J, H1, rfl, I1.kept (t' := s1.toks) hk, T, st, fun b hb => by
      have z : b = s1.heap.objs.size + 1 ∨ b = s1.heap.objs.size := by simpa using hb
      have hle : s1.heap.objs.size ≤ b := by
        rcases z with z | z <;> rw [z]
        · exact Nat.le_add_right _ _
        · exact Nat.le_refl _
      exact I1.fpOk hle (I1.hok.fresh hle), q⟩
  rcases q1 with ⟨a, xs, rfl, hq, q⟩ | ⟨a, xs, rfl, hq, q⟩
  · cases r1 with
    | cons r rr =>
      cases rr
      cases r
      obtain ⟨its, rv, p', hz⟩ := I1.list hq
      exact call_enumerate_list p'.isList fun h' he hit hsz hk => wpAny_pyIter_enum he (fin h' _ _ (turn_enum a _ _) ⟨⟨.none, he⟩, hit, Nat.succ_ne_self _⟩ hk q)
  · cases r1 with
    | cons r rr =>
      cases rr
      cases r
      obtain ⟨its, rv, p', _⟩ := I1.tuple hq
      have la : a < s1.heap.objs.size := by obtain ⟨o, e, _⟩ := p'; exact Heap.lt_size e
      exact call_enum1 (begins_tuple a its.toArray) p' fun h' he ho hk => wpAny_pyIter_enum he (fin h' _ _ (turn_enumT a _ _) ⟨⟨.none, he⟩, ⟨_, ho, rfl, rfl⟩, Nat.succ_ne_self _, Nat.ne_of_gt (Nat.lt_succ_of_lt la)⟩ hk q)

def enumD : Nat → List Dt → List Dt
  | _, [] => []
  | i, x :: xs => .tup [.int i, x] :: enumD (i + 1) xs
theorem enumD_len : ∀ (k : Nat) (xs : List Dt), (enumD k xs).length = xs.length
  | _, [] => rfl
  | k, _ :: xs => by simp [enumD, enumD_len (k + 1) xs]
theorem enumD_at : ∀ (k : Nat) (xs : List Dt) (i : Nat), (enumD k xs)[i]? = xs[i]?.map fun x => .tup [.int ((k + i : Nat) : Int), x]
  | _, [], i => by simp [enumD]
  | k, x :: xs, 0 => by simp [enumD]
  | k, x :: xs, i + 1 => by
    have := enumD_at (k + 1) xs i
    simp only [enumD, List.getElem?_cons_succ, this]
    rw [show k + 1 + i = k + (i + 1) by omega]
def itE : Dt → Wp (List Dt)
  | .lst xs => .ret (enumD 0 xs)
  | .tup xs => .ret (enumD 0 xs)
  | .scr ns => .ret (enumD 0 (ns.map Dt.int))
  | _ => .bad
section
variable {X : Cx} {Z : Kx} {E : XS} {e e2 : Expr} {es : List Expr} {p pos tpos apos : Pos} {B H : Hp} {kk : Nat}
theorem walkE {J : It} {vs : List V} {xs : List Dt} {G : Hp → Prop} (w : Walk J vs.length G (YPair (fun i => some (.int (i : Nat))) (fun i => vs[i]?))) (hG : ∀ B' H', Ex B B' → Ex B' H' → G H') (r : RpAll Z B vs xs) : WalkD Z J B (enumD 0 xs) := by
  refine ⟨G, _, by rw [enumD_len, ← r.len]; exact w, hG, fun i H x H' B' hi e1 e2 y => ?_⟩
  obtain ⟨T, a, b, rfl, hT, rfl, ha, hb⟩ := y
  cases ha
  rw [enumD_len] at hi
  obtain ⟨v, hv, rv⟩ := r.at (List.getElem?_eq_getElem hi)
  have hb : vs[i]? = some b := hb
  rw [hv] at hb
  cases hb
  have g : Gr B' H (upd B' T (.tup [.int (i : Nat), b])) (upd H T (.tup [.int (i : Nat), b])) := Gr.new e2 hT
  exact ⟨_, _, by rw [enumD_at, List.getElem?_eq_getElem hi]; rfl, g, .tup (.inl (.inl upd_same)) (.cons (by rw [Nat.zero_add]; exact .int _) (.one (rv.ex (e1.trans g.b))))⟩
theorem mi_enum {m : Env → Wp Dt} (hg : Gl X "enumerate") (hm : X.mg "enumerate" = none) (h : ME X E e m) (hs : starEach [e] X.env = (false, eval e X.env) :: starEach [] X.env := by rfl) : MI X E (.Tuple es kk tpos) (.Call (.Name "enumerate" p) [e] [] pos) (fun ρ => (m ρ).bind itE) := by
  obtain ⟨t, pe, v⟩ := h
  refine ⟨_, pi_enumA hg hm (pa_cons pe pa_nil hs) hs, fun ρ => mn_bind (v.mn ρ) fun d => by cases d <;> first | exact mn_ret | exact mn_bad, fun B0 F ρ σ B H R s q => v.run B0 F ρ σ B H _ s (v.mn ρ _ _ _ _ (fun d z u B1 H1 g r => ?_) (fun _ z => z) q)⟩
  cases d with
  | lst xs =>
    cases r with
    | lst ha ra => exact .inl ⟨_, _, rfl, .inl (.inl (g.bh _ _ ha)), z _ B1 H1 g (walkE walk_enum (fun B' H' e1 e2 => .inl (.inl (e2 _ _ (e1 _ _ ha)))) ra)⟩
  | scr ns =>
    cases r with
    | scr ha => exact .inl ⟨_, _, rfl, g.bh.lg.sql ha, z _ B1 H1 g (walkE walk_enum (fun B' H' e1 e2 => (e1.trans e2).lg.sql ha) (RpAll.ints ns))⟩
  | tup xs =>
    cases r with
    | tup ha ra => exact .inr ⟨_, _, rfl, g.bh.lg.sqt ha, z _ B1 H1 g (walkE walk_enumT (fun B' H' e1 e2 => (e1.trans e2).lg.sqt ha) ra)⟩
  | _ => exact z.elim
theorem RpKv.atI : ∀ {vs : List (Key × V)} {xs : List (Key × Dt)}, RpKv Z B vs xs → ∀ {i : Nat}, i < xs.length → ∃ k v d, vs[i]? = some (k, v) ∧ xs[i]? = some (k, d) ∧ Rp Z B v d
  | _, _, .nil, i, h => by simp at h
  | _, _, .cons a r, 0, h => ⟨_, _, _, rfl, rfl, a⟩
  | _, _, .cons a r, i + 1, h => by
    obtain ⟨k, v, d, h1, h2, h3⟩ := r.atI (i := i) (by simpa using h)
    exact ⟨k, v, d, by simpa using h1, by simpa using h2, h3⟩
end
end Mv

namespace Mv
open PySem PySem.Spec PyProof.Rows L2 PySem.Froz
abbrev set0 (w : World) : Obj := { cls := .type "set", dict := none, data := .set #[] 0 (.fresh 0 0 (!w.params.followText "set-order")) }
section
variable {P : Program} {w : World} {h h' : Heap} {a : Addr} {l : List PySem.Str} {k : PySem.Str} {D : SD}
theorem TsA.at (T : TsA P w h a l) (q : ∀ o, h.get? a = some o → h'.get? a = some o) : TsA P w h' a l := let ⟨D, e, r⟩ := T; ⟨D, q _ e, r⟩
theorem led_new {h : Heap} {a : Addr} : (w.params.followText "set-order" = true ∨ (SetTable.fresh 0 0 (!w.params.followText "set-order")).led = true) := by
  cases e : w.params.followText "set-order"
  · exact .inr rfl
  · exact .inl rfl
theorem tsA_new (e : h.get? a = some (set0 w)) : TsA P w h a [] := ⟨(#[], 0, .fresh 0 0 (!w.params.followText "set-order")), e, TxOk.nil rfl, List.Pairwise.nil, led_new (h := h) (a := a)⟩
theorem tail_led {ep : Nat} {es : Array (Int × Value)} {t : SetTable} {b : Bool} (r : Ris t.place.toList) (d : w.params.followText "set-order" = true ∨ t.led = true) : Ris (tailTx ep es t b).2.2.place.toList ∧ (w.params.followText "set-order" = true ∨ (tailTx ep es t b).2.2.led = true) := by
  unfold tailTx
  split
  · exact ⟨relayAll_ris _ _ _, d.imp id fun z => by rw [relayAll_led]; exact z⟩
  · exact ⟨r, d⟩
theorem TsD.add (T : TsD P w D l) (u : Tok) : TsD P w (addTx (hashStr w k) (.str k u) D) (k :: l) := by
  obtain ⟨F, r, d⟩ := T
  obtain ⟨es, ep, t⟩ := D
  refine ⟨add_ok u F, ?_⟩
  have r1 := layNew_ris t es (hashStr w k) (.str k u) r
  have d1 : w.params.followText "set-order" = true ∨ (layNew t es (hashStr w k) (.str k u)).2.1.led = true := d.imp id fun z => by rw [layNew_led]; exact z
  refine tail_led ?_ ?_ <;> (split <;> assumption)
end
def addS (l : List PySem.Str) (k : PySem.Str) : List PySem.Str := if k ∈ l then l else k :: l
def setS (ks : List PySem.Str) : List PySem.Str := ks.foldl addS []
theorem addS_len (l : List PySem.Str) (k : PySem.Str) : (addS l k).length ≤ l.length + 1 := by unfold addS; split <;> simp
theorem setS_len : ∀ (ks l : List PySem.Str), (ks.foldl addS l).length ≤ l.length + ks.length
  | [], l => by simp
  | k :: ks, l => by
    have := setS_len ks (addS l k)
    have := addS_len l k
    simp only [List.foldl_cons, List.length_cons]; omega
section
variable {P : Program} {w : World} {A : Around} {E : Value → Shared → Prop} {s : Shared} {a : Addr} {l : List PySem.Str} {k : PySem.Str} {u : Tok}
theorem ts_add {Q : Bool → Shared → Prop} (T : TsA P w s.heap a l) (hb : l.length + 1 < scanBound) (h : ∀ b h', TsA P w h' a (addS l k) → Heap.SameBut a s.heap h' → Q b { s with heap := h' }) : wpAny (model P w) A (setAddHashed a (.str k u) (hashStr w k)) Q E s := by
  obtain ⟨D, e, T⟩ := T
  by_cases hk : k ∈ l
  · have q := h false s.heap (by unfold addS; rw [if_pos hk]; exact ⟨D, e, T⟩) (Heap.SameBut.refl a s.heap)
    obtain ⟨es, ep, t⟩ := D
    have F := T.1
    have el : ElemsOf (PySem.strKind P w) es.toList := F.el
    have ft : t.fits es.size = true := F.fit
    have sz : es.size = l.length := F.sz
    have hd : (sObj "set" (es, ep, t)).data = .set es ep t := rfl
    unfold setAddHashed setAddHashedIn
    refine wpAny_holding (wpAny_bind (wpAny_setState_of e hd ft ?_))
    dsimp only
    rw [byScan_of rfl (by omega) el]
    simp only [↓reduceIte]
    unfold setAddByScan
    refine wpAny_bind (wpAny_bind (wpAny_rule (wpAny_bind (wpAny_setScan_of (knd := PySem.strKind P w) (k := k) (is_str k u) e hd ft el ?_))))
    cases hfi : List.findIdx? (fun e => (PySem.strKind P w).is k e.2) es.toList with
    | some j => exact wpAny_pure (wpAny_pure q)
    | none =>
      obtain ⟨x, hx, z⟩ := (F.mem k).mp hk
      have c := List.findIdx?_eq_none_iff.mp hfi x hx
      rw [z] at c; cases c
  · refine add_x e T.1 hk hb (h true _ ?_ (Heap.SameBut.update s.heap a _))
    unfold addS
    rw [if_neg hk]
    exact ⟨_, get_upd _ e rfl, T.add u⟩
theorem ts_update {I : Addr} {fp wr : List Addr} {G : Array GenState → Array GenState → Prop} {n : Nat} {Pv : Nat → Value → Prop} {St : Nat → Shared → Prop} {R : Result → Shared → Prop}
    (W : WalksS P w A.in1 I fp wr G n Pv St) (S : Addr) (hSf : S ∉ fp) (ks : List PySem.Str) (hn : n = ks.length) (hb : ks.length + 1 < scanBound) (hval : ∀ i v, Pv i v → ∃ k t, ks[i]? = some k ∧ v = .str k t) :
    ∀ (m i : Nat) (s : Shared), n - i = m → i ≤ n → St i s → TsA P w s.heap S (setS (ks.take i)) → (∀ s', Moved (S :: wr) G s s' → TsA P w s'.heap S (setS ks) → R (.ok (.ret .none)) s') →
      codeAny (model P w) A (.builtin "set.update.loop" ⟨[.ref S, .ref I], []⟩) R s := by
  have hSw : S ∉ wr := fun z => hSf (W.sub _ z)
  have up : ∀ b ∈ wr, b ∈ S :: wr := fun b z => List.mem_cons_of_mem _ z
  intro m
  induction m with
  | zero =>
    intro i s hm hi st T hR
    have ei : i = n := by omega
    refine codeAny_builtin F.entry_set_update_loop ?_
    rw [Around.under_plainId F.plain_set_update_loop _]
    refine wpAny_bind (m := pyNext (.ref I)) (W.done s _ _ (ei ▸ st) fun s' mv => wpAny_pure (hR s' (mv.mono up) ?_))
    rw [List.take_of_length_le (by omega)] at T
    exact T.at fun o e => mv.heap S o hSw e
  | succ m ih =>
    intro i s hm hi st T hR
    have lt : i < n := by omega
    refine codeAny_builtin F.entry_set_update_loop ?_
    rw [Around.under_plainId F.plain_set_update_loop _]
    refine wpAny_bind (m := pyNext (.ref I)) (W.item i s _ _ lt st fun v s' hP st' mv => ?_)
    obtain ⟨k, t, hk, rfl⟩ := hval i v hP
    have T' : TsA P w s'.heap S (setS (ks.take i)) := T.at fun o e => mv.heap S o hSw e
    have ln : (setS (ks.take i)).length ≤ i := by
      have := setS_len (ks.take i) []
      unfold setS
      simp only [List.length_nil, List.length_take] at this
      omega
    refine wpAny_bind (m := holding [Value.str k t] (setAdd S (.str k t))) (wpAny_holding ?_)
    unfold setAdd
    refine wpAny_holding (wpAny_bind ((PySem.strKind P w).pyHash (k := k) (is_str _ _) ?_))
    refine ts_add (s := { s' with toks := s'.toks + 1 }) T' (by omega) fun b h' T2 sb => ?_
    have e2 : addS (setS (ks.take i)) k = setS (ks.take (i + 1)) := by
      unfold setS
      rw [List.take_add_one, hk, List.foldl_append]; rfl
    rw [e2] at T2
    refine wpAny_pure ⟨plainId_quiet F.plain_set_update_loop _, ih (i + 1) _ (by omega) lt (W.frame _ s' _ _ st' (Nat.le_succ _) fun b z o e => ?_) T2 fun s2 mv2 T3 => hR s2 (Moved.trans W.gtrans ((mv.mono up).then_heap (Nat.le_succ _) fun b o z e => ?_) mv2) T3⟩
    · rw [sb.2 b fun y => hSf (y ▸ z)]; exact e
    · rw [sb.2 b fun y => z (y ▸ List.mem_cons_self)]; exact e
end
end Mv

namespace Mv
open PySem PySem.Spec PyProof.Rows L2 PySem.Froz
section
variable {P : Program} {w : World} {A : Around} {E : Value → Shared → Prop} {s : Shared}
def SetMade (P : Program) (w : World) (s : Shared) (ks : List PySem.Str) (s₂ : Shared) : Prop := ∃ h' tk, s₂ = { s with heap := h', toks := tk } ∧ TsA P w h' s.heap.objs.size (setS ks) ∧ ∀ b o, s.heap.get? b = some o → h'.get? b = some o
/-- set(v): the shell around __init__ -/
theorem set_shell {v : Value} {ks : List PySem.Str} {Q : Value → Shared → Prop} (hh : A.handled = none)
    (init : ∀ A' : Around, A'.handled = none → wpAny (model P w) A' (Builtin.«set.__init__» ⟨[.ref s.heap.objs.size, v], []⟩) (fun f s₂ => ∃ r, f = .done (.ret r) ∧ r = .none ∧ SetMade P w s ks s₂) E { s with heap := s.heap.push (set0 w) })
    (h : ∀ s₂, SetMade P w s ks s₂ → Q (.ref s.heap.objs.size) s₂) : wpAny (model P w) A (call (.type "set") [v]) Q E s := by
  obtain ⟨c, tl, hmro⟩ := F.called_set.mro
  have hmade := F.called_set.made
  have hsub := F.called_set.sub
  refine wpAny_call (codeAny_of_tree ?_)
  show wpAny _ _ (callAny (.type "set") _) _ _ _
  refine wpAny_pure ⟨Code.quiet_builtin _ (by decide +kernel), codeAny_builtin F.entry_type_call ?_⟩
  rw [Around.under_plain (weight_type_call_type "set" [v] []) rfl]
  have h1 := F.called_set.notType
  have h2 := F.called_set.canCreate
  have hct := F.typeCall_set_1 v
  repeat (any_goals (first | assumption | wp_step))
  refine codeAny_mono (code_set_led1 v (E := E) (Q₁ := fun obj s₁ => obj = .ref s.heap.objs.size ∧ s₁ = { s with heap := s.heap.push (set0 w) }) ⟨rfl, rfl⟩) fun r s₁ hr => ?_
  cases r with
  | error e => exact hr
  | ok fl =>
    cases fl with
    | ret obj =>
      obtain ⟨rfl, rfl⟩ := hr
      have hS : (s.heap.push (set0 w)).get? s.heap.objs.size = some (set0 w) := Heap.get?_push_size _ rfl
      have hT : Shared.TypeIs { s with heap := s.heap.push (set0 w) } (.ref s.heap.objs.size) "set" := ⟨_, hS, rfl⟩
      have hli := F.called_set.init.lookup
      have hbi := F.called_set.init.bind (.ref s.heap.objs.size)
      repeat (any_goals (first | assumption | wp_step))
      refine codeAny_mono (codeAny_call_builtin (R := wants (fun r s₂ => r = .none ∧ SetMade P w s ks s₂) E) F.called_set.init.plain F.entry_set_init (check_set_init_1 hT ?_)) fun r₂ s₂ hr₂ => ?_
      · exact wpAny_mono (init A.in1.in1 hh) (fun f s₂ ⟨r, e, er, m⟩ => by subst e er; exact ⟨rfl, m⟩) fun _ _ z => z
      · cases r₂ with
        | error e => exact hr₂
        | ok fl₂ =>
          cases fl₂ with
          | ret r =>
            obtain ⟨rfl, hM⟩ := hr₂
            repeat (any_goals (first | assumption | wp_step))
            exact h _ hM
          | _ => exact hr₂.elim
    | _ => exact hr.elim

theorem strsVal : ∀ {us : List Value} {ks : List PySem.Str}, StrsAre us ks → ∀ {i : Nat} {v : Value}, us[i]? = some v → ∃ k t, ks[i]? = some k ∧ v = .str k t
  | _, _, .nil, i, v, h => by simp at h
  | _, _, .cons y t r, 0, v, h => by simp at h; exact ⟨y, t, rfl, h.symm⟩
  | _, _, .cons y t r, i + 1, v, h => by
    obtain ⟨k, t, h1, h2⟩ := strsVal r (i := i) (by simpa using h)
    exact ⟨k, t, by simpa using h1, h2⟩
/-- the end of __init__: the loop's walk is known -/
theorem init_loop {A' : Around} {v : Value} {ks : List PySem.Str} {I : Addr} {fp : List Addr} {n : Nat} {Pv : Nat → Value → Prop} {St : Nat → Heap → Prop} {R : Result → Shared → Prop} {h1 : Heap} (W : Walks P w A'.in1 I fp [I] n Pv St) (hI : s.heap.objs.size ≠ I) (hI2 : s.heap.objs.size ≤ I) (hSf : s.heap.objs.size ∉ fp) (hn : n = ks.length) (hb : ks.length + 1 < scanBound)
    (hval : ∀ i v, Pv i v → ∃ k t, ks[i]? = some k ∧ v = .str k t) (st : St 0 h1) (hS : h1.get? s.heap.objs.size = some (set0 w)) (keep : ∀ b o, s.heap.get? b = some o → h1.get? b = some o)
    (hR : ∀ s₂, SetMade P w s ks s₂ → R (.ok (.ret .none)) s₂) : codeAny (model P w) A' (.builtin "set.update.loop" ⟨[.ref s.heap.objs.size, .ref I], []⟩) R { s with heap := h1 } := by
  refine ts_update W.toS s.heap.objs.size hSf ks hn hb hval (n - 0) 0 _ rfl (Nat.zero_le _) st (tsA_new hS) fun s' mv T => hR s' ?_
  obtain ⟨h', g2, d', tk', os'⟩ := s'
  have eg : g2 = s.gens := mv.gens
  have ed : d' = s.drawn := mv.drawn
  have eo : os' = s.os := mv.os
  subst eg ed eo
  refine ⟨h', tk', rfl, T, fun b o e => mv.heap b o ?_ (keep b o e)⟩
  have hb0 : b < s.heap.objs.size := Heap.lt_size e
  simp only [List.mem_cons, List.not_mem_nil, or_false, not_or]
  exact ⟨Nat.ne_of_lt hb0, Nat.ne_of_lt (Nat.lt_of_lt_of_le hb0 hI2)⟩
/-- set(t), t a tuple of texts -/
theorem call_setT {l : Addr} {items : Array Value} {ks : List PySem.Str} {Q : Value → Shared → Prop} (hh : A.handled = none) (hl : s.heap.IsTuple l items) (hit : StrsAre items.toList ks) (hb : ks.length + 1 < scanBound)
    (h : ∀ s₂, SetMade P w s ks s₂ → Q (.ref s.heap.objs.size) s₂) : wpAny (model P w) A (call (.type "set") [.ref l]) Q E s := by
  refine set_shell hh (fun A' hh' => ?_) h
  have hisz : items.size = ks.length := by have q := StrsAre.length hit; rw [Array.length_toList] at q; exact q
  obtain ⟨ol, hol, hcl, nl, hdl⟩ := hl
  obtain ⟨ocls, odict, odata, oslots⟩ := ol
  simp only at hcl hdl
  subst hcl; subst hdl
  have hol' : (s.heap.push (set0 w)).get? l = some { cls := .type "tuple", dict := odict, data := .seq items nl, slots := oslots } := Heap.get?_push_of_some _ hol
  have hsls := F.sub_tuple_set
  have hslf := F.sub_tuple_frozenset
  have hne : (Value.type "tuple" == Value.type "dict") = false := by decide
  have hl1 : (s.heap.push (set0 w)).IsTuple l items := ⟨_, hol', rfl, nl, rfl⟩
  have hlS : l < s.heap.objs.size := Heap.lt_size hol
  have hz : (s.heap.push (set0 w)).objs.size = s.heap.objs.size + 1 := Heap.size_push ..
  unfold Builtin.«set.__init__» noKeywords Builtin.Frozenset.updateFrom
  generalize hPI : pyIter = PI
  wp_walk
  subst hPI
  refine wpAny_pyIter_tuple hl1 (wpAny_bind (wpAny_runValue ?_))
  refine init_loop (s := s) (v := .ref l) (ks := ks) (Walks.tuple (A := A'.in1) hh' _ l ?_ items) ?_ ?_ ?_ hisz hb (fun i v hv => ?_) ⟨⟨_, Heap.get?_push_size _ rfl, rfl, rfl⟩, hl1.push _⟩ (Heap.get?_push_of_some _ (Heap.get?_push_size _ rfl)) (fun b o e => Heap.get?_push_of_some _ (Heap.get?_push_of_some _ e)) fun s₂ m => ?_
  · rw [hz]; exact Nat.ne_of_lt (Nat.lt_succ_of_lt hlS)
  · rw [hz]; exact Nat.ne_of_lt (Nat.lt_succ_self _)
  · rw [hz]; exact Nat.le_succ _
  · rw [hz]
    simp only [List.mem_cons, List.not_mem_nil, or_false, not_or]
    exact ⟨Nat.ne_of_lt (Nat.lt_succ_self _), Nat.ne_of_gt hlS⟩
  · exact strsVal hit (by rw [Array.getElem?_toList]; exact hv)
  · exact wpAny_pure (wpAny_pure ⟨_, rfl, rfl, m⟩)
/-- set(x), x a text -/
theorem call_setX {x : PySem.Str} {t : Tok} {Q : Value → Shared → Prop} (hh : A.handled = none) (hb : x.cps.size + 1 < scanBound)
    (h : ∀ s₂, SetMade P w s (x.cps.toList.map fun c => ⟨#[c]⟩) s₂ → Q (.ref s.heap.objs.size) s₂) : wpAny (model P w) A (call (.type "set") [.str x t]) Q E s := by
  refine set_shell hh (fun A' hh' => ?_) h
  have hsls := F.sub_str_set
  have hslf := F.sub_str_frozenset
  have hz : (s.heap.push (set0 w)).objs.size = s.heap.objs.size + 1 := Heap.size_push ..
  unfold Builtin.«set.__init__» noKeywords Builtin.Frozenset.updateFrom
  generalize hPI : pyIter = PI
  wp_walk
  subst hPI
  have fin : ∀ (T : String) (W : Walks P w A'.in1 (s.heap.push (set0 w)).objs.size [(s.heap.push (set0 w)).objs.size] [(s.heap.push (set0 w)).objs.size] x.cps.size (SignAt x) (fun i h => h.IsStrIter (s.heap.push (set0 w)).objs.size T x t i)),
      codeAny (model P w) A' (.builtin "set.update.loop" ⟨[.ref s.heap.objs.size, .ref (s.heap.push (set0 w)).objs.size], []⟩) (fun r s₂ => r = .ok (.ret .none) ∧ SetMade P w s (x.cps.toList.map fun c => ⟨#[c]⟩) s₂) { s with heap := (s.heap.push (set0 w)).push { cls := .type T, data := .fields #[.str x t, .int 0 0] } } := fun T W => by
    refine init_loop (s := s) (v := .str x t) (ks := x.cps.toList.map fun c => ⟨#[c]⟩) W ?_ ?_ ?_ (by simp) (by simpa using hb) (fun i v hv => ?_) ⟨_, Heap.get?_push_size _ rfl, rfl, rfl⟩ (Heap.get?_push_of_some _ (Heap.get?_push_size _ rfl)) (fun b o e => Heap.get?_push_of_some _ (Heap.get?_push_of_some _ e)) fun s₂ m => ⟨rfl, m⟩
    · rw [hz]; exact Nat.ne_of_lt (Nat.lt_succ_self _)
    · rw [hz]; exact Nat.le_succ _
    · rw [hz]
      simp only [List.mem_cons, List.not_mem_nil, or_false]
      exact Nat.ne_of_lt (Nat.lt_succ_self _)
    · obtain ⟨c, u, h1, rfl⟩ := hv
      exact ⟨_, u, by simp [h1], rfl⟩
  have use : ∀ {r : Result} {s₂ : Shared}, r = .ok (.ret .none) ∧ SetMade P w s (x.cps.toList.map fun c => ⟨#[c]⟩) s₂ → wants (fun a s' => wpAny (model P w) A' (pure ()) (fun a s' => wpAny (model P w) A' (ret Value.none) (fun f s₂ => ∃ r, f = Fin.done (Flow.ret r) ∧ r = Value.none ∧ SetMade P w s (x.cps.toList.map fun c => ⟨#[c]⟩) s₂) E s') E s') E r s₂ := fun {r s₂} ⟨e, m⟩ => by
    subst e
    exact wpAny_pure (wpAny_pure ⟨_, rfl, rfl, m⟩)
  cases ha : x.cps.all (· < 128)
  · exact wpAny_pyIter_wide ha (wpAny_bind (wpAny_runValue (codeAny_mono (fin _ (Walks.strWide (A := A'.in1) hh' _ x t)) fun r s₂ z => use z)))
  · exact wpAny_pyIter_ascii ha (wpAny_bind (wpAny_runValue (codeAny_mono (fin _ (Walks.strAscii (A := A'.in1) hh' _ x t)) fun r s₂ z => use z)))
end
end Mv

namespace Mv
open PySem PySem.Spec PyProof.Rows L2 PySem.Froz
theorem tsO_new {P : Program} {w : World} {H : Hp} {h : Heap} {a : Addr} {l : List PySem.Str} (T : TsA P w h a l) : ObjOk P w H h a (TsO P w a l) :=
  ⟨T, let ⟨_, e, _⟩ := T; ⟨_, e⟩, fun _ _ x k => x.at k⟩
theorem tsO_get {X : Cx} {pins : List (Addr × Obj)} {σ : L2.St} {H : Hp} {s : Shared} {a : Addr} {l : List PySem.Str} (I : Inv X pins σ H s) (ha : H a = some (TsO X.prog X.w a l)) : TsA X.prog X.w s.heap a l := (I.hok a _ ha).1
theorem perm_of {α : Type} [DecidableEq α] : ∀ (l ss : List α), l.Nodup → (∀ k ∈ l, k ∈ ss) → ss.length ≤ l.length → ss.Perm l
  | [], ss, _, _, h => by
    have : ss = [] := List.length_eq_zero_iff.mp (by simpa using h)
    rw [this]
  | k :: l, ss, nd, hm, h => by
    obtain ⟨n1, n2⟩ := List.nodup_cons.mp nd
    have hk := hm k (by simp)
    have p := List.perm_cons_erase hk
    refine p.trans (List.Perm.cons k (perm_of l _ n2 (fun x hx => ?_) ?_))
    · have ne : x ≠ k := fun z => n1 (z ▸ hx)
      exact (List.mem_erase_of_ne ne).mpr (hm x (by simp [hx]))
    · have := List.length_erase_of_mem hk
      simp only [List.length_cons] at h
      omega
section
variable {P : Program} {w : World} {A : Around} {E : Value → Shared → Prop} {s : Shared} {a : Addr} {l : List PySem.Str}
theorem isStr_eq {j k : PySem.Str} {t : Tok} (e : Value.isStrOf j (.str k t) = true) : j = k := by
  have e : (k == j) = true := e
  exact (eq_of_beq e).symm
theorem strs_of : ∀ (vs : List Value), (∀ v ∈ vs, ∃ k t, v = Value.str k t) → ∃ ks, StrsAre vs ks ∧ ∀ k, k ∈ ks ↔ ∃ v ∈ vs, Value.isStrOf k v = true
  | [], _ => ⟨[], .nil, fun k => by simp⟩
  | v :: vs, h => by
    obtain ⟨k, t, rfl⟩ := h v (by simp)
    obtain ⟨ks, h1, h2⟩ := strs_of vs fun u hu => h u (by simp [hu])
    refine ⟨k :: ks, .cons k t h1, fun j => ?_⟩
    simp only [List.mem_cons, h2]
    constructor
    · rintro (rfl | ⟨v, hv, e⟩)
      · exact ⟨_, .inl rfl, by simp [Value.isStrOf]⟩
      · exact ⟨v, .inr hv, e⟩
    · rintro ⟨v, rfl | hv, e⟩
      · exact .inl (isStr_eq e)
      · exact .inr ⟨v, hv, e⟩
/-- sorted(set) -/
theorem ts_sorted {Q : Value → Shared → Prop} (T : TsA P w s.heap a l) (nd : l.Nodup) (hh : A.handled = none) (h64 : l.length < 64)
    (hQ : ∀ s' p (out : Array Value) (c : Nat) (ys : List PySem.Str), (∀ b o, s.heap.get? b = some o → s'.heap.get? b = some o) → s'.gens = s.gens → s'.os = s.os → s.heap.objs.size ≤ p →
      s'.heap.get? p = some (seqObj "list" out c) → StrsAre out.toList ys → ys.Perm l → sortedS ys = true → Q (.ref p) s') :
    wpAny (model P w) A (call (.builtin "sorted") [.ref a]) Q E s := by
  obtain ⟨⟨es, ep, t⟩, ho, F, r, d⟩ := T
  have sz : es.size = l.length := F.sz
  refine Calls.call_function_entry kind_sorted plain_sorted entry_sorted (args_sorted1 _) ?_
  unfold Builtin.«sorted»
  refine wpAny_bind (m := checkCount "sorted" 1 1 _) (wpAny_pure (wpAny_bind (collect_set (A := A.in1) hh ⟨_, ho, rfl, rfl⟩ F.fit (by show es.size < scanBound; rw [sz]; have : scanBound = 4096 := rfl; omega) r d fun s1 vs k1 hz g1 o1 pm => ?_)))
  have vl : vs.length = l.length := by rw [pm.length_eq, List.length_map, Array.length_toList]; exact sz
  obtain ⟨ks, hS, hm⟩ := strs_of vs fun v hv => by
    obtain ⟨e, he, q⟩ := List.mem_map.mp (pm.mem_iff.mp hv)
    obtain ⟨⟨k, hk, _⟩, _⟩ := F.el e he
    rw [q] at hk
    have hk : Value.isStrOf k v = true := hk
    cases v <;> first | exact ⟨_, _, rfl⟩ | (simp [Value.isStrOf] at hk)
  have kp : ks.Perm l := by
    refine perm_of l ks nd (fun k hk => (hm k).mpr ?_) ?_
    · obtain ⟨e, he, q⟩ := (F.mem k).mp hk
      exact ⟨e.2, pm.mem_iff.mpr (List.mem_map.mpr ⟨e, he, rfl⟩), q⟩
    · rw [← hS.length, vl]; exact Nat.le_refl _
  refine wpAny_bind (wpAny_newList ?_ (by rw [vl, sizeLine_eq]; omega))
  have hoL : (s1.heap.push (seqObj "list" vs.toArray 0)).get? s1.heap.objs.size = some (seqObj "list" vs.toArray 0) := Heap.get?_push_size _ rfl
  refine wpAny_bind (wpAny_holding (wpAny_call_entry slot_list_sort ⟨_, hoL, rfl⟩ entry_list_sort (list_sort_treeK strKind_oneLt hoL hS.keysOf (fun v₁ v₂ rest e => keyKind_strs (by rw [← e]; exact hS)) (by rw [vl]; exact h64) fun st' hp hs => ⟨_, rfl, ?_⟩) (args_list_sort _)))
  obtain ⟨ys, y1, y2, y3⟩ := sorted_out_str hS hp hs
  obtain ⟨c, hc⟩ := sortedHeap_at (vs := vs) (out := (arrOf st').map (·.2)) hoL
  refine wpAny_pure ⟨_, rfl, hQ _ s1.heap.objs.size _ c ys (fun b u e => ?_) g1 o1 hz hc y1 (y2.trans kp) y3⟩
  have q := k1 b u e
  have hlt := Heap.lt_size q
  show (sortedHeap (s1.heap.push (seqObj "list" vs.toArray 0)) s1.heap.objs.size vs ((arrOf st').map (·.2))).get? b = some u
  rw [sortedHeap_old (Nat.ne_of_lt hlt) (by rw [size_push']; exact Nat.lt_succ_of_lt hlt)]
  exact Heap.get?_push_of_some _ q
end
section
variable {X : Cx} {Z : Kx}
def rSortT (P : Program) (w : World) (K : PySem.W.Frag) : List V → Hp → VK → Prop := fun vs H Q => (∃ (a : Addr) (l : List PySem.Str), vs = [V.ref a] ∧ H a = some (TsO P w a l) ∧ l.Nodup ∧ l.length < 64 ∧
  ∀ (ys : List PySem.Str) (p : Addr), ys.Perm l → sortedS ys = true → H p = none → Q (.ref p) (upd H p (.lst (ys.map V.str)))) ∨ rSortedS K vs H Q
theorem cr_sortT (hc : X.calm = true) : CallR X (.builtin "sorted") (rSortT X.prog X.w X.K) := by
  refine CallR.or (fun pins s σ H vs us Q I r h => ?_) cr_sortedS
  obtain ⟨a, l, rfl, ha, nd, h64, q⟩ := h
  rw [Vals.ref1 r]
  refine ts_sorted (tsO_get I ha) nd (I.ok.hd hc) h64 fun s' p out c ys k g o hp hg hi yp ysd => ?_
  have hlen : (ys.map V.str).length ≤ sizeLine := by rw [List.length_map, yp.length_eq, sizeLine_eq]; omega
  have hn : H p = none := I.hok.fresh hp
  have J : Inv X pins σ (upd H p (.lst (ys.map V.str))) { s with heap := s'.heap, gens := s'.gens, drawn := s'.drawn, toks := s'.toks } :=
    I.call (ch := []) (Un.laid k hp hn) (I.hok.laid k hp ⟨hlen, out.toList, c, vals_of_strs hi, hg⟩) (by rw [g]; exact I.bare) (fun _ z => nomatch z)
  have e : s' = { s with heap := s'.heap, gens := s'.gens, drawn := s'.drawn, toks := s'.toks } := by
    cases s'; cases s; cases o; rfl
  rw [e]
  exact ⟨.ref p, _, J, rfl, q ys p yp ysd hn⟩
/-- sorted(..) of a set or a list of texts -/
def pySort : List Dt → Wp Nw
  | [.set l] => fun Q _ => (l.Nodup ∧ l.length < 64) ∧ ∀ ys : List PySem.Str, ys.Perm l → sortedS ys = true → Q (.l (ys.map Dt.str))
  | [.lst xs] => (ofO (strsOf xs)).bind fun l => fun Q _ => l.length < 64 ∧ ∀ ys : List PySem.Str, ys.Perm l → sortedS ys = true → Q (.l (ys.map Dt.str))
  | _ => .bad
theorem mn_pySort (ds : List Dt) : Mn (pySort ds) := by
  unfold pySort; split
  · exact fun Q Q' E E' h _ q => ⟨q.1, fun ys h1 h2 => h _ (q.2 ys h1 h2)⟩
  · exact mn_bind (mn_ofO _) fun l => fun Q Q' E E' h _ q => ⟨q.1, fun ys h1 h2 => h _ (q.2 ys h1 h2)⟩
  · exact mn_bad
theorem rp_strs {B : Hp} : ∀ ys : List PySem.Str, RpAll Z B (ys.map V.str) (ys.map Dt.str)
  | [] => .nil
  | y :: ys => .cons (.str y) (rp_strs ys)
theorem cn_pySort : CallN Z (rSortT Z.P Z.w Z.K) pySort := by
  refine ⟨mn_pySort, fun ds vs B H Q Ex' e r0 q => ?_⟩
  unfold pySort at q
  split at q
  · obtain ⟨v, rfl, r⟩ := r0.one
    cases r with
    | fz r =>
      cases r with
      | set ha => exact .inl ⟨_, _, rfl, e _ _ ha, q.1.1, q.1.2, fun ys p h1 h2 n => q.2 ys h1 h2 p _ (Gr.tmp e n) n (.l upd_same (rp_strs ys) (e.no n))⟩
  · obtain ⟨v, rfl, r⟩ := r0.one
    rename_i xs
    obtain ⟨a, vs, rfl, ha, ra⟩ := r.lst e
    cases h : strsOf xs with
    | none => rw [h] at q; exact q.elim
    | some l =>
      rw [h] at q
      rw [ra.strs h] at ha
      exact .inr ⟨a, l, rfl, .inl (.inl ha), q.1, fun ys p h1 h2 n => q.2 ys h1 h2 p _ (Gr.tmp e n) n (.l upd_same (rp_strs ys) (e.no n))⟩
  · exact q.elim
/-- set(..) of a text, a tuple or a list of texts -/
def rSetT (P : Program) (w : World) (K : PySem.W.Frag) : List V → Hp → VK → Prop := fun vs H Q => (∃ x : PySem.Str, vs = [.str x] ∧ x.cps.size + 1 < scanBound ∧ ∀ p, H p = none → Q (.ref p) (upd H p (TsO P w p (setS (x.cps.toList.map fun c => ⟨#[c]⟩))))) ∨
  ∃ (t : Addr) (ks : List PySem.Str), vs = [.ref t] ∧ SqT K H t (ks.map V.str) ∧ ks.length + 1 < scanBound ∧ ∀ p, H p = none → Q (.ref p) (upd H p (TsO P w p (setS ks)))
theorem cr_setT (hc : X.calm = true) : CallR X (.type "set") (rSetT X.prog X.w X.K) := by
  intro pins s σ H vs us Q I r h
  have fin : ∀ (ks : List PySem.Str) (s₂ : Shared), SetMade X.prog X.w s ks s₂ → (∀ p, H p = none → Q (.ref p) (upd H p (TsO X.prog X.w p (setS ks)))) → EP X pins σ Q (.ref s.heap.objs.size) s₂ := fun ks s₂ m q => by
    obtain ⟨h', tk, rfl, T, k⟩ := m
    have hn : H s.heap.objs.size = none := I.hok.fresh (Nat.le_refl _)
    exact ⟨.ref _, _, I.laid (t' := tk) k (Nat.le_refl _) (tsO_new T), rfl, q _ hn⟩
  rcases h with ⟨x, rfl, hb, q⟩ | ⟨t, ks, rfl, hq, hb, q⟩
  · obtain ⟨u, rfl, tk, rfl⟩ := vals1 r
    exact call_setX (I.ok.hd hc) hb fun s₂ m => fin _ s₂ m q
  · rw [Vals.ref1 r]
    obtain ⟨its, rv, p, _⟩ := I.tuple hq
    exact call_setT (I.ok.hd hc) p (by simpa using rv.strs) hb fun s₂ m => fin _ s₂ m q
def pySet : List Dt → Wp Dt
  | [.str x] => .gd (x.cps.size + 1 < scanBound) (.ret (.set (setS (x.cps.toList.map fun c => ⟨#[c]⟩))))
  | [.tup xs] => (ofO (strsOf xs)).bind fun ks => .gd (ks.length + 1 < scanBound) (.ret (.set (setS ks)))
  | _ => .bad
theorem post_set {B H : Hp} {Q : VK} {l : List PySem.Str} {p : Addr} (q : PostV Z B H Q (.set l)) (e : Ex B H) (n : H p = none) : Q (.ref p) (upd H p (TsO Z.P Z.w p l)) := q _ _ _ (Gr.new e n) (.set upd_same)
theorem cd_pySet : CallD Z (rSetT Z.P Z.w Z.K) pySet := by
  refine ⟨fun ds => by unfold pySet; split <;> first | exact mn_gd mn_ret | exact mn_bind (mn_ofO _) fun _ => mn_gd mn_ret | exact mn_bad, fun ds vs B H Q Ex' e r0 q => ?_⟩
  unfold pySet at q
  split at q
  · obtain ⟨v, rfl, r⟩ := r0.one
    rw [r.str]
    exact .inl ⟨_, rfl, q.1, fun p n => post_set q.2 e n⟩
  · obtain ⟨v, rfl, r⟩ := r0.one
    rename_i xs
    obtain ⟨a, vs, rfl, ha, ra⟩ := r.tup e
    cases h : strsOf xs with
    | none => rw [h] at q; exact q.elim
    | some l =>
      rw [h] at q
      rw [ra.strs h] at ha
      exact .inr ⟨a, l, rfl, ha, q.1, fun p n => post_set q.2 e n⟩
  · exact q.elim
/-- len, also of a set -/
def rLenT (P : Program) (w : World) : List V → Hp → VK → Prop := fun vs H Q => ∃ (a : Addr) (l : List PySem.Str), vs = [V.ref a] ∧ H a = some (TsO P w a l) ∧ l.length < scanBound ∧ Q (.int l.length) H
theorem cr_lenT : CallR X (.builtin "len") (rLenT X.prog X.w) := by
  intro pins s σ H vs us Q I r h
  obtain ⟨a, l, rfl, ha, hb, q⟩ := h
  rw [Vals.ref1 r]
  obtain ⟨⟨es, ep, t⟩, ho, F, _⟩ := tsO_get I ha
  have sz : es.size = l.length := F.sz
  have sb : scanBound = 4096 := rfl
  refine call_len_set ho ⟨rfl, rfl, rfl⟩ rfl F.fit (by show (es.size : Int) < 2 ^ 63; rw [sz]; omega) ?_
  show EP X pins σ Q (.int es.size (s.toks + 1)) _
  rw [sz]
  exact ⟨.int _, H, I.tok _, ⟨_, rfl⟩, q⟩
def pyLenT : List Dt → Wp Dt
  | [.set l] => .gd (l.length < scanBound) (.ret (.int l.length))
  | ds => pyLen ds
theorem cr_pyLenT : CallR X (.builtin "len") (fun xs H Q => rLenT X.prog X.w xs H Q ∨ ((∃ x n, xs = [x] ∧ LenV X.K x H n ∧ Q (.int n) H) ∨ ∃ a kvs, xs = [V.ref a] ∧ Rd H a (.dK kvs) ∧ Q (.int kvs.length) H)) := CallR.or cr_lenT cr_pyLen
theorem cd_pyLenT : CallD Z (fun xs H Q => rLenT Z.P Z.w xs H Q ∨ ((∃ x n, xs = [x] ∧ LenV Z.K x H n ∧ Q (.int n) H) ∨ ∃ a kvs, xs = [V.ref a] ∧ Rd H a (.dK kvs) ∧ Q (.int kvs.length) H)) pyLenT := by
  refine ⟨fun ds => by unfold pyLenT; split <;> first | exact mn_gd mn_ret | exact cd_pyLen (Z := Z).1 _, fun ds vs B H Q Ex' e r0 q => ?_⟩
  unfold pyLenT at q
  split at q
  · obtain ⟨v, rfl, r⟩ := r0.one
    cases r with
    | fz r =>
      cases r with
      | set ha => exact .inl ⟨_, _, rfl, e _ _ ha, q.1, post_ref q.2 e (.int _)⟩
  · exact .inr (cd_pyLen.2 _ _ B H Q Ex' e r0 q)
/-- list(text) -/
def rListX : List V → Hp → VK → Prop := fun vs H Q => ∃ x : PySem.Str, vs = [.str x] ∧ x.cps.size ≤ sizeLine ∧ ∀ p, H p = none → Q (.ref p) (upd H p (.lst (x.cps.toList.map fun c => V.str ⟨#[c]⟩)))
theorem cr_listX (hc : X.calm = true) : CallR X (.type "list") rListX := by
  intro pins s σ H vs us Q I r h
  obtain ⟨x, rfl, hb, q⟩ := h
  obtain ⟨u, rfl, tk, rfl⟩ := vals1 r
  refine call_list_str (I.ok.hd hc) x tk (hn := hb) fun h' tk' acc c k ho hi => ?_
  have hn : H s.heap.objs.size = none := I.hok.fresh (Nat.le_refl _)
  have hs : StrsAre acc.toList (x.cps.toList.map fun c => (⟨#[c]⟩ : PySem.Str)) := L2.strs_at (by simp [hi.1]) fun j v hv => by
    obtain ⟨c, u, h1, h2⟩ := hi.2 j v (by simpa using hv)
    exact ⟨⟨#[c]⟩, u, by simp [h1], h2⟩
  have hv := vals_of_strs hs
  rw [List.map_map] at hv
  have ok : ObjOk X.prog X.w (upd H s.heap.objs.size (.lst (x.cps.toList.map fun c => V.str ⟨#[c]⟩))) h' s.heap.objs.size (.lst (x.cps.toList.map fun c => V.str ⟨#[c]⟩)) := ⟨by simpa using hb, acc.toList, c, hv, by simpa using ho⟩
  exact ⟨.ref _, _, I.laid (t' := tk') k (Nat.le_refl _) ok, rfl, q _ hn⟩
def pyListX : List Dt → Wp Nw
  | [.str x] => .gd (x.cps.size ≤ sizeLine) (.ret (.l (x.cps.toList.map fun c => Dt.str ⟨#[c]⟩)))
  | ds => pyList ds
theorem cr_pyListX (hc : X.calm = true) : CallR X (.type "list") (fun xs H Q => rListX xs H Q ∨ ((∃ p ys, xs = [.ref p] ∧ (SqL X.K H p ys ∨ SqT X.K H p ys) ∧ ∀ l, H l = none → Q (.ref l) (upd H l (.lst ys))) ∨ (∃ (a : Addr) (kvs : List (Key × V)), xs = [.ref a] ∧ Rd H a (.dK kvs) ∧ ∀ p, H p = none → Q (.ref p) (upd H p (.lst (kvs.map fun kv => kV kv.1)))))) := CallR.or (cr_listX hc) (cr_pyList hc)
theorem cn_pyListX : CallN Z (fun xs H Q => rListX xs H Q ∨ ((∃ p ys, xs = [.ref p] ∧ (SqL Z.K H p ys ∨ SqT Z.K H p ys) ∧ ∀ l, H l = none → Q (.ref l) (upd H l (.lst ys))) ∨ (∃ (a : Addr) (kvs : List (Key × V)), xs = [.ref a] ∧ Rd H a (.dK kvs) ∧ ∀ p, H p = none → Q (.ref p) (upd H p (.lst (kvs.map fun kv => kV kv.1)))))) pyListX := by
  refine ⟨fun ds => by unfold pyListX; split <;> first | exact mn_gd mn_ret | exact cn_pyList (Z := Z).1 _, fun ds vs B H Q Ex' e r0 q => ?_⟩
  unfold pyListX at q
  split at q
  · obtain ⟨v, rfl, r⟩ := r0.one
    rename_i x
    rw [r.str]
    refine .inl ⟨x, rfl, q.1, fun p n => q.2 p _ (Gr.tmp e n) n (.l upd_same ?_ (e.no n))⟩
    have := rp_strs (Z := Z) (B := B) (x.cps.toList.map fun c => (⟨#[c]⟩ : PySem.Str))
    rw [List.map_map, List.map_map] at this
    exact this
  · exact .inr (cn_pyList.2 _ _ B H Q Ex' e r0 q)
end
end Mv

namespace Mv
open PySem PySem.Spec L2
section
variable {Z : Kx} {B H B' H' : Hp}
theorem FvAll.look : ∀ {fs : List (Str × Fv)} {vs : List (Str × V)} {fps : List Addr}, FvAll Z B H fs vs fps → ∀ k : Str, (∃ v f m, vs.lookup k = some v ∧ fs.lookup k = some f ∧ FvOk Z B H f v m ∧ ∀ a ∈ m, a ∈ fps) ∨ (vs.lookup k = none ∧ fs.lookup k = none)
  | _, _, _, .nil, k => .inr ⟨rfl, rfl⟩
  | _, _, _, .cons (k := j) (fp := fp) (fps := fps) a r, k => by
    cases e : k == j with
    | true => exact .inl ⟨_, _, _, by simp [List.lookup_cons, e], by simp [List.lookup_cons, e], a, fun b hb => by simp [hb]⟩
    | false =>
      rcases r.look k with ⟨v, d, m, h1, h2, h3, h4⟩ | ⟨h1, h2⟩
      · exact .inl ⟨v, d, m, by simpa [List.lookup_cons, e] using h1, by simpa [List.lookup_cons, e] using h2, h3, fun b hb => by simp [h4 b hb]⟩
      · exact .inr ⟨by simpa [List.lookup_cons, e] using h1, by simpa [List.lookup_cons, e] using h2⟩
end
/-- a field, frozen -/
def gFF (ρ : Env) (i : Nat) (c f : Str) : Wp Dt := match ρ[i]? with
  | some (.oo _ c' fs) => .gd (c' = c) (match fs.lookup f with
    | some (.fz d) => .ret d
    | _ => .bad)
  | some (.fz d) => pyFld c f d
  | _ => .bad
def fvDt : Fv → Dt
  | .fz d => d
  | .ol xs => .lst xs
  | .od kvs => .dct kvs
/-- a field, to be read -/
def gFR (ρ : Env) (i : Nat) (c f : Str) : Wp Dt := match ρ[i]? with
  | some (.oo _ c' fs) => .gd (c' = c) (match fs.lookup f with
    | some v => .ret (fvDt v)
    | _ => .bad)
  | some (.fz d) => pyFld c f d
  | _ => .bad
theorem mn_gFF {ρ : Env} {i : Nat} {c f : Str} : Mn (gFF ρ i c f) := by
  unfold gFF; split
  · refine mn_gd ?_
    split <;> first | exact mn_ret | exact mn_bad
  · exact mn_pyFld _ _ _
  · exact mn_bad
theorem mn_gFR {ρ : Env} {i : Nat} {c f : Str} : Mn (gFR ρ i c f) := by
  unfold gFR; split
  · refine mn_gd ?_
    split <;> first | exact mn_ret | exact mn_bad
  · exact mn_pyFld _ _ _
  · exact mn_bad
section
variable {X : Cx} {Z : Kx} {E : XS} {e : Expr} {x f : Str} {pos p p' : Pos} {B0 F B H : Hp} {ρ : Env} {σ : St}
theorem SR.getO (s : SR Z B0 F ρ σ B H) {i : Nat} {a : Addr} {c : Str} {fs : List (Str × Fv)} (e : ρ[i]? = some (.oo a c fs)) : ∃ dx vs m, σ[i]? = some (some (.ref a)) ∧ H a = some (.ins (He.ga Z.K c) dx vs) ∧ FvAll Z B H fs vs m ∧ (∀ b ∈ m, B b = none) ∧ B a = none := by
  obtain ⟨o, m, h1, h2, _, h4, _⟩ := s.mutG (Gr.refl s.bh) e
  cases h2 with
  | oo q r => exact ⟨_, _, _, h1, q, r, fun b hb => (h4 b (by simp [hb])).1, (h4 _ (by simp)).1⟩
theorem me_self (i : Nat) (c : Str) (hc : Cls X.K (He.ga X.K c)) (hn : NoAttr X.K (He.ga X.K c) f) (hN : X.N[i]? = some x := by rfl) (hv : Vis X.env.scope x := by first | exact Or.inl rfl | exact Or.inr (Or.inl rfl) | exact Or.inr (Or.inr rfl)) (hd : (x == ("__debug__" : Str)) = false := by decide)
    (hcd : (x == ("__classdict__" : Str)) = false := by decide) (hb : attributeBase (.Name x p) f X.env (eval (.Name x p) X.env) = eval (.Name x p) X.env := by rfl) : ME X E (.Attribute (.Name x p) f pos) (fun ρ => gFF ρ i c f) := by
  refine ⟨_, pe_fld (pe_var hN hv hd hcd) hb, fun ρ => mn_gFF, fun B0 F ρ σ B H Q s q => ?_⟩
  unfold gFF at q
  cases e : ρ[i]? with
  | none => rw [e] at q; exact q.elim
  | some sl =>
    rw [e] at q
    cases sl with
    | oo a c' fs =>
      obtain ⟨rfl, q⟩ := q
      obtain ⟨dx, vs, m, h1, h2, h3, h4, _⟩ := s.getO e
      refine ⟨_, h1, ?_⟩
      rcases h3.look f with ⟨v, fv, m', l1, l2, l3, l4⟩ | ⟨l1, l2⟩
      · rw [l2] at q
        cases fv with
        | fz d => cases l3 with | fz r => exact ⟨a, _, dx, vs, v, rfl, h2, hc, hn, l1, q v B H (Gr.refl s.bh) r⟩
        | ol _ => exact q.elim
        | od _ => exact q.elim
      · rw [l2] at q; exact q.elim
    | fz d =>
      obtain ⟨v, h1, r⟩ := s.get e
      refine ⟨v, h1, ?_⟩
      cases d with
      | obj c' fs =>
        obtain ⟨rfl, q⟩ := q
        cases r with
        | obj h rf =>
          rcases rf.look f with ⟨w, d, l1, l2, l3⟩ | ⟨l1, l2⟩
          · rw [l2] at q
            exact ⟨_, _, _, _, w, rfl, s.bh _ _ h, hc, hn, l1, q w B H (Gr.refl s.bh) l3⟩
          · rw [l2] at q; exact q.elim
      | _ => exact q.elim
    | _ => exact q.elim
theorem mr_self (i : Nat) (c : Str) (hc : Cls X.K (He.ga X.K c)) (hn : NoAttr X.K (He.ga X.K c) f) (hN : X.N[i]? = some x := by rfl) (hv : Vis X.env.scope x := by first | exact Or.inl rfl | exact Or.inr (Or.inl rfl) | exact Or.inr (Or.inr rfl)) (hd : (x == ("__debug__" : Str)) = false := by decide)
    (hcd : (x == ("__classdict__" : Str)) = false := by decide) (hb : attributeBase (.Name x p) f X.env (eval (.Name x p) X.env) = eval (.Name x p) X.env := by rfl) : MR X E (.Attribute (.Name x p) f pos) (fun ρ => gFR ρ i c f) := by
  refine ⟨_, pe_fld (pe_var hN hv hd hcd) hb, fun ρ => mn_gFR, fun B0 F ρ σ B H Q s q => ?_⟩
  unfold gFR at q
  cases e : ρ[i]? with
  | none => rw [e] at q; exact q.elim
  | some sl =>
    rw [e] at q
    cases sl with
    | oo a c' fs =>
      obtain ⟨rfl, q⟩ := q
      obtain ⟨dx, vs, m, h1, h2, h3, h4, _⟩ := s.getO e
      refine ⟨_, h1, ?_⟩
      rcases h3.look f with ⟨v, fv, m', l1, l2, l3, l4⟩ | ⟨l1, l2⟩
      · rw [l2] at q
        refine ⟨a, _, dx, vs, v, rfl, h2, hc, hn, l1, ?_⟩
        cases l3 with
        | fz r => exact q v B H (Gr.refl s.bh) (.fz r)
        | ol hh r => exact q _ B H (Gr.refl s.bh) (.ol hh r (h4 _ (l4 _ (by simp))))
        | od hh r => exact q _ B H (Gr.refl s.bh) (.od hh r (h4 _ (l4 _ (by simp))))
      · rw [l2] at q; exact q.elim
    | fz d =>
      obtain ⟨v, h1, r⟩ := s.get e
      refine ⟨v, h1, ?_⟩
      cases d with
      | obj c' fs =>
        obtain ⟨rfl, q⟩ := q
        cases r with
        | obj h rf =>
          rcases rf.look f with ⟨w, d, l1, l2, l3⟩ | ⟨l1, l2⟩
          · rw [l2] at q
            exact ⟨_, _, _, _, w, rfl, s.bh _ _ h, hc, hn, l1, q w B H (Gr.refl s.bh) (.fz l3)⟩
          · rw [l2] at q; exact q.elim
      | _ => exact q.elim
    | _ => exact q.elim
def slFv : Sl → Option Fv
  | .fz d => some (.fz d)
  | .ol xs => some (.ol xs)
  | .od kvs => some (.od kvs)
  | _ => none
/-- the new field stands behind the others -/
def setF (ρ : Env) (i : Nat) (c f : Str) (x : Sl) : Wp Fl := match ρ[i]? with
  | some (.oo a c' fs) => .gd (c' = c ∧ fs.lookup f = none ∧ fs.length < 1000) ((ofO (slFv x)).bind fun v => .ret (.nx (ρ.set i (.oo a c (fs ++ [(f, v)])))))
  | _ => .bad
theorem mn_setF {ρ : Env} {i : Nat} {c f : Str} {x : Sl} : Mn (setF ρ i c f x) := by
  unfold setF; split
  · exact mn_gd (mn_bind (mn_ofO _) fun _ => mn_ret)
  · exact mn_bad
theorem FvAll.len {B H : Hp} : ∀ {fs : List (Str × Fv)} {vs : List (Str × V)} {fps : List Addr}, FvAll Z B H fs vs fps → vs.length = fs.length
  | _, _, _, .nil => rfl
  | _, _, _, .cons _ r => by simp [r.len]
theorem FvAll.snoc {B H : Hp} {k : Str} {f : Fv} {v : V} {m : List Addr} : ∀ {fs : List (Str × Fv)} {vs : List (Str × V)} {fps : List Addr}, FvAll Z B H fs vs fps → FvOk Z B H f v m → FvAll Z B H (fs ++ [(k, f)]) (vs ++ [(k, v)]) (fps ++ m)
  | _, _, _, .nil, q => by simpa using FvAll.cons (k := k) q .nil
  | _, _, _, .cons a r, q => by simpa [List.append_assoc] using FvAll.cons a (r.snoc q)

theorem putF_new {f : Str} {v : V} : ∀ {vs : List (Str × V)}, vs.lookup f = none → putF f v vs = vs ++ [(f, v)]
  | [], _ => rfl
  | (g, x) :: r, h => by
    rw [List.lookup_cons] at h
    cases e : f == g with
    | true => rw [e] at h; cases h
    | false =>
      rw [e] at h
      have ne : ¬ g = f := fun z => by rw [z] at e; simp at e
      unfold putF
      rw [if_neg ne, putF_new h]; rfl
theorem FvOk.ofS {H0 B H : Hp} {v : V} {x : Sl} {fv : Fv} (r : RqS Z H0 B H v x) (h : slFv x = some fv) : ∃ m, FvOk Z B H fv v m ∧ m.Nodup ∧ ∀ a ∈ m, H0 a = none ∧ B a = none := by
  cases r with
  | fz r => cases h; exact ⟨[], .fz r, List.nodup_nil, fun a h => by simp at h⟩
  | ol n h' r nb => cases h; exact ⟨_, .ol h' r, by simp, fun a ha => by rw [List.mem_singleton] at ha; subst ha; exact ⟨n, nb⟩⟩
  | od n h' r nb => cases h; exact ⟨_, .od h' r, by simp, fun a ha => by rw [List.mem_singleton] at ha; subst ha; exact ⟨n, nb⟩⟩
theorem ms_fset (i : Nat) (c : Str) {m : Env → Wp Sl} (hc : Cls X.K (He.ga X.K c)) (hn : NoAttr X.K (He.ga X.K c) f) (h : MX X E e m) (hN : X.N[i]? = some x := by rfl) (hv : Vis X.env.scope x := by first | exact Or.inl rfl | exact Or.inr (Or.inl rfl) | exact Or.inr (Or.inr rfl)) (hd : (x == ("__debug__" : Str)) = false := by decide)
    (hcd : (x == ("__classdict__" : Str)) = false := by decide) (hs : swapsWith e (some (.Attribute (.Name x p) f p')) pos.line X.env = pure false := by rfl) : MS X E (.Assign [.Attribute (.Name x p) f p'] e pos) (fun ρ => (m ρ).bind fun x => setF ρ i c f x) := by
  obtain ⟨t, pe, v⟩ := h
  refine ⟨_, ps_fld (pe_var hN hv hd hcd) pe hs, fun ρ => mn_bind (v.mn ρ) fun _ => mn_setF, fun B0 F ρ σ B H D s q => v.run B0 F ρ σ B H _ s (v.mn ρ _ _ _ _ (fun sl z u B1 H1 g r => ?_) (fun _ z => z.sr s) q)⟩
  unfold setF at z
  cases e : ρ[i]? with
  | none => rw [e] at z; exact z.elim
  | some sx =>
    rw [e] at z
    cases sx with
    | oo a c' fs =>
      obtain ⟨⟨rfl, hl, hz⟩, z⟩ := z
      cases hx : slFv sl with
      | none => rw [hx] at z; exact z.elim
      | some fv =>
        rw [hx] at z
        obtain ⟨mn, ok, nd, fresh⟩ := FvOk.ofS r hx
        obtain ⟨o, mm, h1, h2, h3, h4, h5⟩ := s.mutG g e
        cases h2 with
        | @oo _ dx _ vs _ fps q rf =>
          have lv : vs.lookup f = none := by
            rcases rf.look f with ⟨w, d, m', l1, l2, _⟩ | ⟨l1, l2⟩
            · rw [hl] at l2; cases l2
            · exact l1
          refine ⟨_, h1, a, _, dx, vs, rfl, q, hc, hn, by rw [rf.len]; exact hz, z σ B1 _ ?_⟩
          rw [putF_new lv]
          obtain ⟨nba, _, ua, hua⟩ := h4 a (by simp)
          have na : ∀ b ∈ fps ++ mn, b ≠ a := fun b hb e => by
            subst e
            rcases List.mem_append.mp hb with hb | hb
            · exact (List.nodup_cons.mp h3).1 hb
            · rw [(fresh _ hb).1] at hua; cases hua
          refine h5 (.oo a c' (fs ++ [(f, fv)])) (a :: (fps ++ mn)) B1 _ (.refl _) (fun b hb hne => ⟨upd_ne fun z => hb (by simp [z]), rfl⟩) (g.bh.put nba) (.oo upd_same ?_) ?_ fun b hb => ?_
          · exact (rf.snoc ok).heap (Lg.refl _) fun b hb => upd_ne (na b hb)
          · refine List.nodup_cons.mpr ⟨fun z => na a z rfl, ?_⟩
            rw [List.nodup_append]
            refine ⟨(List.nodup_cons.mp h3).2, nd, fun x hx y hy e => ?_⟩
            obtain ⟨_, _, u, hu⟩ := h4 x (by simp [hx])
            rw [e, (fresh y hy).1] at hu; cases hu
          · rcases List.mem_cons.mp hb with hb | hb
            · subst hb; exact ⟨.inl (by simp), nba⟩
            · rcases List.mem_append.mp hb with hb | hb
              · exact ⟨.inl (by simp [hb]), (h4 b (by simp [hb])).1⟩
              · exact ⟨.inr (fresh b hb).1, (fresh b hb).2⟩
    | _ => exact z.elim
def putFv (f : Str) (v : Fv) : List (Str × Fv) → List (Str × Fv)
  | [] => []
  | (g, x) :: r => if f == g then (g, v) :: r else (g, x) :: putFv f v r
theorem FvAll.putD {B H H2 : Hp} {f : Str} {kvs kvs' : List (Key × Dt)} {ws : List (Key × V)} : ∀ {fs : List (Str × Fv)} {vs : List (Str × V)} {fps : List Addr}, FvAll Z B H fs vs fps → fps.Nodup → fs.lookup f = some (.od kvs) →
    ∃ a us, vs.lookup f = some (.ref a) ∧ a ∈ fps ∧ H a = some (.dK us) ∧ RpKv Z B us kvs ∧ (H2 a = some (.dK ws) → RpKv Z B ws kvs' → (∀ b ∈ fps, b ≠ a → H2 b = H b) → FvAll Z B H2 (putFv f (.od kvs') fs) vs fps)
  | _, _, _, .nil, _, h => by simp at h
  | _, _, _, .cons (k := j) (fp := fp) (fps := fps) q r, nd, h => by
    rw [List.lookup_cons] at h
    cases e : f == j with
    | true =>
      rw [e] at h
      cases h
      cases q with
      | @od a us _ ha ra =>
        refine ⟨a, us, by simp [List.lookup_cons, e], by simp, ha, ra, fun h2 r2 hk => ?_⟩
        unfold putFv
        rw [e, if_pos rfl]
        refine .cons (.od h2 r2) (r.heap (Lg.refl _) fun b hb => hk b (by simp [hb]) fun z => ?_)
        subst z
        exact (List.nodup_cons.mp (by simpa using nd)).1 hb
    | false =>
      rw [e] at h
      have nd' := List.nodup_append.mp nd
      obtain ⟨a, us, h1, h2, h3, h4, h5⟩ := r.putD nd'.2.1 h
      refine ⟨a, us, by simpa [List.lookup_cons, e] using h1, by simp [h2], h3, h4, fun g2 r2 hk => ?_⟩
      unfold putFv
      rw [e]
      exact .cons (q.heap (Lg.refl _) fun b hb => hk b (by simp [hb]) fun z => nd'.2.2 b hb a h2 z) (h5 g2 r2 fun b hb => hk b (by simp [hb]))
def gFD (ρ : Env) (i : Nat) (c f : Str) : Wp (List (Key × Dt)) := match ρ[i]? with
  | some (.oo _ c' fs) => .gd (c' = c) (match fs.lookup f with
    | some (.od kvs) => .ret kvs
    | _ => .bad)
  | _ => .bad
theorem mn_gFD {ρ : Env} {i : Nat} {c f : Str} : Mn (gFD ρ i c f) := by
  unfold gFD; split
  · refine mn_gd ?_
    split <;> first | exact mn_ret | exact mn_bad
  · exact mn_bad
theorem gFD_at {ρ : Env} {i : Nat} {c f : Str} {Q : List (Key × Dt) → Prop} {E : Xn → Prop} (h : gFD ρ i c f Q E) : ∃ a fs kvs, ρ[i]? = some (.oo a c fs) ∧ fs.lookup f = some (.od kvs) ∧ Q kvs := by
  unfold gFD at h
  cases e : ρ[i]? with
  | none => rw [e] at h; exact h.elim
  | some sl =>
    rw [e] at h
    cases sl with
    | oo a c' fs =>
      obtain ⟨rfl, h⟩ := h
      cases l : fs.lookup f with
      | none => rw [l] at h; exact h.elim
      | some fv =>
        rw [l] at h
        cases fv with
        | od kvs => exact ⟨a, fs, kvs, rfl, l, h⟩
        | _ => exact h.elim
    | _ => exact h.elim
def fdset (ρ : Env) (i : Nat) (f : Str) (kvs : List (Key × Dt)) : Env := match ρ[i]? with
  | some (.oo a c fs) => ρ.set i (.oo a c (putFv f (.od kvs) fs))
  | _ => ρ
theorem ms_fdput (i : Nat) (c : Str) {ek : Expr} {pa : Pos} {m mk : Env → Wp Dt} (hu : X.A.units + 65 < cLine) (hc : Cls X.K (He.ga X.K c)) (hn : NoAttr X.K (He.ga X.K c) f) (h : ME X E e m) (hk : ME X E ek mk) (hN : X.N[i]? = some x := by rfl) (hv : Vis X.env.scope x := by first | exact Or.inl rfl | exact Or.inr (Or.inl rfl) | exact Or.inr (Or.inr rfl)) (hd : (x == ("__debug__" : Str)) = false := by decide)
    (hcd : (x == ("__classdict__" : Str)) = false := by decide) (hb : attributeBase (.Name x p) f X.env (eval (.Name x p) X.env) = eval (.Name x p) X.env := by rfl) (hsl : swapsWith e (some (.Subscript (.Attribute (.Name x p) f pa) ek p')) pos.line X.env = pure false := by rfl) :
    MS X E (.Assign [.Subscript (.Attribute (.Name x p) f pa) ek p'] e pos) (fun ρ => (m ρ).bind fun d => (gFD ρ i c f).bind fun kvs => (mk ρ).bind fun k => (ofO (keyD k)).bind fun k => .gd (kvs.length < sizeLine) (.ret (.nx (fdset ρ i f (putD kvs k d))))) := by
  obtain ⟨t, pe, v⟩ := h
  obtain ⟨tk, pk, vk⟩ := hk
  refine ⟨_, ps_dput (by omega) (pe_fld (pe_var hN hv hd hcd) hb) pk pe hsl, fun ρ => mn_bind (v.mn ρ) fun _ => mn_bind mn_gFD fun _ => mn_bind (vk.mn ρ) fun _ => mn_bind (mn_ofO _) fun _ => mn_gd mn_ret, fun B0 F ρ σ B H D s q => v.run B0 F ρ σ B H _ s (v.mn ρ _ _ _ _ (fun d z u B1 H1 g r => ?_) (fun _ z => z.sr s) q)⟩
  have s1 := s.gr g
  obtain ⟨a, fs, kvs, e, lf, z⟩ := gFD_at z
  obtain ⟨dx, vs, m1, h1, h2, h3, h4, nba⟩ := s1.getO e
  rcases h3.look f with ⟨w, fv, m', l1, l2, l3, l4⟩ | ⟨l1, l2⟩
  rotate_left
  · rw [lf] at l2; cases l2
  rw [lf] at l2
  cases l2
  cases l3 with
  | @od da us _ hda rda =>
    refine ⟨_, h1, a, _, dx, vs, _, rfl, h2, hc, hn, l1, vk.run B0 F ρ σ B1 H1 _ s1 (vk.mn ρ _ _ _ _ (fun kd z w B2 H2 g2 r2 => ?_) (fun _ z => z.sr s1) z)⟩
    dsimp only at z
    cases hk : keyD kd with
    | none => rw [hk] at z; exact z.elim
    | some k =>
      rw [hk] at z
      rw [(Rq.fz (H := H2) r2).key hk]
      obtain ⟨o, mm, q1, q2, q3, q4, q5⟩ := s1.mutG g2 e
      cases q2 with
      | @oo _ dx' _ vs' _ fps qa rf =>
        obtain ⟨da', us', y1, y2, y3, y4, y5⟩ := rf.putD (H2 := upd H2 da (.dK (putK us k u))) (kvs' := putD kvs k d) (ws := putK us k u) (List.nodup_cons.mp q3).2 lf
        have hu2 := (g2.h a _ nba h2).1
        rw [qa] at hu2
        cases hu2
        rw [l1] at y1
        cases y1
        have hd2 := (g2.h da _ (h4 _ (l4 _ (by simp))) hda).1
        refine ⟨da, _, rfl, DPut.k (k := k) hd2 (by rw [rda.len]; exact z.1), z.2 σ B2 _ ?_⟩
        have nad : a ≠ da := fun z => by
          subst z
          exact (List.nodup_cons.mp q3).1 y2
        have nbd : B2 da = none := (q4 da (by simp [y2])).1
        unfold fdset
        rw [e]
        refine q5 _ (a :: fps) B2 _ (.refl _) (fun b hb hne => ⟨upd_ne fun z => hb (by simp [z, y2]), rfl⟩) (g2.bh.put nbd) (.oo (by rw [upd_ne nad]; exact qa) (y5 upd_same ((rda.ex g2.b).put (r.ex g2.b)) fun b hb hne => upd_ne hne)) q3 fun b hb => ⟨.inl hb, (q4 b hb).1⟩
end
end Mv

namespace Mv
open PySem PySem.Spec L2
section
variable {Z : Kx} {B H : Hp}
theorem FvAll.fzD {f : Str} {kvs : List (Key × Dt)} : ∀ {fs : List (Str × Fv)} {vs : List (Str × V)} {fps : List Addr}, FvAll Z B H fs vs fps → fps.Nodup → fs.lookup f = some (.od kvs) →
    ∃ a us fps', a ∈ fps ∧ H a = some (.dK us) ∧ RpKv Z B us kvs ∧ fps'.Nodup ∧ (∀ b ∈ fps', b ∈ fps ∧ b ≠ a) ∧ ∀ B2 H2 ob, Ex B B2 → B2 a = some (.frz ob (.dK us)) → (∀ b ∈ fps, b ≠ a → H2 b = H b) → FvAll Z B2 H2 (putFv f (.fz (.dct kvs)) fs) vs fps'
  | _, _, _, .nil, _, h => by simp at h
  | _, _, _, .cons (k := j) (fp := fp) (fps := fps) q r, nd, h => by
    rw [List.lookup_cons] at h
    have nd' := List.nodup_append.mp nd
    cases e : f == j with
    | true =>
      rw [e] at h
      cases h
      cases q with
      | @od a us _ ha ra =>
        have na : ∀ b ∈ fps, b ≠ a := fun b hb z => (List.nodup_cons.mp (by simpa using nd)).1 (z ▸ hb)
        refine ⟨a, us, fps, by simp, ha, ra, nd'.2.1, fun b hb => ⟨by simp [hb], na b hb⟩, fun B2 H2 ob eb hb hk => ?_⟩
        unfold putFv
        rw [e, if_pos rfl]
        exact FvAll.cons (fp := []) (.fz (.dct hb (ra.ex eb))) (r.heap eb.lg fun b hb => hk b (by simp [hb]) (na b hb))
    | false =>
      rw [e] at h
      obtain ⟨a, us, fps', h1, h2, h3, h4, h5, h6⟩ := r.fzD nd'.2.1 h
      refine ⟨a, us, fp ++ fps', by simp [h1], h2, h3, ?_, fun b hb => ?_, fun B2 H2 ob eb hb hk => ?_⟩
      · rw [List.nodup_append]
        exact ⟨nd'.1, h4, fun x hx y hy => nd'.2.2 x hx y (h5 y hy).1⟩
      · rcases List.mem_append.mp hb with hb | hb
        · exact ⟨by simp [hb], fun z => nd'.2.2 b hb a h1 z⟩
        · exact ⟨by simp [(h5 b hb).1], (h5 b hb).2⟩
      · unfold putFv
        rw [e]
        exact .cons (q.heap eb.lg fun b hb => hk b (by simp [hb]) fun z => nd'.2.2 b hb a h1 z) (h6 B2 H2 ob eb hb fun b hb => hk b (by simp [hb]))
end
/-- a dict field is frozen -/
def fzF (i : Nat) (f : Str) (ρ : Env) : Env := match ρ[i]? with
  | some (.oo a c fs) => (match fs.lookup f with
    | some (.od kvs) => ρ.set i (.oo a c (putFv f (.fz (.dct kvs)) fs))
    | _ => ρ)
  | _ => ρ
section
variable {X : Cx} {Z : Kx} {E : XS} {e : Expr} {es : List Expr} {st : Stmt} {x f : Str} {pos p p' : Pos} {B0 F B H : Hp} {ρ : Env} {σ : St}
theorem SR.fzF (s : SR Z B0 F ρ σ B H) (i : Nat) (f : Str) : SR Z B0 F (fzF i f ρ) σ B H ∨ ∃ a us, H a = some (.dK us) ∧ ∀ ob, ∃ B', SR Z B0 F (fzF i f ρ) σ B' (upd H a (.frz ob (.dK us))) := by
  unfold Mv.fzF
  cases e : ρ[i]? with
  | none => exact .inl s
  | some sl =>
    cases sl with
    | oo a c fs =>
      dsimp only
      cases l : fs.lookup f with
      | none => exact .inl s
      | some fv =>
        cases fv with
        | od kvs =>
          obtain ⟨o, m, q1, q2, q3, q4, q5⟩ := s.mutG (Gr.refl s.bh) e
          cases q2 with
          | @oo _ dx _ vs _ fps qa rf =>
            obtain ⟨na, nd⟩ := List.nodup_cons.mp q3
            obtain ⟨da, us, fps', h1, h2, h3, h4, h5, h6⟩ := rf.fzD nd l
            refine .inr ⟨da, us, h2, fun ob => ⟨upd B da (.frz ob (.dK us)), ?_⟩⟩
            have nbd : B da = none := (q4 da (by simp [h1])).1
            have ne : a ≠ da := fun z => na (z ▸ h1)
            have eb : Ex B (upd B da (.frz ob (.dK us))) := Ex.put (.refl _) nbd
            refine q5 _ (a :: fps') _ _ eb (fun b hb hne => ?_) s.bh.both (.oo (by rw [upd_ne ne]; exact qa) (h6 _ _ ob eb upd_same fun b hb hne => upd_ne hne)) (List.nodup_cons.mpr ⟨fun z => na (h5 a z).1, h4⟩) fun b hb => ?_
            · have nb : b ≠ da := fun z => hb (by simp [z, h1])
              exact ⟨upd_ne nb, upd_ne nb⟩
            · rcases List.mem_cons.mp hb with hb | hb
              · subst hb; exact ⟨.inl (by simp), by rw [upd_ne ne]; exact (q4 b (by simp)).1⟩
              · exact ⟨.inl (by simp [(h5 b hb).1]), by rw [upd_ne (h5 b hb).2]; exact (q4 b (by simp [(h5 b hb).1])).1⟩
        | _ => exact .inl s
    | _ => exact .inl s
def tLkN (t : TS) : TS := fun D σ H => t { D with nx := fun σ' H' => D.nx σ' H' ∨ ∃ a kvs, H' a = some (.dK kvs) ∧ ∀ ob, D.nx σ' (upd H' a (.frz ob (.dK kvs))) } σ H
theorem ps_lkN {t : TS} (h : PS X st t) : PS X st (tLkN t) := by
  refine ⟨fun pins s σ H D I q => thn (h.run pins s σ H _ I q) fun f s1 z => ?_⟩
  cases f with
  | next =>
    obtain ⟨σ', H', I2, z⟩ := z
    rcases z with z | ⟨a, kvs, ha, z⟩
    · exact ⟨σ', H', I2, z⟩
    · obtain ⟨ob, I3⟩ := I2.lock ha trivial
      exact ⟨σ', _, I3, z ob⟩
  | brk => exact z
  | cont => exact z
  | ret v => exact z
def fzFA (i : Nat) (f : Str) (m : Wp Fl) : Wp Fl := m.bind fun r => match r with
  | .nx ρ => .ret (.nx (fzF i f ρ))
  | .rt d => .ret (.rt d)
  | .bk ρ => .ret (.bk ρ)
  | .ct ρ => .ret (.ct ρ)
  | .rs d S => .ret (.rs d S)
theorem ms_fzF (i : Nat) (f : Str) {m : Env → Wp Fl} (h : MS X E st m) : MS X E st (fun ρ => fzFA i f (m ρ)) := by
  obtain ⟨t, p, v⟩ := h
  refine ⟨_, ps_lkN p, fun ρ => mn_bind (v.mn ρ) fun r => by cases r <;> exact mn_ret, fun B0 F ρ σ B H D s q => v.run B0 F ρ σ B H _ s (v.mn ρ _ _ _ _ (fun r z => ?_) (fun _ z => z) q)⟩
  cases r with
  | nx ρ' =>
    intro σ' B' H' s'
    rcases s'.fzF i f with s2 | ⟨a, us, h1, h2⟩
    · exact .inl (z σ' B' H' s2)
    · exact .inr ⟨a, us, h1, fun ob => let ⟨B2, s2⟩ := h2 ob; z σ' B2 _ s2⟩
  | rt d => exact z
  | bk ρ' => exact z
  | ct ρ' => exact z
  | rs _ _ => exact z
end
def allFz : List (Str × Fv) → Option (List (Str × Dt))
  | [] => some []
  | (k, .fz d) :: r => (allFz r).map ((k, d) :: ·)
  | _ :: _ => none
theorem FvAll.allFz {Z : Kx} {B H : Hp} : ∀ {fs : List (Str × Fv)} {vs : List (Str × V)} {m : List Addr} {ds : List (Str × Dt)}, FvAll Z B H fs vs m → Mv.allFz fs = some ds → RpFs Z B vs ds
  | _, _, _, ds, .nil, h => by simp [Mv.allFz] at h; subst h; exact .nil
  | _, _, _, ds, .cons (f := f) q r, h => by
    cases q with
    | fz rd =>
      simp only [Mv.allFz, Option.map_eq_some_iff] at h
      obtain ⟨ds', h1, h2⟩ := h
      subst h2
      exact .cons rd (r.allFz h1)
    | ol _ _ => simp [Mv.allFz] at h
    | od _ _ => simp [Mv.allFz] at h
def finI (x : Addr) (c : Str) : Fl → Wp Dt
  | .nx ρ => (match ρ[(0 : Nat)]? with
    | some (.oo a c' fs) => .gd (a = x ∧ c' = c) ((ofO (allFz fs)).bind fun ds => .ret (.obj c ds))
    | _ => .bad)
  | _ => .bad
def fnWpI (n : Nat) (c : Str) (mb : Env → Wp Fl) (x : Addr) (ds : List Dt) : Wp Dt := (mb ((.oo x c [] :: ds.map Sl.fz) ++ List.replicate (n - (ds.length + 1)) .no)).bind (finI x c)
/-- what a making leaves -/
def PostI (Z : Kx) (B H1 : Hp) (x : Addr) (Q : VK) : Dt → Prop := fun d => ∀ B' H', Gr B H1 B' H' → Rp Z B' (.ref x) d → Q .non H'
def spI (Z : Kx) (c : Str) (n : Nat) (m : List Dt → Wp Dt) : Sp := fun vs H Q E => vs.length = n + 1 ∧ ∃ x dx H1 B ds us, vs = .ref x :: us ∧ H1 x = none ∧ H1 dx = none ∧ dx ≠ x ∧ H = upd (upd H1 dx (.own x)) x (.ins (He.ga Z.K c) dx []) ∧ Ex B H1 ∧ RpAll Z B us ds ∧
  m ds (PostI Z B H1 x Q) (PostX Z B H1 E)
section
variable {gb : Bool} {P : Program} {w : World} {K : PySem.W.Frag} {mg : Str → Option Value} {base : Heap} {k : Nat} {f : Addr} {fd : FuncData} {N ps : List Str} {x qual : Str} {params : Arguments} {body : List Stmt} {scope : Scope} {dvs : List V} {kws : List (Str × V)}
/-- an own class that can be made -/
def OwnIC (CX : CXT) (gb : Bool) (P : Program) (w : World) (K : PySem.W.Frag) (mg : Str → Option Value) (base : Heap) (k : Nat) (c : Str) (n : Nat) (m : List Dt → Wp Dt) : Prop :=
  (∀ ds, Mn (m ds)) ∧ ∃ f fd ps, FnG gb P w K mg base CX k f fd ps (spI ⟨K, P, w⟩ c n m) ∧ mg c = some (.ref (He.ga K c)) ∧ L2.Mk K (He.ga K c) f ∧ Binds K fd ps []
abbrev OwnIX (gb : Bool) (P : Program) (w : World) := OwnIC (L2.CX P w) gb P w
end
section
variable {gb : Bool} {X : Cx} {CX : CXT} {Z : Kx} {E : XS} {e : Expr} {es : List Expr} {c : Str} {pos p : Pos} {k n : Nat}
theorem Around.makeG {A : Around} (h : A.guards = some []) (C : Addr) (us : List Value) : (A.under (.builtin "type.__call__" ⟨.ref C :: us, []⟩)).guards = some [] := by
  show pushGuards (Code.guards (.builtin "type.__call__" ⟨.ref C :: us, []⟩)) A.guards = _
  rw [h]
  kernel_rfl
theorem me_makeC {m : List Dt → Wp Dt} {ma : Env → Wp (List Dt)} (O : OwnIC CX gb X.prog X.w X.K X.mg X.base k c n m) (hx : ∀ σ, PassesAt CX X σ (E σ)) (hr : Room (k + 1) X.A) (hgd : Gd gb X.A) (ha : MAn X E (e :: es) n ma) (hg : Gl X c := by rfl) (hdb : (c == ("__debug__" : Str)) = false := by decide)
    (he : starEach (e :: es) X.env = (false, eval e X.env) :: starEach es X.env := by rfl) (hpl : (backTo pos (starEach es X.env)).any (·.1) = false := by rfl) : ME X E (.Call (.Name c p) (e :: es) [] pos) (fun ρ => (ma ρ).bind m) := by
  obtain ⟨hM, f, fd, ps, F, hm, M, hb⟩ := O
  obtain ⟨⟨t, pa, va⟩, ln⟩ := ha
  refine ⟨fun σ H Q => t σ H fun vs H1 => ∀ x dx, H1 x = none → H1 dx = none → dx ≠ x → spI (kx X) c n m (.ref x :: vs) (upd (upd H1 dx (.own x)) x (.ins (He.ga X.K c) dx [])) (fun v H2 => v = .non ∧ Q (.ref x) H2) (E σ), ⟨fun pins s σ H Q I h => ?_⟩, fun ρ => mn_bind (va.mn ρ) hM, fun B0 F ρ σ B H Q s q => ?_⟩
  · refine wpAny_Call_Name_kw (ld_glob I hg hm (PySem.W.callWith_K (h₀ := X.base) I.ok.mod.kin M.kp (thn (pa.run pos pins s σ H _ I h) fun us s1 ⟨vs, H1, I1, r, q⟩ => ⟨I1.kIn, ?_⟩) he hpl) hdb)
    have hq := q (s1.heap.objs.size + 1) s1.heap.objs.size (I1.hok.fresh (Nat.le_succ _)) (I1.hok.fresh (Nat.le_refl _)) (Nat.ne_of_lt (Nat.lt_succ_self _))
    have I2 := Inv.made (C := He.ga X.K c) I1
    have r2 : Vals (V.ref (s1.heap.objs.size + 1) :: vs) (Value.ref (s1.heap.objs.size + 1) :: us) := .cons rfl r
    have hl : (Value.ref (s1.heap.objs.size + 1) :: us).length = ps.length := by rw [← r2.length]; exact F.len _ _ _ _ hq
    have hbs := hb { s1 with heap := (s1.heap.push PySem.W.emptyDict).push (PySem.W.instObj (He.ga X.K c) s1.heap.objs.size) } (Value.ref (s1.heap.objs.size + 1) :: us) I2.kIn (by rw [List.append_nil]; exact hl)
    rw [List.append_nil] at hbs
    refine wpAny_call (make_map (f := f) I1.kIn M.makes M.init (beq_iff_eq.mp M.fn) (codeAny_mono (F.run _ X.stack _ _ ⟨Value.ref (s1.heap.objs.size + 1) :: us, []⟩ (Value.ref (s1.heap.objs.size + 1) :: us) _ _ (E σ) (fun e => Around.makeG (hgd e) _ us) (hr.make (He.ga X.K c) us []) (I2.env0.make (He.ga X.K c) us []) hbs r2 hq) fun res s' z => ?_))
    cases res with
    | error e => exact hx σ pins _ _ e s' I2 z
    | ok fl =>
      cases fl with
      | ret u =>
        obtain ⟨v, H', I3, rv, ev, q3⟩ := I2.after z
        subst ev
        exact ⟨rv, ⟨V.ref (s1.heap.objs.size + 1), H', I3, rfl, q3⟩⟩
      | next => exact z.elim
      | brk => exact z.elim
      | cont => exact z.elim
  · refine va.run B0 F ρ σ B H _ s (va.mn ρ _ _ _ _ (fun ds z vs B1 H1 g r x dx h1 h2 h3 => ?_) (fun _ z => z) (ln.len ρ _ _ q))
    exact ⟨by rw [List.length_cons, r.len, z.1], x, dx, H1, B1, ds, vs, rfl, h1, h2, h3, rfl, g.bh, r, hM ds _ _ _ _ (fun d y B' H' g' rd => ⟨rfl, y _ B' H' (g.trans g') rd⟩) (fun _ y => y.gr g) z.2⟩
theorem me_makeX {W : WX} {m : List Dt → Wp Dt} {ma : Env → Wp (List Dt)} (tk : Takes X W) (O : OwnIX gb X.prog X.w X.K X.mg X.base k c n m) (hr : Room (k + 1) X.A) (hgd : Gd gb X.A) (ha : MAn X (WE W) (e :: es) n ma) (hg : Gl X c := by rfl) (hdb : (c == ("__debug__" : Str)) = false := by decide)
    (he : starEach (e :: es) X.env = (false, eval e X.env) :: starEach es X.env := by rfl) (hpl : (backTo pos (starEach es X.env)).any (·.1) = false := by rfl) : ME X (WE W) (.Call (.Name c p) (e :: es) [] pos) (fun ρ => (ma ρ).bind m) := me_makeC O (fun σ => passAt tk σ) hr hgd ha hg hdb he hpl
end
end Mv

namespace Mv
open PySem PySem.Spec L2
def dcompL (t : Env → Wp Bool) (ek ev : Env → Wp Dt) (g : Dt → Env → Wp Env) (ρ : Env) : List Dt → List (Key × Dt) → Wp (List (Key × Dt))
  | [], acc => .ret acc
  | x :: xs, acc => (g x ρ).bind fun ρ' => (t ρ').bind fun b => if b = true then (ek ρ').bind fun k => (ev ρ').bind fun d => (ofO (keyD k)).bind fun k => .gd (acc.length < sizeLine) (dcompL t ek ev g ρ xs (putD acc k d)) else dcompL t ek ev g ρ xs acc
theorem mn_dcompL {t : Env → Wp Bool} {ek ev : Env → Wp Dt} {g : Dt → Env → Wp Env} {ρ : Env} (ht : ∀ ρ, Mn (t ρ)) (hk : ∀ ρ, Mn (ek ρ)) (he : ∀ ρ, Mn (ev ρ)) (hg : ∀ x ρ, Mn (g x ρ)) : ∀ (xs : List Dt) (acc : List (Key × Dt)), Mn (dcompL t ek ev g ρ xs acc)
  | [], _ => mn_ret
  | x :: xs, acc => mn_bind (hg x ρ) fun ρ' => mn_bind (ht ρ') fun b => by
    cases b with
    | true => simpa using mn_bind (hk ρ') fun k => mn_bind (he ρ') fun d => mn_bind (mn_ofO _) fun k => mn_gd (mn_dcompL ht hk he hg xs _)
    | false => simpa using mn_dcompL ht hk he hg xs acc
theorem dc_it {J : It} {n : Nat} {G : Hp → Prop} {Y : Nat → Hp → V → Hp → Prop} (w : Walk J n G Y) {g : TG} {tt : TT} {tk tv : TE} {vs : List Nat} {σ : St} {H1 : Hp} {D : Addr} {Qd : Hp → Prop} (Pv : Nat → Hp → Prop) (h0 : Pv 0 (upd H1 D (.dK []))) (hG : ∀ i H, i ≤ n → Pv i H → G H)
    (hs : ∀ i x H H', i < n → Pv i H → Y i H x H' → g x (wipe σ vs) H' fun σ2 H2 => wipe σ2 vs = wipe σ vs ∧ tt σ2 H2 fun b H3 =>
      if b = true then tk σ2 H3 fun y H4 => tv σ2 H4 fun z H5 => ∃ kvs k, y = kV k ∧ H5 D = some (.dK kvs) ∧ kvs.length < sizeLine ∧ Pv (i + 1) (upd H5 D (.dK (putK kvs k z))) else Pv (i + 1) H3) (hd : ∀ H, Pv n H → Qd H) :
    ∃ W : Nat → Nat → Hp → Prop, (∃ m, W 0 m (upd H1 D (.dK []))) ∧ ∀ i m H, W i m H →
      (J.stop i H ∧ Qd H) ∨ (J.go i H ∧ ∃ Nx : Hp → Prop, (∀ H', Nx H' → ∃ m', m' < m ∧ W (i + 1) m' H') ∧ ∀ x H', J.yld i H x H' → g x (wipe σ vs) H' fun σ2 H2 => wipe σ2 vs = wipe σ vs ∧ tt σ2 H2 fun b H3 =>
        if b = true then tk σ2 H3 fun y H4 => tv σ2 H4 fun z H5 => ∃ kvs k, y = kV k ∧ H5 D = some (.dK kvs) ∧ kvs.length < sizeLine ∧ Nx (upd H5 D (.dK (putK kvs k z))) else Nx H3) := by
  refine ⟨fun i m H => m = n - i ∧ i ≤ n ∧ Pv i H, ⟨n, rfl, Nat.zero_le _, h0⟩, ?_⟩
  rintro i m H ⟨rfl, hi, p⟩
  by_cases lt : i < n
  · exact .inr ⟨w.goes i H lt (hG i H hi p), Pv (i + 1), fun H' p' => ⟨n - (i + 1), by omega, rfl, lt, p'⟩, fun x H' y => hs i x H H' lt p (w.yields i H x H' lt (hG i H hi p) y)⟩
  · obtain rfl : i = n := by omega
    exact .inl ⟨w.stops H (hG i H hi p), hd H p⟩
section
variable {X : Cx} {Z : Kx} {E : XS} {e tg it : Expr} {x : Str} {pos p apos cpos : Pos} {B0 F B H : Hp} {ρ : Env} {σ : St} {D : Ends}
theorem evn_dc {wi : TI} {g : TG} {tt : TT} {tk te : TE} {vs : List Nat} {mi : Env → Wp (List Dt)} {mg : Dt → Env → Wp Env} {mt : Env → Wp Bool} {mk me : Env → Wp Dt} (hi : EvI Z E wi mi) (hg : EvC Z g vs mg) (ht : EvT Z EZ tt mt) (hk : Ev Z EZ tk mk) (he : Ev Z EZ te me) :
    EvN Z E (tDc wi g tt tk te vs) (fun ρ => (mi ρ).bind fun xs => (Wp.calm (dcompL mt mk me mg (wipeE ρ vs) xs [])).bind fun ys => .ret (.d ys)) := by
  have hM := fun (ρ : Env) => mn_dcompL (ρ := ρ) ht.mn hk.mn he.mn hg.ev.mn
  refine ⟨fun ρ => mn_bind (hi.mn ρ) fun xs => mn_bind (mn_calm (hM _ _ _)) fun _ => mn_ret, fun B0 F ρ σ B H Q s q => ?_⟩
  refine hi.run B0 F ρ σ B H _ s (hi.mn ρ _ _ _ _ (fun xs z J B1 H1 g1 w => ?_) (fun _ z => z) q)
  obtain ⟨G, Y, w, hG, hY⟩ := w
  intro Dl nD
  have s1 := s.gr g1
  obtain ⟨F', s0, bg, back⟩ := s1.root
  have s2 : SR Z B1 F' ρ σ B1 (upd H1 Dl (.dK [])) := s0.gr (Gr.tmp s1.bh nD)
  have nF := s0.fresh nD
  refine dc_it w (fun i H' => ∃ acc ds B', H' Dl = some (.dK acc) ∧ B' Dl = none ∧ Gr B1 H1 B' H' ∧ RpKv Z B' acc ds ∧ SR Z B1 F' ρ σ B' H' ∧ dcompL mt mk me mg (wipeE ρ vs) (xs.drop i) ds (fun ys => ∀ a B' H', Gr B H B' H' → H a = none → RqN Z B' H' a (.d ys) → Q (.ref a) H') (fun _ => False))
    ⟨[], [], B1, upd_same, nF.2, Gr.tmp s1.bh nD, .nil, s2, z⟩ (fun i H' _ ⟨_, _, B', _, _, g', _, _, _⟩ => hG B' H' g'.b g'.bh) ?_ ?_
  · rintro i x H' H'' hlt ⟨acc, ds, B', hD, nB, g', ra, s', z'⟩ y
    obtain ⟨B2, d, hd, g2, r2⟩ := hY i H' x H'' B' hlt g'.b g'.bh y
    have ed : xs.drop i = d :: xs.drop (i + 1) := by
      rw [List.drop_eq_getElem_cons hlt]
      congr 1
      rw [List.getElem?_eq_getElem hlt] at hd
      exact Option.some.inj hd
    rw [ed] at z'
    have s4 := (s'.gr g2).wipe vs
    obtain ⟨hD2, nB2⟩ := g2.h Dl _ nB hD
    refine hg.run B1 F' _ _ B2 H'' x d _ _ s4 r2 (hg.ev.mn d _ _ _ _ _ (fun ρ2 z2 σ2 e2 s5 => ⟨by rw [e2, wipe_wipe _ _ _ fun _ h => h], ?_⟩) (fun _ z => z) z')
    refine ht.run B1 F' ρ2 σ2 B2 H'' _ s5 (ht.mn ρ2 _ _ _ _ (fun b z3 B3 H3 g3 => ?_) (fun _ z => z.elim) z2)
    have s6 := s5.gr g3
    obtain ⟨hD3, nB3⟩ := g3.h Dl _ nB2 hD2
    cases b with
    | true =>
      refine iteT (hk.run B1 F' ρ2 σ2 B3 H3 _ s6 (hk.mn ρ2 _ _ _ _ (fun kd z4 u B4 H4 g4 r4 => ?_) (fun _ z => z.elim) z3))
      refine he.run B1 F' ρ2 σ2 B4 H4 _ (s6.gr g4) (he.mn ρ2 _ _ _ _ (fun dd z5 u' B5 H5 g5 r5 => ?_) (fun _ z => z.elim) z4)
      obtain ⟨hD5, nB5⟩ := (g4.trans g5).h Dl _ nB3 hD3
      dsimp only at z5
      cases hkd : keyD kd with
      | none => rw [hkd] at z5; exact z5.elim
      | some k =>
        rw [hkd] at z5
        have gg : Gr B' H' B5 H5 := ((g2.trans g3).trans g4).trans g5
        have nodl : Gr B1 H1 B5 (upd H5 Dl (.dK (putK acc k u'))) := by
          have gA := g'.trans gg
          refine ⟨gA.b, gA.bh.put nB5, fun a o n h => ?_⟩
          rw [upd_ne (ne_of_none h nD)]
          exact gA.h a o n h
        exact ⟨acc, k, (Rq.fz (H := H4) r4).key hkd, hD5, by rw [ra.len]; exact z5.1, putK acc k u', putD ds k dd, B5, upd_same, nB5, nodl, (ra.ex gg.b).put r5, s0.gr nodl, z5.2⟩
    | false =>
      have gg : Gr B' H' B3 H3 := g2.trans g3
      exact iteF ⟨acc, ds, B3, hD3, nB3, g'.trans gg, ra.ex gg.b, s'.gr gg, z3⟩
  · rintro H' ⟨acc, ds, B', hD, nB, g', ra, s', z'⟩
    rw [List.drop_length] at z'
    exact z' Dl B' H' (g1.trans g') (g1.no s.bh nD) (.d hD ra nB)
theorem mn_dc {scope : Scope} {own : List (Str × Nat)} {ifs : List Expr} {kx' vx : Expr} {g : TG} {mi : Env → Wp (List Dt)} {mg : Dt → Env → Wp Env} {mt : Env → Wp Bool} {mk me : Env → Wp Dt} (hc : X.calm = true) (hN : X.N.Nodup) (hi : MI X E tg it mi) (ok : BlkOk X.N X.env.scope scope own)
    (hg : ∀ (s : Shared) (H : Hp) (C : Addr) (cl : List (Str × Addr)) (fp : List Addr), PG (X.blk s H scope (compEnvC scope cl C X.env) fp) tg g) (hgv : EvC (kx X) g (own.map (·.2)) mg)
    (ht : ∀ (s : Shared) (H : Hp) (C : Addr) (cl : List (Str × Addr)) (fp : List Addr), MTs (X.blk s H scope (compEnvC scope cl C X.env) fp) EZ ifs mt)
    (hk : ∀ (s : Shared) (H : Hp) (C : Addr) (cl : List (Str × Addr)) (fp : List Addr), ME (X.blk s H scope (compEnvC scope cl C X.env) fp) EZ kx' mk)
    (he : ∀ (s : Shared) (H : Hp) (C : Addr) (cl : List (Str × Addr)) (fp : List Addr), ME (X.blk s H scope (compEnvC scope cl C X.env) fp) EZ vx me)
    (hs : ∀ x, foldedSetIterable it X.env x = pure x := by intro _; rfl) :
    MN X E (.DictComp kx' vx [⟨tg, it, ifs, 0⟩] scope pos) (fun ρ => (mi ρ).bind fun xs => (Wp.calm (dcompL mt mk me mg (wipeE ρ (own.map (·.2))) xs [])).bind fun ys => .ret (.d ys)) := by
  obtain ⟨wi, pi, vi⟩ := hi
  obtain ⟨tt, pt, vt⟩ := uniT (Z := kx X) (fun i : Shared × Hp × Addr × List (Str × Addr) × List Addr => X.blk i.1 i.2.1 scope (compEnvC scope i.2.2.2.1 i.2.2.1 X.env) i.2.2.2.2) (X.s_0, X.H_0, 0, [], []) (fun _ => rfl) fun i => ht _ _ _ _ _
  obtain ⟨tk, pk, vk⟩ := uniE (Z := kx X) (fun i : Shared × Hp × Addr × List (Str × Addr) × List Addr => X.blk i.1 i.2.1 scope (compEnvC scope i.2.2.2.1 i.2.2.1 X.env) i.2.2.2.2) (X.s_0, X.H_0, 0, [], []) (fun _ => rfl) fun i => hk _ _ _ _ _
  obtain ⟨te, pe, ve⟩ := uniE (Z := kx X) (fun i : Shared × Hp × Addr × List (Str × Addr) × List Addr => X.blk i.1 i.2.1 scope (compEnvC scope i.2.2.2.1 i.2.2.1 X.env) i.2.2.2.2) (X.s_0, X.H_0, 0, [], []) (fun _ => rfl) fun i => he _ _ _ _ _
  exact ⟨_, pe_dc hc hN pi ok hg (fun s H C cl fp => pt (s, H, C, cl, fp)) (fun s H C cl fp => pk (s, H, C, cl, fp)) (fun s H C cl fp => pe (s, H, C, cl, fp)) hs, evn_dc vi hgv vt vk ve⟩
def mergeD (kvs more : List (Key × Dt)) : List (Key × Dt) := more.foldl (fun acc kv => putD acc kv.1 kv.2) kvs
theorem RpKv.merge {B : Hp} : ∀ {more : List (Key × V)} {mds : List (Key × Dt)} {kvs : List (Key × V)} {ds : List (Key × Dt)}, RpKv Z B more mds → RpKv Z B kvs ds → RpKv Z B (mergeK kvs more) (mergeD ds mds)
  | _, _, _, _, .nil, q => q
  | _, _, _, _, .cons a r, q => r.merge (q.put a)
def tDUpd (td ty : TE) : TE := fun σ H Q => td σ H fun x H1 => ∃ a, x = .ref a ∧ IsD H1 a ∧ ty σ H1 fun y H2 => ∃ b kvs more, y = .ref b ∧ a ≠ b ∧ H2 a = some (.dK kvs) ∧ Rd H2 b (.dK more) ∧ kvs.length + more.length ≤ sizeLine ∧ Q .non (upd H2 a (.dK (mergeK kvs more)))
theorem pe_dupd {o : Expr} {td ty : TE} (ho : PE X o td) (he : PE X e ty) (m : M1 X o "update" apos e cpos) : PE X (.Call (.Attribute o "update" apos) [e] [] cpos) (tDUpd td ty) := by
  refine ⟨fun pins s σ H Q I h => ?_⟩
  refine wpAny_Call_method m.base m.few m.line PySem.F.plainAttrs_dict PySem.F.slot_dict_update PySem.F.type_dict_update (thn (ho.run pins s σ H _ I h) fun u s1 ⟨x, H1, I1, rx, a, ex, d, q1⟩ => ?_)
  subst ex
  obtain rfl : u = Value.ref a := rx
  obtain ⟨t1, t2, _⟩ := isD_at I1 d
  refine ⟨t1, t2, ?_⟩
  rw [m.trees]
  refine Calls.callWith_builtin rfl (Calls.evalArgs_plain (Calls.spliced_cons (thn (he.run pins s1 σ H1 _ I1 q1) fun iv s2 ⟨y, H2, I2, ry, b, kvs, more, ey, hne, ha, hb, hz, q2⟩ => Calls.spliced_nil ?_)))
  subst ey
  obtain rfl : iv = Value.ref b := ry
  obtain ⟨z, hd, vs, rel, dd⟩ := dk_of I2.hok ha
  obtain ⟨z2, hd2, ws, rel2, dd2⟩ := dk_rd I2.hok hb
  have l1 : kvs.length = vs.length := rel.length
  have l2 : more.length = ws.length := rel2.length
  refine call_meetsIn PySem.F.slot_dict_update dd.typeIs PySem.F.entry_dict_update (PySem.F.args_dict_update_2 _ _) (meets_dict_update (mixKind X.prog X.w) a b hne hd2) ⟨vs, ws, dd, dd2, by omega, fun h' dd' _ hs => ?_⟩
  have hl := length_mergeK more kvs
  have hx : ∃ q, h'.get? a = some q := let ⟨q, _, _, hq, _⟩ := dd'; ⟨q, hq⟩
  exact ⟨.non, _, d_write (t' := s2.toks) I2 (by rw [ha]; exact True.intro) hs hx (dk_new (by omega) hd (rel2.merge rel) dd'), rfl, q2⟩
def asD : Dt → Wp (List (Key × Dt))
  | .dct kvs => .ret kvs
  | _ => .bad
theorem mn_asD (d : Dt) : Mn (asD d) := by cases d <;> first | exact mn_ret | exact mn_bad
theorem ms_dupd (i : Nat) {xp : Pos} {m : Env → Wp Dt} (he : ME X E e m) (hN : X.N[i]? = some x := by rfl) (hv : Vis X.env.scope x := by first | exact Or.inl rfl | exact Or.inr (Or.inl rfl) | exact Or.inr (Or.inr rfl)) (hd : (x == ("__debug__" : Str)) = false := by decide) (hcd : (x == ("__classdict__" : Str)) = false := by decide)
    (hm : M1 X (.Name x xp) "update" apos e cpos := by exact ⟨rfl, rfl, rfl, rfl⟩) (hs : swapsWith (.Call (.Attribute (.Name x xp) "update" apos) [e] [] cpos) none pos.line X.env = pure false := by rfl) :
    MS X E (.Expr (.Call (.Attribute (.Name x xp) "update" apos) [e] [] cpos) pos) (fun ρ => (gD ρ i).bind fun kvs => ((m ρ).bind asD).bind fun more => .gd (kvs.length + more.length ≤ sizeLine) (.ret (.nx (ρ.set i (.od (mergeD kvs more)))))) := by
  obtain ⟨t, p, v⟩ := he
  refine ⟨_, ps_expr (pe_dupd (pe_var hN hv hd hcd) p hm) hs, fun ρ => mn_bind mn_gD fun _ => mn_bind (mn_bind (v.mn ρ) mn_asD) fun d => mn_gd mn_ret, fun B0 F ρ σ B H D s q => ?_⟩
  obtain ⟨kvs, ei, q⟩ := gD_at q
  obtain ⟨a, vs, ea, ha, ra, nb⟩ := s.getD ei
  refine ⟨_, ea, a, rfl, .inl ⟨vs, .inl ha⟩, v.run B0 F ρ σ B H _ s (v.mn ρ _ _ _ _ (fun d z u B1 H1 g r => ?_) (fun _ z => z.sr s) q)⟩
  have s1 := s.gr g
  obtain ⟨h1, n1⟩ := g.h a _ nb ha
  cases d with
  | dct more =>
    cases r with
    | @dct b o ws _ hb rb =>
      have ne : a ≠ b := fun z => by subst z; rw [n1] at hb; cases hb
      have z1 : kvs.length + more.length ≤ sizeLine := z.1
      refine ⟨b, vs, ws, rfl, ne, h1, .inr ⟨o, g.bh _ _ hb⟩, by rw [ra.len, rb.len]; exact z1, z.2 σ B1 _ (s1.mutD ei ea (rb.merge (ra.ex g.b)))⟩
  | _ => exact z.elim
def retDrw : Dt → Nw → Dt → Wp Fl
  | .int m, .l xs, .int t => .gd (0 ≤ m ∧ 0 ≤ t ∧ ∃ ns : List Int, xs = ns.map Dt.int ∧ ns.length ≤ 63) (.ret (.rt .drw))
  | _, _, _ => .bad
theorem mn_retDrw (a : Dt) (b : Nw) (c : Dt) : Mn (retDrw a b c) := by
  unfold retDrw; split
  · exact mn_gd mn_ret
  · exact mn_bad
theorem kMG : ¬ ("mixed" : Str) = ("great" : Str) := by decide +kernel
theorem kMT : ¬ ("mixed" : Str) = ("turn" : Str) := by decide +kernel
theorem kGT : ¬ ("great" : Str) = ("turn" : Str) := by decide +kernel
theorem merge3 {g : Addr} {m t : Int} : mergeK [] (drwK g m t) = drwK g m t := by
  simp [mergeK, drwK, putK, kMG, kMT, kGT]
theorem RpAll.toInts {B : Hp} : ∀ {vs : List V} {ns : List Int}, RpAll Z B vs (ns.map Dt.int) → vs = ns.map V.int
  | _, [], .nil => rfl
  | _, n :: ns, .cons a r => by cases a; rw [r.toInts]; rfl
theorem ms_retDrw {e1 e2 e3 : Expr} {k1 k2 k3} {p1 p2 p3 dpos : Pos} {m1 m3 : Env → Wp Dt} {m2 : Env → Wp Nw} (h1 : ME X E e1 m1) (h2 : MN X E e2 m2) (h3 : ME X E e3 m3) :
    MS X E (.Return (some (.Dict [some (.Constant (.str "mixed") k1 p1), some (.Constant (.str "great") k2 p2), some (.Constant (.str "turn") k3 p3)] [e1, e2, e3] dpos)) pos) (fun ρ => (m1 ρ).bind fun a => (m2 ρ).bind fun b => (m3 ρ).bind fun c => retDrw a b c) := by
  obtain ⟨t1, q1, v1⟩ := h1
  obtain ⟨t2, q2, v2⟩ := h2
  obtain ⟨t3, q3, v3⟩ := h3
  refine ⟨_, ps_retD (pe_disp (pps_cons pe_str q1 (pps_cons pe_str q2 (pps_cons pe_str q3 pps_nil))) rfl rfl (by simp) (by show 3 ≤ 15; decide)), fun ρ => mn_bind (v1.mn ρ) fun _ => mn_bind (v2.mn ρ) fun _ => mn_bind (v3.mn ρ) fun _ => mn_retDrw _ _ _, fun B0 F ρ σ B H D s q p np => ?_⟩
  have sp := s.gr (Gr.tmp (o := .dK []) s.bh np)
  have nB := s.bh.no np
  have hp : (upd H p (HO.dK [])) p = some (.dK []) := upd_same
  refine v1.run B0 F ρ σ B _ _ sp (v1.mn ρ _ _ _ _ (fun a za u B1 H1 g1 r1 => ?_) (fun _ z => z.sr sp) q)
  have s1 := sp.gr g1
  obtain ⟨hp1, nB1⟩ := g1.h p _ nB hp
  refine v2.run B0 F ρ σ B1 H1 _ s1 (v2.mn ρ _ _ _ _ (fun b zb ga B2 H2 g2 hn r2 => ?_) (fun _ z => z.sr s1) za)
  have s2 := s1.gr g2
  obtain ⟨hp2, nB2⟩ := g2.h p _ nB1 hp1
  refine v3.run B0 F ρ σ B2 H2 _ s2 (v3.mn ρ _ _ _ _ (fun c zc w B3 H3 g3 r3 => ?_) (fun _ z => z.sr s2) zb)
  have s3 := s2.gr g3
  obtain ⟨hp3, nB3⟩ := g3.h p _ nB2 hp2
  cases a with
  | int m =>
    cases r1
    cases b with
    | l xs =>
      cases c with
      | int t =>
        cases r3
        cases r2 with
        | @l gv _ hg rg nbg =>
          obtain ⟨⟨m0, t0, ns, rfl, hns⟩, zc⟩ := zc
          have eg := rg.toInts
          subst eg
          obtain ⟨hg3, nbg3⟩ := g3.h ga _ nbg hg
          have ne : p ≠ ga := fun z => by subst z; rw [hp1] at hn; cases hn
          refine ⟨hp3, drwK ga m t, rfl, by show 3 ≤ 15; decide, ?_⟩
          rw [merge3]
          refine ⟨p, ga, m, t, ns, ne, m0, t0, hns, upd_same, by rw [upd_ne (Ne.symm ne)]; exact hg3, ?_⟩
          have e1 : upd (upd (upd H3 p (.dK (drwK ga m t))) p (drwD (kx X) p ga)) ga (drwG (kx X) ga) = upd (upd H3 p (drwD (kx X) p ga)) ga (drwG (kx X) ga) := by
            funext b
            by_cases hb : b = ga
            · subst hb; rw [upd_same, upd_same]
            · rw [upd_ne hb, upd_ne hb]
              by_cases hb2 : b = p
              · subst hb2; rw [upd_same, upd_same]
              · rw [upd_ne hb2, upd_ne hb2, upd_ne hb2]
          rw [e1]
          have Fp := (s.fresh np).1
          have Fg : F ga = none := (s1.fresh hn).1
          have G1 := s3.fin.frzU (o := drwD (kx X) p ga) Fp nB3
          have G2 := G1.frzU (o := drwG (kx X) ga) Fg (by rw [upd_ne (Ne.symm ne)]; exact nbg3)
          exact zc _ _ _ G2 (.drw ne (by rw [upd_ne ne, upd_same]) upd_same)
      | _ => exact zc.elim
    | d _ => exact zc.elim
  | _ => cases b <;> exact zc.elim
end
end Mv

namespace Mv
open PySem L2 PyProof.Rows
section
variable {gb : Bool} {X : Cx} {E : XS} {Z : Kx} {e : Expr} {es : List Expr} {pos p : Pos} {k n : Nat}
theorem MAn.ma {m : Env → Wp (List Dt)} (h : MAn X E es n m) : MA X E es m := h.1
theorem mac_cons {m : Env → Wp Dt} {ms : Env → Wp (List Dt)} (h : ME X E e m) (k : MA X E es ms) (hs : starEach (e :: es) X.env = (false, eval e X.env) :: starEach es X.env := by rfl) : MA X E (e :: es) (fun ρ => (m ρ).bind fun x => (ms ρ).bind fun xs => .ret (x :: xs)) := by
  obtain ⟨t, p, v⟩ := h
  obtain ⟨ts, ps, vs⟩ := k
  refine ⟨_, pa_cons p ps hs, fun ρ => mn_bind (v.mn ρ) fun _ => mn_bind (vs.mn ρ) fun _ => mn_ret, fun B0 F ρ σ B H Q s q => ?_⟩
  refine v.run B0 F ρ σ B H _ s (v.mn ρ _ _ _ _ (fun x k u B1 H1 g1 r1 => ?_) (fun _ z => z) q)
  exact vs.run B0 F ρ σ B1 H1 _ (s.gr g1) (vs.mn ρ _ _ _ _ (fun xs z us B2 H2 g2 r2 => z (u :: us) B2 H2 (g1.trans g2) (.cons (r1.ex g2.b) r2)) (fun _ z => z.gr g1) k)
theorem mac_nil : MA X E [] (fun _ => .ret []) := ma_nil.1
/-- a def held by a name: one of a table -/
def callTb (tb : List (PySem.Str × (List Dt → Wp Dt))) (f : Dt) (ds : List Dt) : Wp Dt := match f with
  | .glo x => (match tb.lookup x with
    | some m => m ds
    | none => .bad)
  | _ => .bad
theorem mn_callTb {tb : List (PySem.Str × (List Dt → Wp Dt))} (h : ∀ x m, tb.lookup x = some m → ∀ ds, Mn (m ds)) (f : Dt) (ds : List Dt) : Mn (callTb tb f ds) := by
  unfold callTb
  split
  · split
    · rename_i m e; exact h _ _ e ds
    · exact mn_bad
  · exact mn_bad
def isTb (tb : List (PySem.Str × (List Dt → Wp Dt))) : Dt → Bool
  | .glo x => (tb.lookup x).isSome
  | _ => false
end
end Mv

namespace Mv
open PySem L2
theorem b_ret {α β : Type} (a : α) (f : α → Wp β) : (Wp.ret a).bind f = f a := rfl
theorem b_bind {α β γ : Type} (m : Wp α) (f : α → Wp β) (g : β → Wp γ) : (m.bind f).bind g = m.bind fun a => (f a).bind g := rfl
theorem b_gd {α β : Type} (p : Prop) (m : Wp α) (f : α → Wp β) : (Wp.gd p m).bind f = Wp.gd p (m.bind f) := rfl
theorem b_asB (b : Bool) : asB (.bl b) = .ret b := rfl
theorem wIf_t {α : Type} (a b : Wp α) : wIf (.ret true) a b = a := rfl
theorem wIf_f {α : Type} (a b : Wp α) : wIf (.ret false) a b = b := rfl
theorem wOr_t (m : Wp Bool) : wOr (.ret true) m = .ret true := rfl
theorem wOr_f (m : Wp Bool) : wOr (.ret false) m = m := rfl
theorem wNot_r (b : Bool) : wNot (.ret b) = .ret (!b) := rfl
theorem vAnd_t (m : Wp Dt) : vAnd (.ret (.bl true)) m = m := rfl
theorem vAnd_f (m : Wp Dt) : vAnd (.ret (.bl false)) m = .ret (.bl false) := rfl
theorem vNot_r (b : Bool) : vNot (.ret (.bl b)) = .ret (.bl (!b)) := rfl
theorem fl_nx (ρ : Env) (f : Env → Wp Fl) : Wp.fl (.ret (.nx ρ)) f = f ρ := rfl
theorem fl_rt (d : Dt) (f : Env → Wp Fl) : Wp.fl (.ret (.rt d)) f = .ret (.rt d) := rfl
theorem fl_bind {α : Type} (m : Wp α) (g : α → Wp Fl) (f : Env → Wp Fl) : Wp.fl (m.bind g) f = m.bind fun a => Wp.fl (g a) f := rfl
theorem fl_gd (p : Prop) (m : Wp Fl) (f : Env → Wp Fl) : Wp.fl (Wp.gd p m) f = Wp.gd p (Wp.fl m f) := rfl
theorem gd_t {α : Type} {p : Prop} (m : Wp α) (h : p) : Wp.gd p m = m := by
  funext Q E; unfold Wp.gd; simp [h]
theorem ofO_s {α : Type} (a : α) : ofO (some a) = .ret a := rfl
theorem gF_def (ρ : Env) (i : Nat) {d : Dt} (h : ρ[i]? = some (.fz d)) : gF ρ i = .ret d := by unfold gF; rw [h]
theorem gR_fz (ρ : Env) (i : Nat) {d : Dt} (h : ρ[i]? = some (.fz d)) : gR ρ i = .ret d := by unfold gR; rw [h]
theorem gR_od (ρ : Env) (i : Nat) {d : List (Key × Dt)} (h : ρ[i]? = some (.od d)) : gR ρ i = .ret (.dct d) := by unfold gR; rw [h]
theorem gR_0 (d : Dt) (ρ : Env) : gR (.fz d :: ρ) 0 = .ret d := rfl
theorem gR_0l (d : List Dt) (ρ : Env) : gR (.ol d :: ρ) 0 = .ret (.lst d) := rfl
theorem gR_0d (d : List (Key × Dt)) (ρ : Env) : gR (.od d :: ρ) 0 = .ret (.dct d) := rfl
theorem gR_s (s : Sl) (ρ : Env) (i : Nat) : gR (s :: ρ) (i + 1) = gR ρ i := by simp only [gR, List.getElem?_cons_succ]
theorem gF_0 (d : Dt) (ρ : Env) : gF (.fz d :: ρ) 0 = .ret d := rfl
theorem gF_s (s : Sl) (ρ : Env) (i : Nat) : gF (s :: ρ) (i + 1) = gF ρ i := by simp only [gF, List.getElem?_cons_succ]
theorem gL_0 (d : List Dt) (ρ : Env) : gL (.ol d :: ρ) 0 = .ret d := rfl
theorem gL_s (s : Sl) (ρ : Env) (i : Nat) : gL (s :: ρ) (i + 1) = gL ρ i := by simp only [gL, List.getElem?_cons_succ]
theorem gD_0 (d : List (Key × Dt)) (ρ : Env) : gD (.od d :: ρ) 0 = .ret d := rfl
theorem gD_s (s : Sl) (ρ : Env) (i : Nat) : gD (s :: ρ) (i + 1) = gD ρ i := by simp only [gD, List.getElem?_cons_succ]
theorem fnWp_def (n : Nat) (mb : Env → Wp Fl) (ds : List Dt) : fnWp n mb ds = (mb (ds.map Sl.fz ++ List.replicate (n - ds.length) .no)).bind finW := rfl
theorem finW_rt (d : Dt) : finW (.rt d) = .ret d := rfl
theorem ret_q {α : Type} (a : α) (Q : α → Prop) (E : Xn → Prop) : Wp.ret a Q E = Q a := rfl
theorem b_calm {α : Type} (a : α) : Wp.calm (.ret a) = .ret a := rfl
theorem isi_ii : isi7 .int "int" = some true := by decide
theorem isi_ib : isi7 .int "bool" = some false := by decide
theorem isi_is : isi7 .int "str" = some false := by decide
theorem isi_it : isi7 .int "tuple" = some false := by decide
theorem isi_bi : isi7 .bl "int" = some true := by decide
theorem isi_bb : isi7 .bl "bool" = some true := by decide
theorem isi_bs : isi7 .bl "str" = some false := by decide
theorem isi_bt : isi7 .bl "tuple" = some false := by decide
theorem isi_ss : isi7 .str "str" = some true := by decide
theorem isi_si : isi7 .str "int" = some false := by decide
theorem isi_st : isi7 .str "tuple" = some false := by decide
theorem isi_tt : isi7 .tup "tuple" = some true := by decide
theorem isi_ts : isi7 .tup "str" = some false := by decide
theorem isi_ti : isi7 .tup "int" = some false := by decide
theorem isi_ls : isi7 .lst "str" = some false := by decide
theorem isi_li : isi7 .lst "int" = some false := by decide
theorem isi_lt : isi7 .lst "tuple" = some false := by decide
theorem isi_ns : isi7 .non "str" = some false := by decide
theorem isi_ni : isi7 .non "int" = some false := by decide
theorem isi_nt : isi7 .non "tuple" = some false := by decide
theorem isi_ds : isi7 .dct "str" = some false := by decide
theorem isi_di : isi7 .dct "int" = some false := by decide
theorem isi_dt : isi7 .dct "tuple" = some false := by decide
theorem compL_map {t : Env → Wp Bool} {e : Env → Wp Dt} {g : Dt → Env → Wp Env} {ρ : Env} (f : Dt → Dt) : ∀ (xs acc : List Dt), (∀ x ∈ xs, ∃ ρ', g x ρ = .ret ρ' ∧ t ρ' = .ret true ∧ e ρ' = .ret (f x)) → acc.length + xs.length ≤ sizeLine → compL t e g ρ xs acc = .ret (acc ++ xs.map f)
  | [], acc, _, _ => by simp [compL]
  | x :: xs, acc, h, hl => by
    obtain ⟨ρ', h1, h2, h3⟩ := h x (by simp)
    simp only [List.length_cons] at hl
    have ih := compL_map (t := t) (e := e) (g := g) (ρ := ρ) f xs (acc ++ [f x]) (fun y hy => h y (by simp [hy])) (by simp; omega)
    simp only [compL, h1, b_ret, h2, h3, if_true, List.map_cons]
    rw [gd_t _ (by omega), ih]
    simp
mutual
def pl : Dt → Bool
  | .non => true
  | .int _ => true
  | .str x => PyData.strOk x
  | .lst xs => plAll xs
  | .tup xs => plAll xs
  | _ => false
def plAll : List Dt → Bool
  | [] => true
  | x :: xs => pl x && plAll xs
end
theorem plAll_iff : ∀ xs : List Dt, plAll xs = true ↔ ∀ x ∈ xs, pl x = true
  | [] => by simp [plAll]
  | x :: xs => by simp [plAll, plAll_iff xs]
mutual
theorem pl_lay : ∀ d : Dt, pl d = true → (py d).canLay0 = true
  | .non, _ => by simp [py, PyData.canLay0]
  | .int _, _ => by simp [py, PyData.canLay0]
  | .str x, h => by simpa [py, PyData.canLay0, pl] using h
  | .lst xs, h => by simpa [py, PyData.canLay0] using plAll_lay xs (by simpa [pl] using h)
  | .tup xs, h => by simpa [py, PyData.canLay0] using plAll_lay xs (by simpa [pl] using h)
  | .bl _, h => by simp [pl] at h
  | .dct _, h => by simp [pl] at h
  | .obj _ _, h => by simp [pl] at h
  | .glo _, h => by simp [pl] at h
  | .ty _, h => by simp [pl] at h
  | .scr _, h => by simp [pl] at h
  | .drw, h => by simp [pl] at h
  | .set _, h => by simp [pl] at h
  | .exc _ _, h => by simp [pl] at h
  | .ftp _, h => by simp [pl] at h
theorem plAll_lay : ∀ xs : List Dt, plAll xs = true → PyData.canLayAll0 (pyAll xs) = true
  | [], _ => by simp [pyAll, PyData.canLayAll0]
  | x :: xs, h => by
    simp only [plAll, Bool.and_eq_true] at h
    simp [pyAll, PyData.canLayAll0, pl_lay x h.1, plAll_lay xs h.2]
end
mutual
theorem eqv_pl : ∀ d e : Dt, pl d = true → pl e = true → (PyData.eqv (py d) (py e) = true ↔ d = e)
  | .non, e, _, he => by cases e <;> simp [py, PyData.eqv, pl] at he ⊢
  | .int i, e, _, he => by cases e <;> simp [py, PyData.eqv, pl] at he ⊢
  | .str x, e, _, he => by cases e <;> simp [py, PyData.eqv, pl] at he ⊢
  | .lst xs, e, hd, he => by
    cases e with
    | lst ys =>
      have := eqvAll_pl xs ys (by simpa [pl] using hd) (by simpa [pl] using he)
      simpa [py, PyData.eqv] using this
    | _ => simp [py, PyData.eqv, pl] at he ⊢
  | .tup xs, e, hd, he => by
    cases e with
    | tup ys =>
      have := eqvAll_pl xs ys (by simpa [pl] using hd) (by simpa [pl] using he)
      simpa [py, PyData.eqv] using this
    | _ => simp [py, PyData.eqv, pl] at he ⊢
  | .bl _, _, h, _ => by simp [pl] at h
  | .dct _, _, h, _ => by simp [pl] at h
  | .obj _ _, _, h, _ => by simp [pl] at h
  | .glo _, _, h, _ => by simp [pl] at h
  | .ty _, _, h, _ => by simp [pl] at h
  | .scr _, _, h, _ => by simp [pl] at h
  | .drw, _, h, _ => by simp [pl] at h
  | .set _, _, h, _ => by simp [pl] at h
  | .exc _ _, _, h, _ => by simp [pl] at h
theorem eqvAll_pl : ∀ xs ys : List Dt, plAll xs = true → plAll ys = true → (PyData.eqvAll (pyAll xs) (pyAll ys) = true ↔ xs = ys)
  | [], [], _, _ => by simp [pyAll, PyData.eqvAll]
  | [], y :: ys, _, _ => by simp [pyAll, PyData.eqvAll]
  | x :: xs, [], _, _ => by simp [pyAll, PyData.eqvAll]
  | x :: xs, y :: ys, h, k => by
    simp only [plAll, Bool.and_eq_true] at h k
    simp [pyAll, PyData.eqvAll, eqv_pl x y h.1 k.1, eqvAll_pl xs ys h.2 k.2]
end
end Mv

namespace Mv
open PySem L2
def eqD (d e : Dt) : Bool := PyData.eqv (py d) (py e)
/-- plain and not deep -/
def Pl (d : Dt) : Prop := pl d = true ∧ (py d).depth ≤ 64
theorem eqD_iff {d e : Dt} (hd : Pl d) (he : Pl e) : eqD d e = true ↔ d = e := eqv_pl d e hd.1 he.1
theorem eqD_self {d : Dt} (hd : Pl d) : eqD d d = true := (eqD_iff hd hd).mpr rfl
theorem Pl.shaped {d : Dt} (h : Pl d) : SeqAt.shaped (py d) = true := Bool.and_eq_true_iff.mpr ⟨pl_lay d h.1, decide_eq_true h.2⟩
theorem dEq_pl {d e : Dt} (hd : Pl d) (he : Pl e) : dEq d e = .ret (eqD d e) := by
  unfold dEq; split
  · simp [eqD, py, PyData.eqv]; rfl
  · simp [eqD, py, PyData.eqv]; rfl
  · simp [Pl, pl] at hd
  · simp [eqD, py, PyData.eqv]
  · rw [gd_t _ ⟨hd.shaped, he.shaped⟩]; rfl
theorem pyEq_pl {d e : Dt} (hd : Pl d) (he : Pl e) : pyEq d e = .ret (.bl (eqD d e)) := by unfold pyEq; rw [dEq_pl hd he]; rfl
theorem pyNe_pl {d e : Dt} (hd : Pl d) (he : Pl e) : pyNe d e = .ret (.bl (!eqD d e)) := by unfold pyNe; rw [dEq_pl hd he]; rfl
theorem depthAll_le {n : Nat} : ∀ xs : List Dt, (∀ x ∈ xs, (py x).depth ≤ n) → PyData.depthAll (pyAll xs) ≤ n
  | [], _ => by simp [pyAll, PyData.depthAll]
  | x :: xs, h => by
    have h1 := h x (by simp)
    have h2 := depthAll_le xs fun y hy => h y (by simp [hy])
    rw [pyAll]
    exact Nat.max_le.mpr ⟨h1, h2⟩
theorem Pl.lst {xs : List Dt} {n : Nat} (hn : n ≤ 63) (h : ∀ x ∈ xs, pl x = true ∧ (py x).depth ≤ n) : Pl (.lst xs) ∧ (py (.lst xs)).depth ≤ n + 1 := by
  have e : (py (.lst xs)).depth = PyData.depthAll (pyAll xs) + 1 := by simp [py, PyData.depth]
  have := depthAll_le xs fun x hx => (h x hx).2
  exact ⟨⟨by simp only [pl]; exact (plAll_iff xs).mpr fun x hx => (h x hx).1, by omega⟩, by omega⟩
theorem Pl.tup {xs : List Dt} {n : Nat} (hn : n ≤ 63) (h : ∀ x ∈ xs, pl x = true ∧ (py x).depth ≤ n) : Pl (.tup xs) ∧ (py (.tup xs)).depth ≤ n + 1 := by
  have e : (py (.tup xs)).depth = PyData.depthAll (pyAll xs) + 1 := by simp [py, PyData.depth]
  have := depthAll_le xs fun x hx => (h x hx).2
  exact ⟨⟨by simp only [pl]; exact (plAll_iff xs).mpr fun x hx => (h x hx).1, by omega⟩, by omega⟩
theorem pl0_str {x : Str} (h : PyData.strOk x = true) : pl (.str x) = true ∧ (py (.str x)).depth ≤ 0 := ⟨by simpa [pl] using h, by simp [py, PyData.depth]⟩
def LET : Str := "abcdefghijklmnopqrstuvwxyz"
theorem LET_cps : LET.cps.toList = List.range' 97 26 := by decide +kernel
theorem let_mem (n : Nat) : n ∈ LET.cps.toList ↔ 97 ≤ n ∧ n ≤ 122 := by
  rw [LET_cps, List.mem_range']
  constructor
  · rintro ⟨i, h1, h2⟩; omega
  · intro h; exact ⟨n - 97, by omega, by omega⟩
def isLet (n : Nat) : Bool := decide (97 ≤ n) && decide (n ≤ 122)
theorem let_dec (n : Nat) : decide (n ∈ LET.cps.toList) = isLet n := by
  unfold isLet
  rw [← Bool.decide_and]
  exact decide_eq_decide.mpr (let_mem n)
def letB (x : Str) : Bool := x.cps.toList.all isLet
theorem let_ok {x : Str} (h : letB x = true) : PyData.strOk x = true := by
  unfold PyData.strOk
  rw [← Array.all_toList, List.all_eq_true]
  intro c hc
  have := List.all_eq_true.mp h c hc
  unfold isLet at this
  simp only [Bool.and_eq_true, decide_eq_true_eq] at this ⊢
  omega
theorem all_let {ρ : Env} {i : Nat} (x : Str) (hl : x.cps.size ≤ sizeLine) (hi : i < ρ.length) : compL (fun ρ => Wp.ret true) (fun ρ => Wp.bind (gR ρ i) fun x => pyIn x (Dt.str "abcdefghijklmnopqrstuvwxyz")) (aN i) ρ (sgs x) [] = .ret (x.cps.toList.map fun c => Dt.bl (isLet c)) := by
  have h := compL_map (t := fun ρ => Wp.ret true) (e := fun ρ => Wp.bind (gR ρ i) fun x => pyIn x (Dt.str "abcdefghijklmnopqrstuvwxyz")) (g := aN i) (ρ := ρ) (fun d => match d with | .str s => .bl (isLet (s.cps.toList.headD 0)) | d => d) (sgs x) [] (fun d hd => ?_) (by simpa [sgs] using hl)
  · rw [h]
    simp [sgs, List.map_map, Function.comp_def]
  · unfold sgs at hd
    obtain ⟨c, _, rfl⟩ := List.mem_map.mp hd
    refine ⟨ρ.set i (.fz (.str ⟨#[c]⟩)), rfl, rfl, ?_⟩
    rw [gR_fz _ i (d := .str ⟨#[c]⟩) (List.getElem?_set_self hi)]
    have := let_dec c
    unfold LET at this
    simp only [b_ret, pyIn, dIn, this, b_bind]
    rfl
theorem blsOf_f {α : Type} (f : α → Bool) : ∀ l : List α, blsOf (l.map fun a => Dt.bl (f a)) = some (l.map f)
  | [] => rfl
  | a :: l => by simp [blsOf, blsOf_f f l]
def mb_is_integer : Env → Wp Fl := fun ρ =>
    (Wp.bind (vAnd (Wp.bind (Wp.bind (gR ρ 0) fun x => Wp.bind (Wp.bind (Wp.ret (Dt.ty "int")) fun x => Wp.bind (Wp.ret []) fun xs => .ret (x :: xs)) fun xs => .ret (x :: xs)) pyIsi) (vAnd (vNot (Wp.bind (Wp.bind (gR ρ 0) fun x => Wp.bind (Wp.bind (Wp.ret (Dt.ty "bool")) fun x => Wp.bind (Wp.ret []) fun xs => .ret (x :: xs)) fun xs => .ret (x :: xs)) pyIsi)) (vChain pyLe pyLe (gR ρ 1) (gR ρ 0) (gR ρ 2)))) fun d => .ret (Fl.rt d))
def mb_is_name : Env → Wp Fl := fun ρ =>
    (Wp.fl (wIf (wOr (wNot (Wp.bind (Wp.bind (Wp.bind (gR ρ 0) fun x => Wp.bind (Wp.bind (Wp.ret (Dt.ty "str")) fun x => Wp.bind (Wp.ret []) fun xs => .ret (x :: xs)) fun xs => .ret (x :: xs)) pyIsi) asB)) (wNot (Wp.bind (vChain pyLe pyLe (Wp.ret (Dt.int 1)) (Wp.bind (Wp.bind (gR ρ 0) fun x => Wp.bind (Wp.ret []) fun xs => .ret (x :: xs)) pyLenT) (Wp.ret (Dt.int 8))) asB))) ((Wp.bind (Wp.ret (Dt.bl false)) fun d => .ret (Fl.rt d))) ((Wp.ret (Fl.nx ρ)))) fun ρ =>
    (Wp.bind (Wp.bind (Wp.bind (Wp.bind (Wp.bind (Wp.bind (gF ρ 0) itA) fun xs => Wp.bind (Wp.calm (compL (fun ρ => (Wp.ret true)) (fun ρ => (Wp.bind (gR ρ 1) fun x => Wp.bind (Wp.ret (Dt.str "abcdefghijklmnopqrstuvwxyz")) fun y => pyIn x y)) (aN 1) (wipeE ρ [1]) xs [])) fun ys => .ret (Nw.l ys)) fun n => .ret n.dt) fun x => Wp.bind (Wp.ret []) fun xs => .ret (x :: xs)) pyAllB) fun d => .ret (Fl.rt d)))
def c_is_integer : List Dt → Wp Dt
  | [.int i, .int a, .int b] => .ret (.bl (decide (a ≤ i) && decide (i ≤ b)))
  | [.str _, .int _, .int _] => .ret (.bl false)
  | [.non, .int _, .int _] => .ret (.bl false)
  | [.tup _, .int _, .int _] => .ret (.bl false)
  | [.lst _, .int _, .int _] => .ret (.bl false)
  | [.bl _, .int _, .int _] => .ret (.bl false)
  | [.dct _, .int _, .int _] => .ret (.bl false)
  | _ => .bad
theorem le_is_integer (ds : List Dt) (Q : Dt → Prop) (E : Xn → Prop) (h : c_is_integer ds Q E) : fnWp 3 mb_is_integer ds Q fun _ => False := by
  unfold c_is_integer at h
  split at h
  · rename_i i a b
    cases h1 : decide (a ≤ i) <;> rw [h1] at h <;>
      simpa [fnWp_def, mb_is_integer, gR_0, gR_s, b_ret, b_bind, pyIsi, ty7, isi_ii, isi_ib, ofO_s, vAnd_t, vNot_r, vChain, pyLe, b_asB, h1, finW_rt, ret_q, List.replicate] using h
  all_goals first
    | exact h.elim
    | (simpa [fnWp_def, mb_is_integer, gR_0, gR_s, b_ret, b_bind, pyIsi, ty7, isi_si, isi_ni, isi_ti, isi_li, isi_bi, isi_bb, isi_di, ofO_s, vAnd_t, vAnd_f, vNot_r, b_asB, finW_rt, ret_q, List.replicate] using h)
def nameB (x : Str) : Bool := decide (1 ≤ x.cps.size) && decide (x.cps.size ≤ 8) && letB x
def c_is_name : List Dt → Wp Dt
  | [.str x] => .gd (x.cps.size ≤ sizeLine) (.ret (.bl (nameB x)))
  | [.int _] => .ret (.bl false)
  | [.non] => .ret (.bl false)
  | [.tup _] => .ret (.bl false)
  | [.lst _] => .ret (.bl false)
  | [.bl _] => .ret (.bl false)
  | [.dct _] => .ret (.bl false)
  | _ => .bad
theorem le_is_name (ds : List Dt) (Q : Dt → Prop) (E : Xn → Prop) (h : c_is_name ds Q E) : fnWp 2 mb_is_name ds Q fun _ => False := by
  unfold c_is_name at h
  split at h
  · rename_i x
    obtain ⟨hl, h⟩ := h
    have hl' : x.length ≤ sizeLine := hl
    cases h1 : decide ((1 : Int) ≤ x.length)
    · have e : nameB x = false := by
        unfold nameB
        have : ¬ 1 ≤ x.cps.size := fun z => by
          have : (1 : Int) ≤ x.length := by show (1 : Int) ≤ (x.cps.size : Int); omega
          simp [this] at h1
        simp [this]
      rw [e] at h
      simpa [fnWp_def, mb_is_name, gR_0, gR_s, gF_0, gF_s, b_ret, b_bind, b_gd, pyIsi, ty7, isi_ss, ofO_s, wNot_r, wOr_f, vChain, pyLe, pyLenT, pyLen, b_asB, gd_t _ hl', h1, wIf_t, fl_rt, finW_rt, ret_q, List.replicate] using h
    · cases h2 : decide ((x.length : Int) ≤ 8)
      · have e : nameB x = false := by
          unfold nameB
          have : ¬ x.cps.size ≤ 8 := fun z => by
            have : (x.length : Int) ≤ 8 := by show (x.cps.size : Int) ≤ 8; omega
            simp [this] at h2
          simp [this]
        rw [e] at h
        simpa [fnWp_def, mb_is_name, gR_0, gR_s, gF_0, gF_s, b_ret, b_bind, b_gd, pyIsi, ty7, isi_ss, ofO_s, wNot_r, wOr_f, vChain, pyLe, pyLenT, pyLen, b_asB, gd_t _ hl', h1, h2, wIf_t, fl_rt, finW_rt, ret_q, List.replicate] using h
      · have e : nameB x = letB x := by
          have a1 : 1 ≤ x.cps.size := by
            have := of_decide_eq_true h1
            have : (1 : Int) ≤ (x.cps.size : Int) := this
            omega
          have a2 : x.cps.size ≤ 8 := by
            have := of_decide_eq_true h2
            have : (x.cps.size : Int) ≤ 8 := this
            omega
          simp [nameB, a1, a2]
        rw [e] at h
        have hc := all_let (ρ := [Sl.fz (.str x), .no]) (i := 1) x hl (by simp)
        simp only [fnWp_def, mb_is_name, List.map, List.replicate, List.length_cons, List.length_nil, Nat.reduceSub, Nat.reduceAdd, List.cons_append, List.nil_append, gR_0, gF_0, b_ret, b_bind, b_gd, pyIsi, ty7, isi_ss, ofO_s, wNot_r, wOr_f, vChain, pyLe, pyLenT, pyLen, b_asB, gd_t _ hl', h1, h2, wIf_f, fl_nx, if_true, Bool.not_true, Bool.not_false, itA, wipeE, List.set, hc, b_calm, Nw.dt, pyAllB, blsOf_f, List.all_map, finW_rt, ret_q]
        simpa [letB, ret_q, Function.comp_def] using h
  all_goals first
    | exact h.elim
    | (simpa [fnWp_def, mb_is_name, gR_0, gR_s, b_ret, b_bind, pyIsi, ty7, isi_is, isi_ns, isi_ts, isi_ls, isi_bs, isi_ds, ofO_s, wNot_r, wOr_t, wIf_t, fl_rt, b_asB, finW_rt, ret_q, List.replicate] using h)
end Mv

namespace Mv
open PySem L2 PyProof.Rows
def sg (n : Nat) : PySem.Str := ⟨#[n]⟩
theorem sg_inj {a b : Nat} (h : sg a = sg b) : a = b := by
  unfold sg at h
  injection h with h
  have : #[a].toList = #[b].toList := by rw [h]
  simpa using this
theorem mem_addS {l : List PySem.Str} {k j : PySem.Str} : j ∈ addS l k ↔ j ∈ l ∨ j = k := by
  unfold addS
  split
  · rename_i h
    constructor
    · exact .inl
    · rintro (h' | rfl)
      · exact h'
      · exact h
  · simp [or_comm]
theorem nodup_addS {l : List PySem.Str} {k : PySem.Str} (h : l.Nodup) : (addS l k).Nodup := by
  unfold addS
  split
  · exact h
  · rename_i hk; exact List.nodup_cons.mpr ⟨hk, h⟩
theorem foldS : ∀ (ks l : List PySem.Str), l.Nodup → (ks.foldl addS l).Nodup ∧ ∀ j, j ∈ ks.foldl addS l ↔ j ∈ l ∨ j ∈ ks
  | [], l, h => ⟨h, fun j => by simp⟩
  | k :: ks, l, h => by
    obtain ⟨h1, h2⟩ := foldS ks (addS l k) (nodup_addS h)
    refine ⟨h1, fun j => ?_⟩
    rw [List.foldl_cons, h2, mem_addS]
    simp [or_assoc]
theorem setS_nodup (ks : List PySem.Str) : (setS ks).Nodup := (foldS ks [] List.nodup_nil).1
theorem setS_mem (ks : List PySem.Str) (j : PySem.Str) : j ∈ setS ks ↔ j ∈ ks := by
  have := (foldS ks [] List.nodup_nil).2 j
  simpa [setS] using this
theorem setS_perm {ks : List PySem.Str} (h : ks.Nodup) : (setS ks).Perm ks := perm_of ks (setS ks) h (fun k hk => (setS_mem ks k).mpr hk) (by have := setS_len ks []; simpa [setS] using this)
theorem setS_len_eq {ks : List PySem.Str} (h : ks.Nodup) : (setS ks).length = ks.length := (setS_perm h).length_eq
theorem setS_dup {ks : List PySem.Str} (h : (setS ks).length = ks.length) : ks.Nodup := by
  have p : ks.Perm (setS ks) := perm_of (setS ks) ks (setS_nodup ks) (fun k hk => (setS_mem ks k).mp hk) (by omega)
  exact p.nodup_iff.mpr (setS_nodup ks)
theorem rising_sg : ∀ (n : Nat) (ns : List Nat), risingS (sg n) (ns.map sg) = true ↔ (n :: ns).Pairwise (· ≤ ·)
  | n, [] => by simp [risingS]
  | n, m :: ns => by
    have ih := rising_sg m ns
    have e : PySem.Spec.ltCps (sg m).cps.toList (sg n).cps.toList = decide (m < n) := by
      rw [ltCps_eq]
      refine decide_eq_decide.mpr ?_
      show [m] < [n] ↔ m < n
      rw [List.cons_lt_cons_iff]
      simp
    rw [List.map_cons, risingS, e, Bool.and_eq_true, ih]
    simp only [Bool.not_eq_true', decide_eq_false_iff_not, Nat.not_lt, List.pairwise_cons, List.mem_cons]
    constructor
    · rintro ⟨h1, h2, h3⟩
      refine ⟨fun a ha => ?_, h2, h3⟩
      rcases ha with rfl | ha
      · exact h1
      · exact Nat.le_trans h1 (h2 a ha)
    · rintro ⟨h1, h2, h3⟩
      exact ⟨h1 m (.inl rfl), h2, h3⟩
theorem sorted_sg : ∀ ns : List Nat, sortedS (ns.map sg) = true ↔ ns.Pairwise (· ≤ ·)
  | [] => by simp [sortedS]
  | n :: ns => by rw [List.map_cons, sortedS]; exact rising_sg n ns
theorem all_sg : ∀ (ys : List PySem.Str), (∀ y ∈ ys, ∃ n, y = sg n) → ∃ ns : List Nat, ys = ns.map sg
  | [], _ => ⟨[], rfl⟩
  | y :: ys, h => by
    obtain ⟨n, rfl⟩ := h y (by simp)
    obtain ⟨ns, rfl⟩ := all_sg ys fun y hy => h y (by simp [hy])
    exact ⟨n :: ns, rfl⟩
/-- strictly rising -/
def ascB (ns : List Nat) : Bool := decide (ns.Pairwise (· < ·))
theorem map_sg_inj : ∀ {a b : List Nat}, a.map sg = b.map sg → a = b
  | [], [], _ => rfl
  | [], _ :: _, h => by simp at h
  | _ :: _, [], h => by simp at h
  | x :: a, y :: b, h => by
    simp only [List.map_cons, List.cons.injEq] at h
    rw [sg_inj h.1, map_sg_inj h.2]
theorem nodup_sg {ns : List Nat} (h : ns.Nodup) : (ns.map sg).Nodup := by
  rw [List.Nodup, List.pairwise_map]
  exact h.imp fun hne z => hne (sg_inj z)
theorem asc_nodup {ns : List Nat} (h : ns.Pairwise (· < ·)) : ns.Nodup := h.imp fun z => Nat.ne_of_lt z
/-- sorted(set(x)) is x just where x rises -/
theorem asc_iff {ns : List Nat} {ys : List PySem.Str} (hp : ys.Perm (setS (ns.map sg))) (hs : sortedS ys = true) : ns.map sg = ys ↔ ns.Pairwise (· < ·) := by
  obtain ⟨ms, rfl⟩ := all_sg ys fun y hy => by
    have := (setS_mem _ _).mp (hp.mem_iff.mp hy)
    obtain ⟨n, _, rfl⟩ := List.mem_map.mp this
    exact ⟨n, rfl⟩
  have hms := (sorted_sg ms).mp hs
  constructor
  · intro e
    have e := map_sg_inj e
    subst e
    have nd : (ns.map sg).Nodup := hp.nodup_iff.mpr (setS_nodup _)
    have nd' : ns.Nodup := by
      rw [List.Nodup, List.pairwise_map] at nd
      exact nd.imp fun h z => h (by rw [z])
    have := hms.and nd'
    exact this.imp fun ⟨a, b⟩ => Nat.lt_of_le_of_ne a b
  · intro h
    have p1 : (ms.map sg).Perm (ns.map sg) := hp.trans (setS_perm (nodup_sg (asc_nodup h)))
    have p2 : ms.Perm ns := by
      have q := p1.map (fun s : PySem.Str => s.cps.toList.headD 0)
      simpa [List.map_map, Function.comp_def, sg] using q
    rw [List.Perm.eq_of_pairwise (le := (· ≤ ·)) (fun a b _ _ h1 h2 => Nat.le_antisymm h1 h2) hms (h.imp fun z => Nat.le_of_lt z) p2]

theorem let_len {ns : List Nat} (h : ns.all isLet = true) : (setS (ns.map sg)).length ≤ 26 := by
  have := length_le_of_nodup_of_subset (setS (ns.map sg)) ((List.range' 97 26).map sg) (setS_nodup _) fun a ha => by
    obtain ⟨n, hn, rfl⟩ := List.mem_map.mp ((setS_mem _ _).mp ha)
    have := List.all_eq_true.mp h n hn
    unfold isLet at this
    simp only [Bool.and_eq_true, decide_eq_true_eq] at this
    exact List.mem_map.mpr ⟨n, List.mem_range'.mpr ⟨n - 97, by omega, by omega⟩, rfl⟩
  simpa using this
end Mv

namespace Mv
open PySem L2 PyProof.Rows
def mb_is_mark : Env → Wp Fl := fun ρ =>
    (Wp.fl (wIf (wOr (wNot (Wp.bind (Wp.bind (Wp.bind (gR ρ 0) fun x => Wp.bind (Wp.bind (Wp.ret (Dt.ty "str")) fun x => Wp.bind (Wp.ret []) fun xs => .ret (x :: xs)) fun xs => .ret (x :: xs)) pyIsi) asB)) (wNot (Wp.bind (Wp.bind (Wp.bind (Wp.bind (Wp.bind (Wp.bind (gF ρ 0) itA) fun xs => Wp.bind (Wp.calm (compL (fun ρ => (Wp.ret true)) (fun ρ => (Wp.bind (gR ρ 1) fun x => Wp.bind (Wp.ret (Dt.str "abcdefghijklmnopqrstuvwxyz")) fun y => pyIn x y)) (aN 1) (wipeE ρ [1]) xs [])) fun ys => .ret (Nw.l ys)) fun n => .ret n.dt) fun x => Wp.bind (Wp.ret []) fun xs => .ret (x :: xs)) pyAllB) asB))) ((Wp.bind (Wp.ret (Dt.bl false)) fun d => .ret (Fl.rt d))) ((Wp.ret (Fl.nx ρ)))) fun ρ =>
    (Wp.bind (Wp.bind (Wp.bind (Wp.bind (Wp.bind (gR ρ 0) fun x => Wp.bind (Wp.ret []) fun xs => .ret (x :: xs)) pyListX) fun n => .ret n.dt) fun x => Wp.bind (Wp.bind (Wp.bind (Wp.bind (Wp.bind (Wp.bind (gR ρ 0) fun x => Wp.bind (Wp.ret []) fun xs => .ret (x :: xs)) pySet) fun x => Wp.bind (Wp.ret []) fun xs => .ret (x :: xs)) pySort) fun n => .ret n.dt) fun y => pyEq x y) fun d => .ret (Fl.rt d)))
def markB (x : PySem.Str) : Bool := letB x && ascB x.cps.toList
def c_is_mark : List Dt → Wp Dt
  | [.str x] => .gd (x.cps.size ≤ 4000) (.ret (.bl (markB x)))
  | [.int _] => .ret (.bl false)
  | [.non] => .ret (.bl false)
  | [.tup _] => .ret (.bl false)
  | [.lst _] => .ret (.bl false)
  | [.bl _] => .ret (.bl false)
  | [.dct _] => .ret (.bl false)
  | _ => .bad
theorem pl_strs {ys : List PySem.Str} (h : ∀ y ∈ ys, PyData.strOk y = true) : Pl (.lst (ys.map Dt.str)) :=
  (Pl.lst (n := 0) (by decide) fun d hd => by obtain ⟨y, hy, rfl⟩ := List.mem_map.mp hd; exact pl0_str (h y hy)).1
theorem sg_ok {n : Nat} (h : isLet n = true) : PyData.strOk (sg n) = true := by
  unfold isLet at h
  simp only [Bool.and_eq_true, decide_eq_true_eq] at h
  simp [PyData.strOk, sg]
  omega
theorem le_is_mark (ds : List Dt) (Q : Dt → Prop) (E : Xn → Prop) (h : c_is_mark ds Q E) : fnWp 2 mb_is_mark ds Q fun _ => False := by
  unfold c_is_mark at h
  split at h
  · rename_i x
    obtain ⟨hl, h⟩ := h
    have sl : sizeLine = 16777216 := by decide
    have sb : scanBound = 4096 := rfl
    have hl2 : x.cps.size ≤ sizeLine := by omega
    have hl3 : x.cps.size + 1 < scanBound := by omega
    have hc := all_let (ρ := [Sl.fz (.str x), .no]) (i := 1) x hl2 (by simp)
    have ec : (x.cps.toList.map fun c => (⟨#[c]⟩ : PySem.Str)) = x.cps.toList.map sg := rfl
    cases hL : letB x with
    | false =>
      have e : markB x = false := by simp [markB, hL]
      rw [e] at h
      have hL' : (x.cps.toList.all isLet) = false := hL
      simp only [fnWp_def, mb_is_mark, List.map, List.replicate, List.length_cons, List.length_nil, Nat.reduceSub, Nat.reduceAdd, List.cons_append, List.nil_append, gR_0, gF_0, b_ret, b_bind, b_gd, pyIsi, ty7, isi_ss, ofO_s, wNot_r, wOr_f, b_asB, Bool.not_true, Bool.not_false, itA, wipeE, List.set, hc, b_calm, Nw.dt, pyAllB, blsOf_f, List.all_map, Function.comp_def, id, hL', wIf_t, fl_rt, finW_rt, ret_q]
      exact h
    | true =>
      have hL' : (x.cps.toList.all isLet) = true := hL
      simp only [fnWp_def, mb_is_mark, List.map, List.replicate, List.length_cons, List.length_nil, Nat.reduceSub, Nat.reduceAdd, List.cons_append, List.nil_append, gR_0, gF_0, b_ret, b_bind, b_gd, pyIsi, ty7, isi_ss, ofO_s, wNot_r, wOr_f, b_asB, Bool.not_true, Bool.not_false, itA, wipeE, List.set, hc, b_calm, Nw.dt, pyAllB, blsOf_f, List.all_map, Function.comp_def, id, hL', wIf_f, fl_nx, finW_rt, ret_q, pyListX, gd_t _ hl2, pySet, gd_t _ hl3, ec]
      refine ⟨⟨setS_nodup _, by have := let_len hL'; omega⟩, fun ys hp hs => ?_⟩
      have oks : ∀ n ∈ x.cps.toList, PyData.strOk (sg n) = true := fun n hn => sg_ok (List.all_eq_true.mp hL' n hn)
      have p1 : Pl (.lst ((x.cps.toList.map sg).map Dt.str)) := pl_strs fun y hy => by obtain ⟨n, hn, rfl⟩ := List.mem_map.mp hy; exact oks n hn
      have p2 : Pl (.lst (ys.map Dt.str)) := pl_strs fun y hy => by
        obtain ⟨n, hn, rfl⟩ := List.mem_map.mp ((setS_mem _ _).mp (hp.mem_iff.mp hy))
        exact oks n hn
      have e1 : (x.cps.toList.map fun c => Dt.str ⟨#[c]⟩) = (x.cps.toList.map sg).map Dt.str := by rw [List.map_map]; rfl
      have eb : eqD (.lst ((x.cps.toList.map sg).map Dt.str)) (.lst (ys.map Dt.str)) = markB x := by
        rw [Bool.eq_iff_iff, eqD_iff p1 p2]
        have := asc_iff hp hs
        simp only [markB, hL, Bool.true_and, ascB, decide_eq_true_eq, ← this, Dt.lst.injEq]
        constructor
        · intro e
          have := congrArg (List.map fun d => match d with | .str s => s | _ => default) e
          simpa [List.map_map, Function.comp_def] using this
        · intro e; rw [e]
      show (pyEq (.lst (x.cps.toList.map fun c => Dt.str ⟨#[c]⟩)) (.lst (ys.map Dt.str))).bind _ Q _
      rw [e1, pyEq_pl p1 p2, eb]
      exact h
  all_goals first
    | exact h.elim
    | (simpa [fnWp_def, mb_is_mark, gR_0, gR_s, b_ret, b_bind, pyIsi, ty7, isi_is, isi_ns, isi_ts, isi_ls, isi_bs, isi_ds, ofO_s, wNot_r, wOr_t, wIf_t, fl_rt, b_asB, finW_rt, ret_q, List.replicate] using h)
end Mv

namespace Mv
open PySem L2 PyProof.Rows
def nameD : Dt → Option Bool
  | .str x => if x.cps.size ≤ sizeLine then some (nameB x) else none
  | .int _ => some false
  | .non => some false
  | .tup _ => some false
  | .lst _ => some false
  | .bl _ => some false
  | .dct _ => some false
  | _ => none
theorem c_is_name_eq {d : Dt} {b : Bool} (h : nameD d = some b) : c_is_name [d] = .ret (.bl b) := by
  cases d with
  | str x =>
    simp only [nameD] at h
    split at h
    · rename_i hl; cases h; show Wp.gd _ _ = _; rw [gd_t _ hl]
    · cases h
  | _ => first | (cases h; rfl) | cases h
def intD : Dt → Option Bool
  | .int i => some (decide (1 ≤ i) && decide (i ≤ 99))
  | .str _ => some false
  | .non => some false
  | .tup _ => some false
  | .lst _ => some false
  | .bl _ => some false
  | .dct _ => some false
  | _ => none
theorem c_is_integer_eq {d : Dt} {b : Bool} (h : intD d = some b) : c_is_integer [d, .int 1, .int 99] = .ret (.bl b) := by
  cases d <;> first | (cases h; rfl) | cases h
def markD : Dt → Option Bool
  | .str x => if x.cps.size ≤ 4000 then some (markB x) else none
  | .int _ => some false
  | .non => some false
  | .tup _ => some false
  | .lst _ => some false
  | .bl _ => some false
  | .dct _ => some false
  | _ => none
theorem c_is_mark_eq {d : Dt} {b : Bool} (h : markD d = some b) : c_is_mark [d] = .ret (.bl b) := by
  cases d with
  | str x =>
    simp only [markD] at h
    split at h
    · rename_i hl; cases h; show Wp.gd _ _ = _; rw [gd_t _ hl]
    · cases h
  | _ => first | (cases h; rfl) | cases h
/-- the texts among them -/
def strsD : List Dt → List PySem.Str
  | [] => []
  | .str x :: r => x :: strsD r
  | _ :: r => strsD r
def basesB (xs : List Dt) : Bool := decide (xs.length ≤ 6) && xs.all (fun x => nameD x == some true) && decide (strsD xs).Nodup
def basesD : Dt → Option Bool
  | .tup xs => if xs.length ≤ 6 → ∀ x ∈ xs, (nameD x).isSome = true then some (basesB xs) else none
  | .int _ => some false
  | .non => some false
  | .str _ => some false
  | .lst _ => some false
  | .bl _ => some false
  | .dct _ => some false
  | _ => none
def c_are_bases : List Dt → Wp Dt
  | [d] => (ofO (basesD d)).bind fun b => .ret (.bl b)
  | _ => .bad
theorem c_are_bases_eq {d : Dt} {b : Bool} (h : basesD d = some b) : c_are_bases [d] = .ret (.bl b) := by show (ofO (basesD d)).bind _ = _; rw [h]; rfl
theorem all_names {ρ : Env} {i : Nat} (xs : List Dt) (hl : xs.length ≤ sizeLine) (hi : i < ρ.length) (h : ∀ x ∈ xs, (nameD x).isSome = true) :
    compL (fun ρ => Wp.ret true) (fun ρ => Wp.bind (gF ρ i) fun x => c_is_name [x]) (aN i) ρ xs [] = .ret (xs.map fun x => Dt.bl (nameD x == some true)) := by
  have h := compL_map (t := fun ρ => Wp.ret true) (e := fun ρ => Wp.bind (gF ρ i) fun x => c_is_name [x]) (g := aN i) (ρ := ρ) (fun x => Dt.bl (nameD x == some true)) xs [] (fun d hd => ?_) (by simpa using hl)
  · simpa using h
  · refine ⟨ρ.set i (.fz d), rfl, rfl, ?_⟩
    rw [gF_def _ i (List.getElem?_set_self hi), b_ret]
    obtain ⟨b, hb⟩ := Option.isSome_iff_exists.mp (h d hd)
    rw [c_is_name_eq hb, hb]
    cases b <;> rfl
theorem strsOf_names : ∀ xs : List Dt, xs.all (fun x => nameD x == some true) = true → strsOf xs = some (strsD xs) ∧ (strsD xs).length = xs.length
  | [], _ => ⟨rfl, rfl⟩
  | x :: xs, h => by
    simp only [List.all_cons, Bool.and_eq_true] at h
    obtain ⟨h1, h2⟩ := strsOf_names xs h.2
    cases x with
    | str s => exact ⟨by simp [strsOf, strsD, h1], by simp [strsD, h2]⟩
    | _ => simp [nameD] at h
def mb_are_bases : Env → Wp Fl := fun ρ =>
    (Wp.fl (wIf (wOr (wNot (Wp.bind (Wp.bind (Wp.bind (gR ρ 0) fun x => Wp.bind (Wp.bind (Wp.ret (Dt.ty "tuple")) fun x => Wp.bind (Wp.ret []) fun xs => .ret (x :: xs)) fun xs => .ret (x :: xs)) pyIsi) asB)) (wOr (Wp.bind (Wp.bind (Wp.bind (Wp.bind (gR ρ 0) fun x => Wp.bind (Wp.ret []) fun xs => .ret (x :: xs)) pyLenT) fun x => Wp.bind (Wp.ret (Dt.int 6)) fun y => pyGt x y) asB) (wNot (Wp.bind (Wp.bind (Wp.bind (Wp.bind (Wp.bind (Wp.bind (gF ρ 0) itA) fun xs => Wp.bind (Wp.calm (compL (fun ρ => (Wp.ret true)) (fun ρ => (Wp.bind (Wp.bind (gF ρ 1) fun x => Wp.bind (Wp.ret []) fun xs => .ret (x :: xs)) c_is_name)) (aN 1) (wipeE ρ [1]) xs [])) fun ys => .ret (Nw.l ys)) fun n => .ret n.dt) fun x => Wp.bind (Wp.ret []) fun xs => .ret (x :: xs)) pyAllB) asB)))) ((Wp.bind (Wp.ret (Dt.bl false)) fun d => .ret (Fl.rt d))) ((Wp.ret (Fl.nx ρ)))) fun ρ =>
    (Wp.bind (Wp.bind (Wp.bind (Wp.bind (Wp.bind (Wp.bind (gR ρ 0) fun x => Wp.bind (Wp.ret []) fun xs => .ret (x :: xs)) pySet) fun x => Wp.bind (Wp.ret []) fun xs => .ret (x :: xs)) pyLenT) fun x => Wp.bind (Wp.bind (Wp.bind (gR ρ 0) fun x => Wp.bind (Wp.ret []) fun xs => .ret (x :: xs)) pyLenT) fun y => pyEq x y) fun d => .ret (Fl.rt d)))
theorem le_are_bases (ds : List Dt) (Q : Dt → Prop) (E : Xn → Prop) (h : c_are_bases ds Q E) : fnWp 2 mb_are_bases ds Q fun _ => False := by
  unfold c_are_bases at h
  split at h
  rotate_left
  · exact h.elim
  rename_i d
  cases hd : basesD d with
  | none => rw [hd] at h; exact h.elim
  | some b =>
    rw [hd] at h
    have h : Q (.bl b) := h
    cases d with
    | tup xs =>
      simp only [basesD] at hd
      split at hd
      rotate_left
      · cases hd
      rename_i hn
      cases hd
      have sl : sizeLine = 16777216 := by decide
      by_cases h6 : xs.length ≤ 6
      · have h6' : decide ((6 : Int) < (xs.length : Int)) = false := decide_eq_false (by omega)
        have hc := all_names (ρ := [Sl.fz (.tup xs), .no]) (i := 1) xs (by omega) (by simp) (hn h6)
        cases ha : xs.all (fun x => nameD x == some true) with
        | false =>
          have e : basesB xs = false := by simp [basesB, ha]
          rw [e] at h
          simp only [fnWp_def, mb_are_bases, List.map, List.replicate, List.length_cons, List.length_nil, Nat.reduceSub, Nat.reduceAdd, List.cons_append, List.nil_append, gR_0, gF_0, b_ret, b_bind, b_gd, pyIsi, ty7, isi_tt, ofO_s, wNot_r, wOr_f, b_asB, Bool.not_true, Bool.not_false, pyLenT, pyLen, pyGt, h6', itA, wipeE, List.set, hc, b_calm, Nw.dt, pyAllB, blsOf_f, List.all_map, Function.comp_def, id, ha, wIf_t, fl_rt, finW_rt, ret_q]
          exact h
        | true =>
          obtain ⟨s1, s2⟩ := strsOf_names xs ha
          have sb : scanBound = 4096 := rfl
          have l1 : (strsD xs).length + 1 < scanBound := by omega
          have l2 := setS_len (strsD xs) []
          have l3 : (setS (strsD xs)).length < scanBound := by
            unfold setS
            simp only [List.length_nil] at l2
            omega
          simp only [fnWp_def, mb_are_bases, List.map, List.replicate, List.length_cons, List.length_nil, Nat.reduceSub, Nat.reduceAdd, List.cons_append, List.nil_append, gR_0, gF_0, b_ret, b_bind, b_gd, pyIsi, ty7, isi_tt, ofO_s, wNot_r, wOr_f, b_asB, Bool.not_true, Bool.not_false, pyLenT, pyLen, pyGt, h6', itA, wipeE, List.set, hc, b_calm, Nw.dt, pyAllB, blsOf_f, List.all_map, Function.comp_def, id, ha, wIf_f, fl_nx, finW_rt, ret_q, pySet, s1, gd_t _ l1, gd_t _ l3, pyEq, dEq]
          have e : decide (((setS (strsD xs)).length : Int) = (xs.length : Int)) = basesB xs := by
            simp only [basesB, h6, ha, Bool.and_true, Bool.true_and, decide_true]
            refine decide_eq_decide.mpr ⟨fun z => setS_dup (by omega), fun z => ?_⟩
            have := setS_len_eq z
            omega
          rw [e]
          exact h
      · have h6' : decide ((6 : Int) < (xs.length : Int)) = true := decide_eq_true (by omega)
        have e : basesB xs = false := by simp [basesB, h6]
        rw [e] at h
        simp only [fnWp_def, mb_are_bases, List.map, List.replicate, List.length_cons, List.length_nil, Nat.reduceSub, Nat.reduceAdd, List.cons_append, List.nil_append, gR_0, gF_0, b_ret, b_bind, b_gd, pyIsi, ty7, isi_tt, ofO_s, wNot_r, wOr_f, wOr_t, b_asB, Bool.not_true, Bool.not_false, pyLenT, pyLen, pyGt, h6', wIf_t, fl_rt, finW_rt, ret_q]
        exact h
    | _ => first
      | (cases hd; done)
      | (cases hd; simpa [fnWp_def, mb_are_bases, gR_0, gR_s, b_ret, b_bind, pyIsi, ty7, isi_it, isi_nt, isi_st, isi_lt, isi_bt, isi_dt, ofO_s, wNot_r, wOr_t, wIf_t, fl_rt, b_asB, finW_rt, ret_q, List.replicate] using h)
end Mv

namespace Mv
open PySem L2 PyProof.Rows
def len1D : Dt → Option Bool
  | .str x => if x.cps.size ≤ sizeLine then some (decide (x.cps.size = 1)) else none
  | _ => none
/-- one behind another, as long as all is true -/
def thenD (a b : Option Bool) : Option Bool := a.bind fun k => if k = true then b else some false
def kindD : Dt → Option Bool
  | .tup [n, e, b, l, m] => thenD (nameD n) (thenD (intD e) (thenD (basesD b) (thenD (markD l) (thenD (len1D l) (markD m)))))
  | .tup _ => some false
  | .int _ => some false
  | .non => some false
  | .str _ => some false
  | .lst _ => some false
  | .bl _ => some false
  | .dct _ => some false
  | _ => none
def c_is_kind : List Dt → Wp Dt
  | [d] => (ofO (kindD d)).bind fun b => .ret (.bl b)
  | _ => .bad
theorem c_is_kind_eq {d : Dt} {b : Bool} (h : kindD d = some b) : c_is_kind [d] = .ret (.bl b) := by show (ofO (kindD d)).bind _ = _; rw [h]; rfl
def mb_is_kind : Env → Wp Fl := fun ρ =>
    (Wp.fl (wIf (wOr (wNot (Wp.bind (Wp.bind (Wp.bind (gR ρ 0) fun x => Wp.bind (Wp.bind (Wp.ret (Dt.ty "tuple")) fun x => Wp.bind (Wp.ret []) fun xs => .ret (x :: xs)) fun xs => .ret (x :: xs)) pyIsi) asB)) (Wp.bind (Wp.bind (Wp.bind (Wp.bind (gR ρ 0) fun x => Wp.bind (Wp.ret []) fun xs => .ret (x :: xs)) pyLenT) fun x => Wp.bind (Wp.ret (Dt.int 5)) fun y => pyNe x y) asB)) ((Wp.bind (Wp.ret (Dt.bl false)) fun d => .ret (Fl.rt d))) ((Wp.ret (Fl.nx ρ)))) fun ρ =>
    (Wp.fl (Wp.bind (gF ρ 0) fun d => Wp.bind ((aTup (aCons (aN 1) (aCons (aN 2) (aCons (aN 3) (aCons (aN 4) (aCons (aN 5) aNil)))))) d ρ) fun ρ' => .ret (Fl.nx ρ')) fun ρ =>
    (Wp.fl (wIf (wOr (wNot (Wp.bind (Wp.bind (Wp.bind (gF ρ 1) fun x => Wp.bind (Wp.ret []) fun xs => .ret (x :: xs)) c_is_name) asB)) (wOr (wNot (Wp.bind (Wp.bind (Wp.bind (gF ρ 2) fun x => Wp.bind (Wp.bind (Wp.ret (Dt.int 1)) fun x => Wp.bind (Wp.bind (Wp.ret (Dt.int 99)) fun x => Wp.bind (Wp.ret []) fun xs => .ret (x :: xs)) fun xs => .ret (x :: xs)) fun xs => .ret (x :: xs)) c_is_integer) asB)) (wNot (Wp.bind (Wp.bind (Wp.bind (gF ρ 3) fun x => Wp.bind (Wp.ret []) fun xs => .ret (x :: xs)) c_are_bases) asB)))) ((Wp.bind (Wp.ret (Dt.bl false)) fun d => .ret (Fl.rt d))) ((Wp.ret (Fl.nx ρ)))) fun ρ =>
    (Wp.bind (vAnd (Wp.bind (Wp.bind (gF ρ 4) fun x => Wp.bind (Wp.ret []) fun xs => .ret (x :: xs)) c_is_mark) (vAnd (Wp.bind (Wp.bind (Wp.bind (gR ρ 4) fun x => Wp.bind (Wp.ret []) fun xs => .ret (x :: xs)) pyLenT) fun x => Wp.bind (Wp.ret (Dt.int 1)) fun y => pyEq x y) (Wp.bind (Wp.bind (gF ρ 5) fun x => Wp.bind (Wp.ret []) fun xs => .ret (x :: xs)) c_is_mark))) fun d => .ret (Fl.rt d)))))
theorem then_t {a b : Option Bool} {r : Bool} (h : thenD a b = some r) : (a = some true ∧ b = some r) ∨ (a = some false ∧ r = false) := by
  cases a with
  | none => cases h
  | some k =>
    cases k with
    | true => exact .inl ⟨rfl, by simpa [thenD] using h⟩
    | false => exact .inr ⟨rfl, by simpa [thenD, eq_comm] using h⟩
theorem le_is_kind (ds : List Dt) (Q : Dt → Prop) (E : Xn → Prop) (h : c_is_kind ds Q E) : fnWp 6 mb_is_kind ds Q fun _ => False := by
  unfold c_is_kind at h
  split at h
  rotate_left
  · exact h.elim
  rename_i d
  cases hd : kindD d with
  | none => rw [hd] at h; exact h.elim
  | some b =>
    rw [hd] at h
    have h : Q (.bl b) := h
    cases d with
    | tup xs =>
      by_cases h5 : xs.length = 5
      · obtain ⟨n, e, bs, l, m, rfl⟩ : ∃ n e bs l m, xs = [n, e, bs, l, m] := by
          match xs, h5 with
          | [n, e, bs, l, m], _ => exact ⟨n, e, bs, l, m, rfl⟩
        have hd : thenD (nameD n) (thenD (intD e) (thenD (basesD bs) (thenD (markD l) (thenD (len1D l) (markD m))))) = some b := hd
        have e5 : decide (((5 : Nat) : Int) = 5) = true := by decide
        rcases then_t hd with ⟨k1, hd⟩ | ⟨k1, rfl⟩
        rotate_left
        · simp only [fnWp_def, mb_is_kind, List.map, List.replicate, List.length_cons, List.length_nil, Nat.reduceSub, Nat.reduceAdd, List.cons_append, List.nil_append, gR_0, gF_0, gR_s, gF_s, b_ret, b_bind, b_gd, pyIsi, ty7, isi_tt, ofO_s, wNot_r, wOr_f, wOr_t, b_asB, Bool.not_true, Bool.not_false, pyLenT, pyLen, pyNe, pyEq, dEq, e5, wIf_f, wIf_t, fl_nx, fl_rt, fl_bind, aTup, aCons, aN, aNil, List.set, vAnd_t, vAnd_f, finW_rt, ret_q, c_is_name_eq k1]; exact h
        rcases then_t hd with ⟨k2, hd⟩ | ⟨k2, rfl⟩
        rotate_left
        · simp only [fnWp_def, mb_is_kind, List.map, List.replicate, List.length_cons, List.length_nil, Nat.reduceSub, Nat.reduceAdd, List.cons_append, List.nil_append, gR_0, gF_0, gR_s, gF_s, b_ret, b_bind, b_gd, pyIsi, ty7, isi_tt, ofO_s, wNot_r, wOr_f, wOr_t, b_asB, Bool.not_true, Bool.not_false, pyLenT, pyLen, pyNe, pyEq, dEq, e5, wIf_f, wIf_t, fl_nx, fl_rt, fl_bind, aTup, aCons, aN, aNil, List.set, vAnd_t, vAnd_f, finW_rt, ret_q, c_is_name_eq k1, c_is_integer_eq k2]; exact h
        rcases then_t hd with ⟨k3, hd⟩ | ⟨k3, rfl⟩
        rotate_left
        · simp only [fnWp_def, mb_is_kind, List.map, List.replicate, List.length_cons, List.length_nil, Nat.reduceSub, Nat.reduceAdd, List.cons_append, List.nil_append, gR_0, gF_0, gR_s, gF_s, b_ret, b_bind, b_gd, pyIsi, ty7, isi_tt, ofO_s, wNot_r, wOr_f, wOr_t, b_asB, Bool.not_true, Bool.not_false, pyLenT, pyLen, pyNe, pyEq, dEq, e5, wIf_f, wIf_t, fl_nx, fl_rt, fl_bind, aTup, aCons, aN, aNil, List.set, vAnd_t, vAnd_f, finW_rt, ret_q, c_is_name_eq k1, c_is_integer_eq k2, c_are_bases_eq k3]; exact h
        rcases then_t hd with ⟨k4, hd⟩ | ⟨k4, rfl⟩
        rotate_left
        · simp only [fnWp_def, mb_is_kind, List.map, List.replicate, List.length_cons, List.length_nil, Nat.reduceSub, Nat.reduceAdd, List.cons_append, List.nil_append, gR_0, gF_0, gR_s, gF_s, b_ret, b_bind, b_gd, pyIsi, ty7, isi_tt, ofO_s, wNot_r, wOr_f, wOr_t, b_asB, Bool.not_true, Bool.not_false, pyLenT, pyLen, pyNe, pyEq, dEq, e5, wIf_f, wIf_t, fl_nx, fl_rt, fl_bind, aTup, aCons, aN, aNil, List.set, vAnd_t, vAnd_f, finW_rt, ret_q, c_is_name_eq k1, c_is_integer_eq k2, c_are_bases_eq k3, c_is_mark_eq k4]; exact h
        cases l with
        | str x =>
          simp only [len1D] at hd
          by_cases hl : x.cps.size ≤ sizeLine
          rotate_left
          · rw [if_neg hl] at hd; cases hd
          rw [if_pos hl] at hd
          have hl' : x.length ≤ sizeLine := hl
          have e1 : decide ((x.length : Int) = 1) = decide (x.cps.size = 1) := decide_eq_decide.mpr (by show (x.cps.size : Int) = 1 ↔ _; omega)
          rcases then_t hd with ⟨k5, hd⟩ | ⟨k5, rfl⟩
          rotate_left
          · rw [Option.some.inj k5] at e1
            simp only [fnWp_def, mb_is_kind, List.map, List.replicate, List.length_cons, List.length_nil, Nat.reduceSub, Nat.reduceAdd, List.cons_append, List.nil_append, gR_0, gF_0, gR_s, gF_s, b_ret, b_bind, b_gd, pyIsi, ty7, isi_tt, ofO_s, wNot_r, wOr_f, wOr_t, b_asB, Bool.not_true, Bool.not_false, pyLenT, pyLen, pyNe, pyEq, dEq, e5, wIf_f, wIf_t, fl_nx, fl_rt, fl_bind, aTup, aCons, aN, aNil, List.set, vAnd_t, vAnd_f, finW_rt, ret_q, c_is_name_eq k1, c_is_integer_eq k2, c_are_bases_eq k3, c_is_mark_eq k4, gd_t _ hl', e1]; exact h
          · rw [Option.some.inj k5] at e1
            simp only [fnWp_def, mb_is_kind, List.map, List.replicate, List.length_cons, List.length_nil, Nat.reduceSub, Nat.reduceAdd, List.cons_append, List.nil_append, gR_0, gF_0, gR_s, gF_s, b_ret, b_bind, b_gd, pyIsi, ty7, isi_tt, ofO_s, wNot_r, wOr_f, wOr_t, b_asB, Bool.not_true, Bool.not_false, pyLenT, pyLen, pyNe, pyEq, dEq, e5, wIf_f, wIf_t, fl_nx, fl_rt, fl_bind, aTup, aCons, aN, aNil, List.set, vAnd_t, vAnd_f, finW_rt, ret_q, c_is_name_eq k1, c_is_integer_eq k2, c_are_bases_eq k3, c_is_mark_eq k4, gd_t _ hl', e1, c_is_mark_eq hd]; exact h
        | _ => simp [markD] at k4
      · have hb : b = false := by
          match xs, h5, hd with
          | [], _, hd => exact (Option.some.inj hd).symm
          | [_], _, hd => exact (Option.some.inj hd).symm
          | [_, _], _, hd => exact (Option.some.inj hd).symm
          | [_, _, _], _, hd => exact (Option.some.inj hd).symm
          | [_, _, _, _], _, hd => exact (Option.some.inj hd).symm
          | [_, _, _, _, _], h5, _ => exact absurd rfl h5
          | _ :: _ :: _ :: _ :: _ :: _ :: _, _, hd => exact (Option.some.inj hd).symm
        subst hb
        have e5 : decide ((xs.length : Int) = 5) = false := decide_eq_false (by omega)
        simp only [fnWp_def, mb_is_kind, List.map, List.replicate, List.length_cons, List.length_nil, Nat.reduceSub, Nat.reduceAdd, List.cons_append, List.nil_append, gR_0, gF_0, b_ret, b_bind, b_gd, pyIsi, ty7, isi_tt, ofO_s, wNot_r, wOr_f, b_asB, Bool.not_true, Bool.not_false, pyLenT, pyLen, pyNe, dEq, e5, wIf_t, fl_rt, finW_rt, ret_q]
        exact h
    | _ => first
      | (cases hd; done)
      | (cases hd; simpa [fnWp_def, mb_is_kind, gR_0, gR_s, b_ret, b_bind, pyIsi, ty7, isi_it, isi_nt, isi_st, isi_lt, isi_bt, isi_dt, ofO_s, wNot_r, wOr_t, wIf_t, fl_rt, b_asB, finW_rt, ret_q, List.replicate] using h)
end Mv

namespace Mv
open PySem L2 PyProof.Rows
/-- a kind -/
structure Kd where
  nm : PySem.Str
  ed : Int
  bs : List PySem.Str
  lt : PySem.Str
  mr : PySem.Str
def Kd.d (k : Kd) : Dt := .tup [.str k.nm, .int k.ed, .tup (k.bs.map Dt.str), .str k.lt, .str k.mr]
def layD (L : List Kd) : Dt := .tup (L.map Kd.d)
structure KdOk (k : Kd) : Prop where
  nm : nameB k.nm = true
  e1 : 1 ≤ k.ed
  e2 : k.ed ≤ 99
  bl : k.bs.length ≤ 6
  bn : ∀ b ∈ k.bs, nameB b = true
  bd : k.bs.Nodup
  lt : markB k.lt = true
  l1 : k.lt.cps.size = 1
  mr : markB k.mr = true
def LayAt : List PySem.Str → Int → List Kd → Prop
  | _, _, [] => True
  | seen, e, k :: r => KdOk k ∧ k.nm ∉ seen ∧ e ≤ k.ed ∧ (∀ b ∈ k.bs, b ∈ seen) ∧ LayAt (seen ++ [k.nm]) k.ed r
structure LayOk (L : List Kd) : Prop where
  l1 : 1 ≤ L.length
  l2 : L.length ≤ 24
  at_ : LayAt [] 1 L
theorem nameB_size {x : PySem.Str} (h : nameB x = true) : 1 ≤ x.cps.size ∧ x.cps.size ≤ 8 ∧ letB x = true := by
  simp only [nameB, Bool.and_eq_true, decide_eq_true_eq] at h
  exact ⟨h.1.1, h.1.2, h.2⟩
theorem markB_size {x : PySem.Str} (h : markB x = true) : x.cps.size ≤ 26 ∧ letB x = true ∧ x.cps.toList.Pairwise (· < ·) := by
  simp only [markB, Bool.and_eq_true, ascB, decide_eq_true_eq] at h
  have h1 := let_len (show x.cps.toList.all isLet = true from h.1)
  have h2 := setS_len_eq (nodup_sg (asc_nodup h.2))
  have h3 : (x.cps.toList.map sg).length = x.cps.size := by simp
  rw [h3] at h2
  exact ⟨by omega, h.1, h.2⟩
theorem nameD_ok {x : PySem.Str} (h : nameB x = true) : nameD (.str x) = some true := by
  have := nameB_size h
  have sl : sizeLine = 16777216 := by decide
  simp only [nameD]
  rw [if_pos (by omega), h]
theorem markD_ok {x : PySem.Str} (h : markB x = true) : markD (.str x) = some true := by
  have := markB_size h
  simp only [markD]
  rw [if_pos (by omega), h]
theorem strsD_map : ∀ bs : List PySem.Str, strsD (bs.map Dt.str) = bs
  | [] => rfl
  | b :: bs => by simp [strsD, strsD_map bs]
theorem kindD_ok {k : Kd} (h : KdOk k) : kindD k.d = some true := by
  have sl : sizeLine = 16777216 := by decide
  have b1 : basesD (.tup (k.bs.map Dt.str)) = some true := by
    have hn : ∀ x ∈ k.bs.map Dt.str, nameD x = some true := fun x hx => by
      obtain ⟨b, hb, rfl⟩ := List.mem_map.mp hx
      exact nameD_ok (h.bn b hb)
    simp only [basesD]
    rw [if_pos fun _ x hx => by rw [hn x hx]; rfl]
    have ha : (k.bs.map Dt.str).all (fun x => nameD x == some true) = true := List.all_eq_true.mpr fun x hx => by rw [hn x hx]; rfl
    have hl : (k.bs.map Dt.str).length ≤ 6 := by rw [List.length_map]; exact h.bl
    simp [basesB, hl, ha, strsD_map, h.bd, h.bl]
  have e1 : len1D (.str k.lt) = some true := by
    simp only [len1D]
    rw [if_pos (by have := h.l1; omega), h.l1]; rfl
  have i1 : intD (.int k.ed) = some true := by simp [intD, h.e1, h.e2]
  show thenD (nameD (.str k.nm)) (thenD (intD (.int k.ed)) (thenD (basesD (.tup (k.bs.map Dt.str))) (thenD (markD (.str k.lt)) (thenD (len1D (.str k.lt)) (markD (.str k.mr)))))) = some true
  rw [nameD_ok h.nm, i1, b1, markD_ok h.lt, e1, markD_ok h.mr]; rfl
def c_need_layout (ds : List Dt) : Wp Dt := fun Q _ => ∃ L, ds = [layD L] ∧ LayOk L ∧ Q (layD L)
def seenD (seen : List PySem.Str) : List (Key × Dt) := seen.map fun s => (Sum.inr s, Dt.bl true)
theorem look_seen (seen : List PySem.Str) (x : PySem.Str) : (lookD (seenD seen) (.inr x)).isSome = decide (x ∈ seen) := by
  unfold lookD seenD
  rw [Option.isSome_map, List.find?_map, Option.isSome_map, Bool.eq_iff_iff, List.find?_isSome, decide_eq_true_eq]
  constructor
  · rintro ⟨y, hy, e⟩
    have e : y = x := by simpa using e
    exact e ▸ hy
  · intro h; exact ⟨x, h, by simp⟩
theorem put_seen {seen : List PySem.Str} {x : PySem.Str} (h : x ∉ seen) : putD (seenD seen) (.inr x) (.bl true) = seenD (seen ++ [x]) := by
  unfold putD
  rw [if_neg]
  · simp [seenD]
  · intro z
    obtain ⟨kv, h1, h2⟩ := List.any_eq_true.mp z
    obtain ⟨y, hy, rfl⟩ := List.mem_map.mp h1
    have e : y = x := by simpa using h2
    exact h (e ▸ hy)
theorem ix5 (a b c d e : Dt) : pyIx (.tup [a, b, c, d, e]) (.int 0) = .ret a ∧ pyIx (.tup [a, b, c, d, e]) (.int 1) = .ret b ∧ pyIx (.tup [a, b, c, d, e]) (.int 2) = .ret c ∧ pyIx (.tup [a, b, c, d, e]) (.int 3) = .ret d ∧ pyIx (.tup [a, b, c, d, e]) (.int 4) = .ret e := ⟨rfl, rfl, rfl, rfl, rfl⟩

theorem pyIn_dS (x : PySem.Str) (kvs : List (Key × Dt)) : pyIn (.str x) (.dct kvs) = .ret (.bl (lookD kvs (.inr x)).isSome) := rfl
theorem keyD_S (x : PySem.Str) : keyD (.str x) = some (.inr x) := rfl
theorem pyLt_I (i j : Int) : pyLt (.int i) (.int j) = .ret (.bl (decide (i < j))) := rfl
theorem itA_tup (xs : List Dt) : itA (.tup xs) = .ret xs := rfl
theorem all_seen {ρ : Env} {i : Nat} (bs seen : List PySem.Str) (hl : bs.length ≤ sizeLine) (hi : i < ρ.length) (h1 : ρ[1]? = some (.od (seenD seen))) (ne : i ≠ 1) (hb : ∀ b ∈ bs, b ∈ seen) :
    compL (fun ρ => Wp.ret true) (fun ρ => Wp.bind (gR ρ i) fun x => Wp.bind (gR ρ 1) fun y => pyIn x y) (aN i) ρ (bs.map Dt.str) [] = .ret (bs.map fun _ => Dt.bl true) := by
  have h := compL_map (t := fun ρ => Wp.ret true) (e := fun ρ => Wp.bind (gR ρ i) fun x => Wp.bind (gR ρ 1) fun y => pyIn x y) (g := aN i) (ρ := ρ) (fun _ => Dt.bl true) (bs.map Dt.str) [] (fun d hd => ?_) (by simpa using hl)
  · simpa [Function.comp_def] using h
  · obtain ⟨b, hb', rfl⟩ := List.mem_map.mp hd
    refine ⟨ρ.set i (.fz (.str b)), rfl, rfl, ?_⟩
    rw [gR_fz _ i (List.getElem?_set_self hi), gR_od _ 1 (d := seenD seen) (by rw [List.getElem?_set_ne ne]; exact h1)]
    have := look_seen seen b
    simp only [b_ret, b_bind, pyIn, dIn, keyD, this, hb b hb', decide_true]
theorem alltrue {α : Type} (l : List α) : (l.map fun _ => true).all id = true := by simp
end Mv

namespace Mv
open PySem L2 PyProof.Rows
def uni (s t : List PySem.Str) : List PySem.Str := t.foldl (fun acc x => if x ∈ acc then acc else acc ++ [x]) s
theorem mem_uni : ∀ (t s : List PySem.Str) (x : PySem.Str), x ∈ uni s t ↔ x ∈ s ∨ x ∈ t
  | [], s, x => by simp [uni]
  | y :: t, s, x => by
    have ih := mem_uni t (if y ∈ s then s else s ++ [y]) x
    have e : uni s (y :: t) = uni (if y ∈ s then s else s ++ [y]) t := rfl
    rw [e, ih]
    split
    · rename_i h
      simp only [List.mem_cons]
      constructor
      · rintro (h' | h')
        · exact .inl h'
        · exact .inr (.inr h')
      · rintro (h' | rfl | h')
        · exact .inl h'
        · exact .inl h
        · exact .inr h'
    · simp [or_assoc]
abbrev Tab := List (PySem.Str × List PySem.Str)
def rowT (T : Tab) (b : PySem.Str) : List PySem.Str := (T.lookup b).getD []
def ownOf (T : Tab) (bs : List PySem.Str) : List PySem.Str := bs.foldl (fun acc b => uni acc (uni [] (rowT T b))) bs
def stepU (ns : List PySem.Str) (T : Tab) (k : Kd) : Tab := T ++ [(k.nm, ns.filter fun o => decide (o ∈ ownOf T k.bs))]
def unders (L : List Kd) : Tab := L.foldl (stepU (L.map Kd.nm)) []
def under (L : List Kd) (x : PySem.Str) : List PySem.Str := rowT (unders L) x
def strT (l : List PySem.Str) : Dt := .tup (l.map Dt.str)
def tabD (T : Tab) : List (Key × Dt) := T.map fun r => (Sum.inr r.1, strT r.2)
def kindsD (L : List Kd) : List (Key × Dt) := L.map fun k => (Sum.inr k.nm, k.d)
def isRoot (L : List Kd) (x : PySem.Str) : Bool := match L.find? (fun k => decide (k.nm = x)) with
  | some k => k.bs.isEmpty
  | none => false
def rootsT (L : List Kd) : Tab := (unders L).map fun r => (r.1, r.2.filter (isRoot L))
def chartD (L : List Kd) : Dt := .obj "Chart" [("plan", layD L), ("kinds", .dct (kindsD L)), ("under", .dct (tabD (unders L))), ("roots", .dct (tabD (rootsT L))), ("final", .int ((L.getLast?.map Kd.ed).getD 0))]
def c_Chart (ds : List Dt) : Wp Dt := fun Q _ => ∃ L, ds = [layD L] ∧ LayOk L ∧ Q (chartD L)
theorem LayAt.names : ∀ {L : List Kd} {seen : List PySem.Str} {e : Int}, LayAt seen e L → seen.Nodup → (seen ++ L.map Kd.nm).Nodup
  | [], seen, e, _, h => by simpa using h
  | k :: L, seen, e, h, hs => by
    have nd : (seen ++ [k.nm]).Nodup := by
      rw [List.nodup_append]
      exact ⟨hs, by simp, fun a ha b hb => by rw [List.mem_singleton] at hb; subst hb; exact fun z => h.2.1 (z ▸ ha)⟩
    have := LayAt.names h.2.2.2.2 nd
    simpa [List.append_assoc] using this
theorem LayOk.nodup {L : List Kd} (h : LayOk L) : (L.map Kd.nm).Nodup := by simpa using LayAt.names h.at_ List.nodup_nil
theorem LayAt.kinds : ∀ {L : List Kd} {seen : List PySem.Str} {e : Int}, LayAt seen e L → ∀ k ∈ L, KdOk k
  | k :: L, seen, e, h, j, hj => by
    rcases List.mem_cons.mp hj with rfl | hj
    · exact h.1
    · exact LayAt.kinds h.2.2.2.2 j hj
theorem find_nm : ∀ {L : List Kd} {k : Kd}, (L.map Kd.nm).Nodup → k ∈ L → L.find? (fun j => decide (j.nm = k.nm)) = some k
  | j :: L, k, nd, hk => by
    rw [List.map_cons, List.nodup_cons] at nd
    rw [List.find?_cons]
    rcases List.mem_cons.mp hk with rfl | hk
    · simp
    · have ne : ¬ j.nm = k.nm := fun z => nd.1 (by rw [z]; exact List.mem_map.mpr ⟨k, hk, rfl⟩)
      simp only [ne, decide_false]
      exact find_nm nd.2 hk
/-- a kind by its name -/
theorem look_kinds {L : List Kd} {k : Kd} (nd : (L.map Kd.nm).Nodup) (hk : k ∈ L) : lookD (kindsD L) (.inr k.nm) = some k.d := by
  have := find_nm nd hk
  unfold lookD kindsD
  rw [List.find?_map, Option.map_map]
  have e : ((fun kv : Key × Dt => decide (kv.1 = (Sum.inr k.nm : Key))) ∘ fun k : Kd => ((Sum.inr k.nm : Key), k.d)) = fun j => decide (j.nm = k.nm) := by
    funext j; simp
  rw [e, this]; rfl
theorem look_tab (T : Tab) (x : PySem.Str) : lookD (tabD T) (.inr x) = (T.lookup x).map strT := by
  induction T with
  | nil => rfl
  | cons r T ih =>
    obtain ⟨y, l⟩ := r
    unfold lookD tabD at ih ⊢
    rw [List.map_cons, List.find?_cons, List.lookup_cons]
    by_cases e : x = y
    · subst e; simp
    · have ne : ¬ y = x := fun z => e z.symm
      have nb : (x == y) = false := by simpa using e
      simp only [nb]
      simpa [ne] using ih
theorem put_uni (s : List PySem.Str) (x : PySem.Str) : putD (seenD s) (.inr x) (.bl true) = seenD (if x ∈ s then s else s ++ [x]) := by
  by_cases h : x ∈ s
  · rw [if_pos h]
    unfold putD
    rw [if_pos]
    · unfold seenD
      rw [List.map_map]
      refine List.map_congr_left fun y hy => ?_
      by_cases e : y = x
      · subst e; simp
      · simp [e]
    · exact List.any_eq_true.mpr ⟨(Sum.inr x, .bl true), List.mem_map.mpr ⟨x, h, rfl⟩, by simp⟩
  · rw [if_neg h]; exact put_seen h
theorem merge_seen : ∀ (t s : List PySem.Str), mergeD (seenD s) (seenD t) = seenD (uni s t)
  | [], s => rfl
  | x :: t, s => by
    have e : mergeD (seenD s) (seenD (x :: t)) = mergeD (putD (seenD s) (.inr x) (.bl true)) (seenD t) := rfl
    rw [e, put_uni, merge_seen t]; rfl
theorem seenD_len (s : List PySem.Str) : (seenD s).length = s.length := by simp [seenD]
theorem uni_nil : ∀ (t s : List PySem.Str), (s ++ t).Nodup → uni s t = s ++ t
  | [], s, _ => by simp [uni]
  | x :: t, s, h => by
    have hx : x ∉ s := fun z => by
      rw [List.nodup_append] at h
      exact h.2.2 x z x (by simp) rfl
    have e : uni s (x :: t) = uni (if x ∈ s then s else s ++ [x]) t := rfl
    rw [e, if_neg hx, uni_nil t (s ++ [x]) (by simpa [List.append_assoc] using h)]
    simp [List.append_assoc]
theorem foldl_own (T : Tab) (o : PySem.Str) : ∀ (bs acc : List PySem.Str), o ∈ bs.foldl (fun acc b => uni acc (uni [] (rowT T b))) acc ↔ o ∈ acc ∨ ∃ b ∈ bs, o ∈ rowT T b
  | [], acc => by simp
  | b :: bs, acc => by
    rw [List.foldl_cons, foldl_own T o bs, mem_uni, mem_uni]
    simp only [List.not_mem_nil, false_or, List.mem_cons, exists_eq_or_imp, or_assoc]
theorem mem_ownOf (T : Tab) (bs : List PySem.Str) (o : PySem.Str) : o ∈ ownOf T bs ↔ o ∈ bs ∨ ∃ b ∈ bs, o ∈ rowT T b := foldl_own T o bs bs
theorem putD_len (kvs : List (Key × Dt)) (k : Key) (d : Dt) : (putD kvs k d).length ≤ kvs.length + 1 := by
  unfold putD; split <;> simp
theorem dcompL_map {t : Env → Wp Bool} {ek ev : Env → Wp Dt} {g : Dt → Env → Wp Env} {ρ : Env} (key : Dt → Key) (f : Dt → Dt) : ∀ (xs : List Dt) (acc : List (Key × Dt)), (∀ x ∈ xs, ∃ ρ' kd, g x ρ = .ret ρ' ∧ t ρ' = .ret true ∧ ek ρ' = .ret kd ∧ keyD kd = some (key x) ∧ ev ρ' = .ret (f x)) → acc.length + xs.length ≤ sizeLine →
    dcompL t ek ev g ρ xs acc = .ret (xs.foldl (fun acc x => putD acc (key x) (f x)) acc)
  | [], acc, _, _ => by simp [dcompL]
  | x :: xs, acc, h, hl => by
    obtain ⟨ρ', kd, h1, h2, h3, h4, h5⟩ := h x (by simp)
    simp only [List.length_cons] at hl
    have := putD_len acc (key x) (f x)
    have ih := dcompL_map (t := t) (ek := ek) (ev := ev) (g := g) (ρ := ρ) key f xs (putD acc (key x) (f x)) (fun y hy => h y (by simp [hy])) (by omega)
    simp only [dcompL, h1, b_ret, h2, h3, h4, h5, if_true, ofO_s, List.foldl_cons]
    rw [gd_t _ (by omega), ih]
theorem fold_seen : ∀ (t s : List PySem.Str), (t.map Dt.str).foldl (fun acc x => putD acc (match x with | .str y => Sum.inr y | _ => Sum.inl 0) (Dt.bl true)) (seenD s) = seenD (uni s t)
  | [], s => rfl
  | x :: t, s => by
    rw [List.map_cons, List.foldl_cons]
    show List.foldl _ (putD (seenD s) (Sum.inr x) (Dt.bl true)) _ = _
    rw [put_uni, fold_seen t]; rfl
/-- {x: True for x in ..} -/
theorem dc_true {ρ : Env} {i : Nat} (l : List PySem.Str) (hl : l.length ≤ sizeLine) (hi : i < ρ.length) :
    dcompL (fun ρ => Wp.ret true) (fun ρ => gF ρ i) (fun ρ => Wp.ret (Dt.bl true)) (aN i) ρ (l.map Dt.str) [] = .ret (seenD (uni [] l)) := by
  have h := dcompL_map (t := fun ρ => Wp.ret true) (ek := fun ρ => gF ρ i) (ev := fun ρ => Wp.ret (Dt.bl true)) (g := aN i) (ρ := ρ) (fun x => match x with | .str y => Sum.inr y | _ => Sum.inl 0) (fun _ => Dt.bl true) (l.map Dt.str) [] (fun d hd => ?_) (by simpa using hl)
  · rw [h]
    exact congrArg _ (fold_seen l [])
  · obtain ⟨b, hb, rfl⟩ := List.mem_map.mp hd
    exact ⟨ρ.set i (.fz (.str b)), .str b, rfl, rfl, gF_def _ i (List.getElem?_set_self hi), rfl, rfl⟩
theorem fold_kinds : ∀ (L M : List Kd), ((M ++ L).map Kd.nm).Nodup → (L.map Kd.d).foldl (fun acc x => putD acc (match x with | .tup (.str y :: _) => Sum.inr y | _ => Sum.inl 0) x) (kindsD M) = kindsD (M ++ L)
  | [], M, _ => by simp
  | k :: L, M, h => by
    have hk : k.nm ∉ M.map Kd.nm := fun z => by
      rw [List.map_append, List.nodup_append] at h
      exact h.2.2 k.nm z k.nm (by simp) rfl
    have e : putD (kindsD M) (Sum.inr k.nm) k.d = kindsD (M ++ [k]) := by
      unfold putD
      rw [if_neg]
      · simp [kindsD]
      · intro z
        obtain ⟨kv, h1, h2⟩ := List.any_eq_true.mp z
        obtain ⟨j, hj, rfl⟩ := List.mem_map.mp h1
        have e : j.nm = k.nm := by simpa using h2
        exact hk (List.mem_map.mpr ⟨j, hj, e⟩)
    rw [List.map_cons, List.foldl_cons]
    show List.foldl _ (putD (kindsD M) (Sum.inr k.nm) k.d) _ = _
    rw [e, fold_kinds L (M ++ [k]) (by simpa [List.append_assoc] using h)]
    simp [List.append_assoc]
theorem dc_kinds {ρ : Env} {i : Nat} (L : List Kd) (nd : (L.map Kd.nm).Nodup) (hl : L.length ≤ sizeLine) (hi : i < ρ.length) :
    dcompL (fun ρ => Wp.ret true) (fun ρ => Wp.bind (gR ρ i) fun x => pyIx x (Dt.int 0)) (fun ρ => gF ρ i) (aN i) ρ (L.map Kd.d) [] = .ret (kindsD L) := by
  have h := dcompL_map (t := fun ρ => Wp.ret true) (ek := fun ρ => Wp.bind (gR ρ i) fun x => pyIx x (Dt.int 0)) (ev := fun ρ => gF ρ i) (g := aN i) (ρ := ρ) (fun x => match x with | .tup (.str y :: _) => Sum.inr y | _ => Sum.inl 0) (fun x => x) (L.map Kd.d) [] (fun d hd => ?_) (by simpa using hl)
  · rw [h]
    have := fold_kinds L [] (by simpa using nd)
    exact congrArg _ this
  · obtain ⟨k, hk, rfl⟩ := List.mem_map.mp hd
    refine ⟨ρ.set i (.fz k.d), .str k.nm, rfl, rfl, ?_, rfl, gF_def _ i (List.getElem?_set_self hi)⟩
    rw [gR_fz _ i (List.getElem?_set_self hi), b_ret]; rfl
end Mv

namespace Mv
open PySem L2 PyProof.Rows
def lb_Chart___init___0 : Dt → Env → Wp Fl := fun x ρ => Wp.bind ((aN 8) x ρ) fun ρ =>
    (Wp.bind (gD ρ 7) fun kvs => Wp.bind (Wp.bind (Wp.bind (Wp.bind (Wp.bind (Wp.bind (gFR ρ 0 "Chart" "under") fun x => Wp.bind (gR ρ 8) fun y => pyIx x y) itA) fun xs => Wp.bind (Wp.calm (dcompL (fun ρ => (Wp.ret true)) (fun ρ => (gF ρ 10)) (fun ρ => (Wp.ret (Dt.bl true))) (aN 10) (wipeE ρ [10]) xs [])) fun ys => .ret (Nw.d ys)) fun n => .ret n.dt) asD) fun more => .gd (kvs.length + more.length ≤ sizeLine) (.ret (Fl.nx (ρ.set 7 (.od (mergeD kvs more))))))
def lb_Chart___init___1 : Dt → Env → Wp Fl := fun x ρ => Wp.bind ((aTup (aCons (aN 2) (aCons (aN 3) (aCons (aN 4) (aCons (aN 5) (aCons (aN 6) aNil)))))) x ρ) fun ρ =>
    (Wp.fl (Wp.bind (Wp.bind (Wp.bind (Wp.bind (gF ρ 4) itA) fun xs => Wp.bind (Wp.calm (dcompL (fun ρ => (Wp.ret true)) (fun ρ => (gF ρ 8)) (fun ρ => (Wp.ret (Dt.bl true))) (aN 8) (wipeE ρ [8]) xs [])) fun ys => .ret (Nw.d ys)) fun d => .ret d.sl) fun x => .ret (Fl.nx (ρ.set 7 x))) fun ρ =>
    (Wp.fl (Wp.bind (Wp.bind (gF ρ 4) itA) fun xs => forL lb_Chart___init___0 xs ρ) fun ρ =>
    (Wp.fl (Wp.bind (Wp.bind (Wp.bind (Wp.bind (Wp.bind (Wp.bind (gFF ρ 0 "Chart" "kinds") itA) fun xs => Wp.bind (Wp.calm (compL (fun ρ => (Wp.bind (Wp.bind (gR ρ 10) fun x => Wp.bind (gR ρ 7) fun y => pyIn x y) asB)) (fun ρ => (gF ρ 10)) (aN 10) (wipeE ρ [10]) xs [])) fun ys => .ret (Nw.l ys)) fun n => .ret n.dt) fun x => Wp.bind (Wp.ret []) fun xs => .ret (x :: xs)) pyTuple) fun d => Wp.bind (gFD ρ 0 "Chart" "under") fun kvs => Wp.bind (gF ρ 2) fun k => Wp.bind (ofO (keyD k)) fun k => .gd (kvs.length < sizeLine) (.ret (Fl.nx (fdset ρ 0 "under" (putD kvs k d))))) fun ρ =>
    (Wp.bind (Wp.bind (Wp.bind (Wp.bind (Wp.bind (Wp.bind (Wp.bind (gFR ρ 0 "Chart" "under") fun x => Wp.bind (gR ρ 2) fun y => pyIx x y) itA) fun xs => Wp.bind (Wp.calm (compL (fun ρ => (Wp.bind (Wp.bind (Wp.bind (Wp.bind (gFR ρ 0 "Chart" "kinds") fun x => Wp.bind (gR ρ 10) fun y => pyIx x y) fun x => Wp.bind (Wp.ret (Dt.int 2)) fun y => pyIx x y) fun x => Wp.bind (Wp.bind (Wp.ret []) fun xs => .ret (Dt.tup xs)) fun y => pyEq x y) asB)) (fun ρ => (gF ρ 10)) (aN 10) (wipeE ρ [10]) xs [])) fun ys => .ret (Nw.l ys)) fun n => .ret n.dt) fun x => Wp.bind (Wp.ret []) fun xs => .ret (x :: xs)) pyTuple) fun d => Wp.bind (gFD ρ 0 "Chart" "roots") fun kvs => Wp.bind (gF ρ 2) fun k => Wp.bind (ofO (keyD k)) fun k => .gd (kvs.length < sizeLine) (.ret (Fl.nx (fdset ρ 0 "roots" (putD kvs k d))))))))
def mb_Chart___init__ : Env → Wp Fl := fun ρ =>
    (Wp.fl (Wp.bind (Wp.bind (Wp.bind (Wp.bind (gF ρ 1) fun x => Wp.bind (Wp.ret []) fun xs => .ret (x :: xs)) c_need_layout) fun d => .ret (Sl.fz d)) fun x => setF ρ 0 "Chart" "plan" x) fun ρ =>
    (Wp.fl (Wp.bind (Wp.bind (Wp.bind (Wp.bind (Wp.bind (gF ρ 1) itA) fun xs => Wp.bind (Wp.calm (dcompL (fun ρ => (Wp.ret true)) (fun ρ => (Wp.bind (gR ρ 9) fun x => Wp.bind (Wp.ret (Dt.int 0)) fun y => pyIx x y)) (fun ρ => (gF ρ 9)) (aN 9) (wipeE ρ [9]) xs [])) fun ys => .ret (Nw.d ys)) fun n => .ret n.dt) fun d => .ret (Sl.fz d)) fun x => setF ρ 0 "Chart" "kinds" x) fun ρ =>
    (Wp.fl (Wp.bind (Wp.bind (Wp.ret (Nw.d [])) fun d => .ret d.sl) fun x => setF ρ 0 "Chart" "under" x) fun ρ =>
    (Wp.fl (Wp.bind (Wp.bind (Wp.ret (Nw.d [])) fun d => .ret d.sl) fun x => setF ρ 0 "Chart" "roots" x) fun ρ =>
    (Wp.fl (Wp.bind (Wp.bind (Wp.bind (Wp.bind (gR ρ 1) fun x => Wp.bind (Wp.bind (Wp.ret (Dt.int 1)) pyNeg) fun y => pyIx x y) fun x => Wp.bind (Wp.ret (Dt.int 1)) fun y => pyIx x y) fun d => .ret (Sl.fz d)) fun x => setF ρ 0 "Chart" "final" x) fun ρ =>
    (fzFA 0 "roots" (fzFA 0 "under" (Wp.bind (Wp.bind (gF ρ 1) itA) fun xs => forL lb_Chart___init___1 xs ρ))))))))
def objF (x : Addr) (L : List Kd) (T R : Tab) (e : Int) : Sl := .oo x "Chart" [("plan", .fz (layD L)), ("kinds", .fz (.dct (kindsD L))), ("under", .od (tabD T)), ("roots", .od (tabD R)), ("final", .fz (.int e))]
section
variable {x : Addr} {L : List Kd} {T R : Tab} {e : Int} {ρ : Env}
theorem o_under : gFR (objF x L T R e :: ρ) 0 "Chart" "under" = .ret (.dct (tabD T)) := by
  show Wp.gd _ _ = _
  exact gd_t _ rfl
theorem o_kinds : gFR (objF x L T R e :: ρ) 0 "Chart" "kinds" = .ret (.dct (kindsD L)) := by
  show Wp.gd _ _ = _
  exact gd_t _ rfl
theorem o_kindsF : gFF (objF x L T R e :: ρ) 0 "Chart" "kinds" = .ret (.dct (kindsD L)) := by
  show Wp.gd _ _ = _
  exact gd_t _ rfl
theorem o_underD : gFD (objF x L T R e :: ρ) 0 "Chart" "under" = .ret (tabD T) := by
  show Wp.gd _ _ = _
  exact gd_t _ rfl
theorem o_rootsD : gFD (objF x L T R e :: ρ) 0 "Chart" "roots" = .ret (tabD R) := by
  show Wp.gd _ _ = _
  exact gd_t _ rfl
theorem o_setU {kvs : List (Key × Dt)} {T' : Tab} (h : kvs = tabD T') : fdset (objF x L T R e :: ρ) 0 "under" kvs = objF x L T' R e :: ρ := by subst h; rfl
theorem o_setR {kvs : List (Key × Dt)} {R' : Tab} (h : kvs = tabD R') : fdset (objF x L T R e :: ρ) 0 "roots" kvs = objF x L T R' e :: ρ := by subst h; rfl
end
theorem uni_len : ∀ (t s : List PySem.Str), (uni s t).length ≤ s.length + t.length
  | [], s => by simp [uni]
  | y :: t, s => by
    have := uni_len t (if y ∈ s then s else s ++ [y])
    have e : uni s (y :: t) = uni (if y ∈ s then s else s ++ [y]) t := rfl
    rw [e, List.length_cons]
    by_cases h : y ∈ s
    · rw [if_pos h] at this ⊢; omega
    · rw [if_neg h] at this ⊢; simp only [List.length_append, List.length_cons, List.length_nil] at this; omega

theorem rowT_some {T : Tab} {b : PySem.Str} (h : (T.lookup b).isSome = true) : ∃ l, T.lookup b = some l ∧ rowT T b = l := by
  obtain ⟨l, hl⟩ := Option.isSome_iff_exists.mp h
  exact ⟨l, hl, by simp [rowT, hl]⟩
theorem pyIx_dS (kvs : List (Key × Dt)) (x : PySem.Str) : pyIx (.dct kvs) (.str x) = ofO (lookD kvs (.inr x)) := rfl
theorem under_loop {x : Addr} {L : List Kd} {T R : Tab} {e : Int} {a1 a2 a3 a4 a5 a6 s9 s10 : Sl} (hr : ∀ b l, T.lookup b = some l → l.length ≤ 24) : ∀ (bs s : List PySem.Str) (s8 : Sl), (∀ b ∈ bs, (T.lookup b).isSome = true) → s.length + 24 * bs.length ≤ 1000 →
    ∃ s8', forL lb_Chart___init___0 (bs.map Dt.str) [objF x L T R e, a1, a2, a3, a4, a5, a6, .od (seenD s), s8, s9, s10] = .ret (.nx [objF x L T R e, a1, a2, a3, a4, a5, a6, .od (seenD (bs.foldl (fun acc b => uni acc (uni [] (rowT T b))) s)), s8', s9, s10])
  | [], s, s8, _, _ => ⟨s8, by simp [forL]⟩
  | b :: bs, s, s8, h, hl => by
    obtain ⟨l, h1, h2⟩ := rowT_some (h b (by simp))
    have l1 := hr b l h1
    have l2 := uni_len l []
    have l3 := uni_len (uni [] l) s
    simp only [List.length_cons, List.length_nil] at hl l2
    have sl : sizeLine = 16777216 := by decide
    obtain ⟨s8', ih⟩ := under_loop (x := x) (L := L) (T := T) (R := R) (e := e) (a1 := a1) (a2 := a2) (a3 := a3) (a4 := a4) (a5 := a5) (a6 := a6) (s9 := s9) (s10 := s10) hr bs (uni s (uni [] l)) (.fz (.str b)) (fun c hc => h c (by simp [hc])) (by omega)
    refine ⟨s8', ?_⟩
    have hd := dc_true (ρ := [objF x L T R e, a1, a2, a3, a4, a5, a6, .od (seenD s), .fz (.str b), s9, .no]) (i := 10) l (by omega) (by simp)
    have lk : lookD (tabD T) (.inr b) = some (strT l) := by rw [look_tab, h1]; rfl
    have hz : (seenD s).length + (seenD (uni [] l)).length ≤ sizeLine := by rw [seenD_len, seenD_len]; omega
    rw [List.map_cons, forL]
    simp only [lb_Chart___init___0, aN, List.set, gD_0, gD_s, gR_0, gR_s, b_ret, b_bind, b_gd, o_under, pyIx_dS, lk, ofO_s, strT, itA_tup, wipeE, hd, b_calm, Nw.dt, asD, gd_t _ hz, merge_seen]
    rw [ih, List.foldl_cons, h2]
end Mv

namespace Mv
open PySem L2 PyProof.Rows
def flK (f : Env → Wp Fl) (Q : Fl → Prop) (E : Xn → Prop) : Fl → Prop
  | .nx ρ => f ρ Q E
  | .rt d => Q (.rt d)
  | .bk ρ => Q (.bk ρ)
  | .ct ρ => Q (.ct ρ)
  | .rs d S => Q (.rs d S)
def lpK (k : Env → Prop) (Q : Fl → Prop) : Fl → Prop
  | .nx ρ => k ρ
  | .ct ρ => k ρ
  | .bk ρ => Q (.nx ρ)
  | .rt d => Q (.rt d)
  | .rs d S => Q (.rs d S)
theorem k_bind {α β : Type} (m : Wp α) (f : α → Wp β) (Q : β → Prop) (E : Xn → Prop) : Wp.bind m f Q E = m (fun a => f a Q E) E := rfl
theorem k_ret {α : Type} (a : α) (Q : α → Prop) (E : Xn → Prop) : Wp.ret a Q E = Q a := rfl
theorem k_bad {α : Type} (Q : α → Prop) (E : Xn → Prop) : (Wp.bad : Wp α) Q E = False := rfl
theorem k_thr {α : Type} (x : Xn) (Q : α → Prop) (E : Xn → Prop) : (Wp.thr x : Wp α) Q E = E x := rfl
theorem k_gd {α : Type} (p : Prop) (m : Wp α) (Q : α → Prop) (E : Xn → Prop) : Wp.gd p m Q E = (p ∧ m Q E) := rfl
theorem k_calm {α : Type} (m : Wp α) (Q : α → Prop) (E : Xn → Prop) : Wp.calm m Q E = m Q (fun _ => False) := rfl
theorem k_fl (m : Wp Fl) (f : Env → Wp Fl) (Q : Fl → Prop) (E : Xn → Prop) : Wp.fl m f Q E = m (flK f Q E) E := by
  show m _ E = m _ E
  congr 1
  funext x
  cases x <;> rfl
theorem k_flnx (f : Env → Wp Fl) (Q : Fl → Prop) (E : Xn → Prop) (ρ : Env) : flK f Q E (.nx ρ) = f ρ Q E := rfl
theorem k_flrt (f : Env → Wp Fl) (Q : Fl → Prop) (E : Xn → Prop) (d : Dt) : flK f Q E (.rt d) = Q (.rt d) := rfl
theorem k_lpnx (k : Env → Prop) (Q : Fl → Prop) (ρ : Env) : lpK k Q (.nx ρ) = k ρ := rfl
theorem k_lprt (k : Env → Prop) (Q : Fl → Prop) (d : Dt) : lpK k Q (.rt d) = Q (.rt d) := rfl
theorem k_wIf {α : Type} (c : Wp Bool) (a b : Wp α) (Q : α → Prop) (E : Xn → Prop) : wIf c a b Q E = c (fun k => if k = true then a Q E else b Q E) E := by
  show c _ E = c _ E
  congr 1
  funext k
  cases k <;> rfl
theorem k_and (m n : Wp Bool) (Q : Bool → Prop) (E : Xn → Prop) : wAnd m n Q E = m (fun b => if b = true then n Q E else Q false) E := by
  show m _ E = m _ E
  congr 1
  funext k
  cases k <;> rfl
theorem k_or (m n : Wp Bool) (Q : Bool → Prop) (E : Xn → Prop) : wOr m n Q E = m (fun b => if b = true then Q true else n Q E) E := by
  show m _ E = m _ E
  congr 1
  funext k
  cases k <;> rfl
theorem k_not (m : Wp Bool) (Q : Bool → Prop) (E : Xn → Prop) : wNot m Q E = m (fun b => Q (!b)) E := rfl
theorem k_asB (b : Bool) (Q : Bool → Prop) (E : Xn → Prop) : asB (.bl b) Q E = Q b := rfl
theorem k_vand (m n : Wp Dt) (Q : Dt → Prop) (E : Xn → Prop) : vAnd m n Q E = m (fun d => asB d (fun b => if b = true then n Q E else Q (.bl false)) E) E := by
  show m _ E = m _ E
  congr 1
  funext d
  show asB d _ E = asB d _ E
  congr 1
  funext k
  cases k <;> rfl
theorem k_vor (m n : Wp Dt) (Q : Dt → Prop) (E : Xn → Prop) : vOr m n Q E = m (fun d => asB d (fun b => if b = true then Q (.bl true) else n Q E) E) E := by
  show m _ E = m _ E
  congr 1
  funext d
  show asB d _ E = asB d _ E
  congr 1
  funext k
  cases k <;> rfl
theorem k_vnot (m : Wp Dt) (Q : Dt → Prop) (E : Xn → Prop) : vNot m Q E = m (fun d => asB d (fun b => Q (.bl (!b))) E) E := rfl
theorem k_chain (f f' : Dt → Dt → Wp Dt) (a b c : Wp Dt) (Q : Dt → Prop) (E : Xn → Prop) : vChain f f' a b c Q E = a (fun x => b (fun y => f x y (fun d => asB d (fun k => if k = true then c (fun z => f' y z Q E) E else Q (.bl false)) E) E) E) E := by
  show a _ E = a _ E
  congr 1
  funext x
  show b _ E = b _ E
  congr 1
  funext y
  show f x y _ E = f x y _ E
  congr 1
  funext d
  show asB d _ E = asB d _ E
  congr 1
  funext k
  cases k <;> rfl
theorem k_ofs {α : Type} (a : α) (Q : α → Prop) (E : Xn → Prop) : ofO (some a) Q E = Q a := rfl
theorem k_ofn {α : Type} (Q : α → Prop) (E : Xn → Prop) : (ofO none : Wp α) Q E = False := rfl
theorem k_asS (x : PySem.Str) (Q : PySem.Str → Prop) (E : Xn → Prop) : asS (.str x) Q E = Q x := rfl
theorem k_asI (i : Int) (Q : Option Int → Prop) (E : Xn → Prop) : asI (.int i) Q E = Q (some i) := rfl
theorem k_addI (i j : Int) (Q : Dt → Prop) (E : Xn → Prop) : pyAdd (.int i) (.int j) Q E = Q (.int (i + j)) := rfl
theorem k_addS (a b : PySem.Str) (Q : Dt → Prop) (E : Xn → Prop) : pyAdd (.str a) (.str b) Q E = (a.length + b.length ≤ sizeLine ∧ Q (.str (a ++ b))) := rfl
theorem k_addL (a b : List Dt) (Q : Dt → Prop) (E : Xn → Prop) : pyAdd (.lst a) (.lst b) Q E = (a.length + b.length ≤ sizeLine ∧ Q (.lst (a ++ b))) := rfl
theorem k_addT (a b : List Dt) (Q : Dt → Prop) (E : Xn → Prop) : pyAdd (.tup a) (.tup b) Q E = (a.length + b.length ≤ sizeLine ∧ Q (.tup (a ++ b))) := rfl
theorem k_subI (i j : Int) (Q : Dt → Prop) (E : Xn → Prop) : pySub (.int i) (.int j) Q E = Q (.int (i - j)) := rfl
theorem k_mulI (i j : Int) (Q : Dt → Prop) (E : Xn → Prop) : pyMul (.int i) (.int j) Q E = (CMul i j ∧ Q (.int (i * j))) := rfl
theorem k_mulL (a : List Dt) (k : Int) (Q : Dt → Prop) (E : Xn → Prop) : pyMul (.lst a) (.int k) Q E = ((-(2 ^ 63) ≤ k ∧ k < 2 ^ 63 ∧ a.length * k.toNat ≤ sizeLine) ∧ Q (.lst (List.replicate k.toNat a).flatten)) := rfl
theorem k_modI (i j : Int) (Q : Dt → Prop) (E : Xn → Prop) : pyMod (.int i) (.int j) Q E = (0 < j ∧ Q (.int (i % j))) := rfl
theorem k_divI (i j : Int) (Q : Dt → Prop) (E : Xn → Prop) : pyDiv (.int i) (.int j) Q E = ((0 < j ∧ j < 1073741824) ∧ Q (.int (i / j))) := rfl
theorem k_ltI (i j : Int) (Q : Dt → Prop) (E : Xn → Prop) : pyLt (.int i) (.int j) Q E = Q (.bl (decide (i < j))) := rfl
theorem k_leI (i j : Int) (Q : Dt → Prop) (E : Xn → Prop) : pyLe (.int i) (.int j) Q E = Q (.bl (decide (i ≤ j))) := rfl
theorem k_gtI (i j : Int) (Q : Dt → Prop) (E : Xn → Prop) : pyGt (.int i) (.int j) Q E = Q (.bl (decide (j < i))) := rfl
theorem k_geI (i j : Int) (Q : Dt → Prop) (E : Xn → Prop) : pyGe (.int i) (.int j) Q E = Q (.bl (decide (j ≤ i))) := rfl
theorem k_eqI (i j : Int) (Q : Dt → Prop) (E : Xn → Prop) : pyEq (.int i) (.int j) Q E = Q (.bl (decide (i = j))) := rfl
theorem k_neI (i j : Int) (Q : Dt → Prop) (E : Xn → Prop) : pyNe (.int i) (.int j) Q E = Q (.bl (!decide (i = j))) := rfl
theorem k_eqS (i j : PySem.Str) (Q : Dt → Prop) (E : Xn → Prop) : pyEq (.str i) (.str j) Q E = Q (.bl (decide (i = j))) := rfl
theorem k_neS (i j : PySem.Str) (Q : Dt → Prop) (E : Xn → Prop) : pyNe (.str i) (.str j) Q E = Q (.bl (!decide (i = j))) := rfl
theorem k_ixT (xs : List Dt) (i : Int) (Q : Dt → Prop) (E : Xn → Prop) : pyIx (.tup xs) (.int i) Q E = ofO (L2.atI xs i) Q E := rfl
theorem k_ixL (xs : List Dt) (i : Int) (Q : Dt → Prop) (E : Xn → Prop) : pyIx (.lst xs) (.int i) Q E = ofO (L2.atI xs i) Q E := rfl
theorem k_ixD (kvs : List (Key × Dt)) (x : PySem.Str) (Q : Dt → Prop) (E : Xn → Prop) : pyIx (.dct kvs) (.str x) Q E = ofO (lookD kvs (.inr x)) Q E := rfl
theorem k_inD (kvs : List (Key × Dt)) (x : PySem.Str) (Q : Dt → Prop) (E : Xn → Prop) : pyIn (.str x) (.dct kvs) Q E = Q (.bl (lookD kvs (.inr x)).isSome) := rfl
theorem k_ninD (kvs : List (Key × Dt)) (x : PySem.Str) (Q : Dt → Prop) (E : Xn → Prop) : pyNotIn (.str x) (.dct kvs) Q E = Q (.bl (!(lookD kvs (.inr x)).isSome)) := rfl
theorem k_key (x : PySem.Str) (Q : Key → Prop) (E : Xn → Prop) : ofO (keyD (.str x)) Q E = Q (.inr x) := rfl
theorem k_itL (xs : List Dt) (Q : List Dt → Prop) (E : Xn → Prop) : itA (.lst xs) Q E = Q xs := rfl
theorem k_itT (xs : List Dt) (Q : List Dt → Prop) (E : Xn → Prop) : itA (.tup xs) Q E = Q xs := rfl
theorem k_itS (x : PySem.Str) (Q : List Dt → Prop) (E : Xn → Prop) : itA (.str x) Q E = Q (sgs x) := rfl
theorem k_itD (kvs : List (Key × Dt)) (Q : List Dt → Prop) (E : Xn → Prop) : itA (.dct kvs) Q E = Q (kvs.map fun kv => keyDt kv.1) := rfl
theorem k_itR1 (j : Int) (Q : List Dt → Prop) (E : Xn → Prop) : itR1 [.int j] Q E = ((-(2 ^ 62) ≤ j ∧ j < 2 ^ 62) ∧ Q (rgD 0 j.toNat)) := rfl
theorem k_itR2 (i j : Int) (Q : List Dt → Prop) (E : Xn → Prop) : itR2 [.int i, .int j] Q E = ((-(2 ^ 62) ≤ i ∧ i < 2 ^ 62 ∧ -(2 ^ 62) ≤ j ∧ j < 2 ^ 62) ∧ Q (rgD i (j - i).toNat)) := rfl
theorem k_itEL (xs : List Dt) (Q : List Dt → Prop) (E : Xn → Prop) : itE (.lst xs) Q E = Q (enumD 0 xs) := rfl
theorem k_itET (xs : List Dt) (Q : List Dt → Prop) (E : Xn → Prop) : itE (.tup xs) Q E = Q (enumD 0 xs) := rfl
theorem k_lenL (xs : List Dt) (Q : Dt → Prop) (E : Xn → Prop) : pyLenT [.lst xs] Q E = Q (.int xs.length) := rfl
theorem k_lenT (xs : List Dt) (Q : Dt → Prop) (E : Xn → Prop) : pyLenT [.tup xs] Q E = Q (.int xs.length) := rfl
theorem k_tupL (xs : List Dt) (Q : Dt → Prop) (E : Xn → Prop) : pyTuple [.lst xs] Q E = Q (.tup xs) := rfl
theorem k_tupT (xs : List Dt) (Q : Dt → Prop) (E : Xn → Prop) : pyTuple [.tup xs] Q E = Q (.tup xs) := rfl
theorem k_lisL (xs : List Dt) (Q : Nw → Prop) (E : Xn → Prop) : pyListX [.lst xs] Q E = Q (.l xs) := rfl
theorem k_lisT (xs : List Dt) (Q : Nw → Prop) (E : Xn → Prop) : pyListX [.tup xs] Q E = Q (.l xs) := rfl
theorem k_lisS (x : PySem.Str) (Q : Nw → Prop) (E : Xn → Prop) : pyListX [.str x] Q E = (x.cps.size ≤ sizeLine ∧ Q (.l (sgs x))) := rfl
theorem k_intI (i : Int) (Q : Dt → Prop) (E : Xn → Prop) : pyInt [.int i] Q E = Q (.int i) := rfl
theorem k_minI (i j : Int) (Q : Dt → Prop) (E : Xn → Prop) : pyMin [.int i, .int j] Q E = Q (.int (if j < i then j else i)) := rfl
theorem k_maxI (i j : Int) (Q : Dt → Prop) (E : Xn → Prop) : pyMax [.int i, .int j] Q E = Q (.int (if j > i then j else i)) := rfl
theorem k_aN (i : Nat) (d : Dt) (ρ : Env) (Q : Env → Prop) (E : Xn → Prop) : aN i d ρ Q E = Q (ρ.set i (.fz d)) := rfl
theorem k_aNil (ρ : Env) (Q : Env → Prop) (E : Xn → Prop) : aNil [] ρ Q E = Q ρ := rfl
theorem k_aCons (m : Dt → Env → Wp Env) (n : List Dt → Env → Wp Env) (d : Dt) (r : List Dt) (ρ : Env) (Q : Env → Prop) (E : Xn → Prop) : aCons m n (d :: r) ρ Q E = m d ρ (fun ρ' => n r ρ' Q E) E := rfl
theorem k_aTup (n : List Dt → Env → Wp Env) (ds : List Dt) (ρ : Env) (Q : Env → Prop) (E : Xn → Prop) : aTup n (.tup ds) ρ Q E = n ds ρ Q E := rfl
theorem k_aKd (n : List Dt → Env → Wp Env) (k : Kd) (ρ : Env) (Q : Env → Prop) (E : Xn → Prop) : aTup n k.d ρ Q E = n [.str k.nm, .int k.ed, .tup (k.bs.map Dt.str), .str k.lt, .str k.mr] ρ Q E := rfl
theorem k_kd0 (k : Kd) (Q : Dt → Prop) (E : Xn → Prop) : pyIx k.d (.int 0) Q E = Q (.str k.nm) := rfl
theorem k_kd1 (k : Kd) (Q : Dt → Prop) (E : Xn → Prop) : pyIx k.d (.int 1) Q E = Q (.int k.ed) := rfl
theorem k_kd2 (k : Kd) (Q : Dt → Prop) (E : Xn → Prop) : pyIx k.d (.int 2) Q E = Q (.tup (k.bs.map Dt.str)) := rfl
theorem k_kd3 (k : Kd) (Q : Dt → Prop) (E : Xn → Prop) : pyIx k.d (.int 3) Q E = Q (.str k.lt) := rfl
theorem k_kd4 (k : Kd) (Q : Dt → Prop) (E : Xn → Prop) : pyIx k.d (.int 4) Q E = Q (.str k.mr) := rfl
theorem k_finrt (d : Dt) (Q : Dt → Prop) (E : Xn → Prop) : finW (.rt d) Q E = Q d := rfl
theorem k_finnx (ρ : Env) (Q : Dt → Prop) (E : Xn → Prop) : finW (.nx ρ) Q E = Q .non := rfl
theorem k_fzA (i : Nat) (m : Wp Fl) (Q : Fl → Prop) (E : Xn → Prop) : fzA i m Q E = m (flK (fun ρ => .ret (.nx (fzS i ρ))) Q E) E := by
  show m _ E = m _ E
  congr 1
  funext x
  cases x <;> rfl
theorem fzS_0l (xs : List Dt) (ρ : Env) : fzS 0 (.ol xs :: ρ) = .fz (.lst xs) :: ρ := rfl
theorem fzS_0d (xs : List (Key × Dt)) (ρ : Env) : fzS 0 (.od xs :: ρ) = .fz (.dct xs) :: ρ := rfl
theorem fzS_s (s : Sl) (i : Nat) (ρ : Env) : fzS (i + 1) (s :: ρ) = s :: fzS i ρ := by
  unfold fzS
  rw [List.getElem?_cons_succ]
  cases h : ρ[i]? with
  | none => rfl
  | some x => cases x <;> rfl
theorem ite_tt {p q : Prop} : (if true = true then p else q) = p := rfl
theorem ite_ff {p q : Prop} : (if false = true then p else q) = q := rfl
theorem k_slL (xs : List Dt) (lo hi : Option Int) (Q : Dt → Prop) (E : Xn → Prop) : pySl (.lst xs) lo hi Q E = Q (.lst (cutD xs lo hi)) := rfl
theorem k_slT (xs : List Dt) (lo hi : Option Int) (Q : Dt → Prop) (E : Xn → Prop) : pySl (.tup xs) lo hi Q E = Q (.tup (cutD xs lo hi)) := rfl
theorem k_nwl (a : List Dt) : (Nw.l a).sl = .ol a := rfl
theorem k_nwd (a : List (Key × Dt)) : (Nw.d a).sl = .od a := rfl
theorem k_ndl (a : List Dt) : (Nw.l a).dt = .lst a := rfl
theorem k_ndd (a : List (Key × Dt)) : (Nw.d a).dt = .dct a := rfl
theorem k_wipe (ρ : Env) (v : Nat) (vs : List Nat) : wipeE ρ (v :: vs) = (wipeE ρ vs).set v .no := rfl
theorem k_set0 (s x : Sl) (ρ : Env) : List.set (s :: ρ) 0 x = x :: ρ := rfl
theorem k_sets (s x : Sl) (i : Nat) (ρ : Env) : List.set (s :: ρ) (i + 1) x = s :: List.set ρ i x := rfl
theorem k_wipe0 (ρ : Env) : wipeE ρ [] = ρ := rfl
theorem k_dec {p : Prop} [Decidable p] {a b : Prop} : (if decide p = true then a else b) = if p then a else b := by simp
theorem k_ndec {p : Prop} [Decidable p] {a b : Prop} : (if (!decide p) = true then a else b) = if p then b else a := by by_cases h : p <;> simp [h]
theorem k_addN (a b : List Dt) (Q : Nw → Prop) (E : Xn → Prop) : addN (.lst a) (.lst b) Q E = (a.length + b.length ≤ sizeLine ∧ Q (.l (a ++ b))) := rfl
theorem seqIn_strs (x : PySem.Str) (bs : List PySem.Str) : seqIn (.str x) (bs.map Dt.str) = .ret (decide (x ∈ bs)) := by
  unfold seqIn
  rw [gd_t _ ⟨rfl, by simp [flatD]⟩]
  congr 1
  rw [List.any_map, Bool.eq_iff_iff, List.any_eq_true, decide_eq_true_eq]
  constructor
  · rintro ⟨y, hy, e⟩
    have : y = x := by simpa [eqF, flatD, eqV] using e
    exact this ▸ hy
  · intro h; exact ⟨x, h, by simp [eqF, flatD, eqV]⟩
theorem k_inL (x : PySem.Str) (bs : List PySem.Str) (Q : Dt → Prop) (E : Xn → Prop) : pyIn (.str x) (.lst (bs.map Dt.str)) Q E = Q (.bl (decide (x ∈ bs))) := by
  show seqIn _ _ _ E = _
  rw [seqIn_strs]; rfl
theorem k_inT (x : PySem.Str) (bs : List PySem.Str) (Q : Dt → Prop) (E : Xn → Prop) : pyIn (.str x) (.tup (bs.map Dt.str)) Q E = Q (.bl (decide (x ∈ bs))) := by
  show seqIn _ _ _ E = _
  rw [seqIn_strs]; rfl
theorem k_ninL (x : PySem.Str) (bs : List PySem.Str) (Q : Dt → Prop) (E : Xn → Prop) : pyNotIn (.str x) (.lst (bs.map Dt.str)) Q E = Q (.bl (!decide (x ∈ bs))) := by
  show seqIn _ _ _ E = _
  rw [seqIn_strs]; rfl
theorem k_ninT (x : PySem.Str) (bs : List PySem.Str) (Q : Dt → Prop) (E : Xn → Prop) : pyNotIn (.str x) (.tup (bs.map Dt.str)) Q E = Q (.bl (!decide (x ∈ bs))) := by
  show seqIn _ _ _ E = _
  rw [seqIn_strs]; rfl
theorem atI_nat {α : Type} (xs : List α) (i : Int) (h0 : 0 ≤ i) (h1 : i < xs.length) : L2.atI xs i = xs[i.toNat]? := by
  unfold L2.atI ixN
  rw [if_pos h0, if_pos h1]; rfl
theorem at_all {xs : List Dt} {i : Int} {Q : Dt → Prop} {E : Xn → Prop} (h0 : 0 ≤ i) (h1 : i < xs.length) (h : ∀ x ∈ xs, Q x) : ofO (L2.atI xs i) Q E := by
  rw [atI_nat xs i h0 h1]
  have hl : i.toNat < xs.length := by omega
  rw [List.getElem?_eq_getElem hl]
  exact h _ (List.getElem_mem hl)
theorem at_map {α : Type} {f : α → Dt} {xs : List α} {i : Int} {Q : Dt → Prop} {E : Xn → Prop} (h0 : 0 ≤ i) (h1 : i < xs.length) (h : ∀ x, xs[i.toNat]? = some x → Q (f x)) : ofO (L2.atI (xs.map f) i) Q E := by
  rw [atI_nat _ i h0 (by simpa using h1)]
  have hl : i.toNat < xs.length := by omega
  rw [List.getElem?_map, List.getElem?_eq_getElem hl]
  exact h _ (List.getElem?_eq_getElem hl)
def inS (x t : PySem.Str) : Bool := match x.cps.toList with
  | [n] => decide (n ∈ t.cps.toList)
  | _ => !(Builtin.Str.occurrences t x 0 t.length 1).isEmpty
theorem dIn_S (x t : PySem.Str) : dIn (.str x) (.str t) = .ret (inS x t) := by
  show (match x.cps.toList with
      | [n] => Wp.ret (decide (n ∈ t.cps.toList))
      | _ => Wp.ret (!(Builtin.Str.occurrences t x 0 t.length 1).isEmpty)) = _
  unfold inS
  split <;> rfl
theorem k_inS (x t : PySem.Str) (Q : Dt → Prop) (E : Xn → Prop) : pyIn (.str x) (.str t) Q E = Q (.bl (inS x t)) := by
  unfold pyIn
  rw [dIn_S]; rfl
theorem k_ninS (x t : PySem.Str) (Q : Dt → Prop) (E : Xn → Prop) : pyNotIn (.str x) (.str t) Q E = Q (.bl (!inS x t)) := by
  unfold pyNotIn
  rw [dIn_S]; rfl
theorem k_joinL (a : PySem.Str) (l : List PySem.Str) (Q : Dt → Prop) (E : Xn → Prop) : pyJoin a (.lst (l.map Dt.str)) Q E = ((l.map (·.length)).sum + l.length * a.length ≤ 16777216 ∧ Q (.str (PySem.Str.join a l))) := by
  show ofO ((seqOf (.lst (l.map Dt.str))).bind strsOf) _ E = _
  have e : (seqOf (.lst (l.map Dt.str))).bind strsOf = some l := strsOf_map l
  rw [e]
  have e2 : Txt.join a l = PySem.Str.join a l := PySem.StrLaws.glued_eq_join a l
  rw [← e2]
  rfl
theorem join_nil : ∀ l : List PySem.Str, (PySem.Str.join "" l).cps.toList = (l.map fun x => x.cps.toList).flatten
  | [] => rfl
  | [x] => by simp [PySem.Str.join]
  | x :: y :: r => by
    have ih := join_nil (y :: r)
    have e : PySem.Str.join "" (x :: y :: r) = x ++ "" ++ PySem.Str.join "" (y :: r) := rfl
    have e2 : ∀ a b : PySem.Str, (a ++ b).cps.toList = a.cps.toList ++ b.cps.toList := fun a b => by
      show (PySem.Str.append a b).cps.toList = _
      unfold PySem.Str.append
      simp
    rw [e, e2, e2, ih]
    have : (PySem.Str.cps "").toList = [] := by decide +kernel
    rw [this]; simp
/-- a loop over a list by what holds between two turns -/
theorem k_for {α : Type} {body : Dt → Env → Wp Fl} {Q : Fl → Prop} {E : Xn → Prop} (d : α → Dt) (I : List α → Env → Prop) {l : List α} {ρ : Env} (start : I [] ρ)
    (step : ∀ pre a rest ρ (K : Env → Prop), l = pre ++ a :: rest → I pre ρ → (∀ ρ', I (pre ++ [a]) ρ' → K ρ') → body (d a) ρ (lpK K Q) E) (fin : ∀ ρ, I l ρ → Q (.nx ρ)) : forL body (l.map d) ρ Q E := by
  have gen : ∀ (rest pre : List α) (ρ : Env), l = pre ++ rest → I pre ρ → forL body (rest.map d) ρ Q E := by
    intro rest
    induction rest with
    | nil =>
      intro pre ρ e h
      simp only [List.append_nil] at e
      subst e
      exact fin ρ h
    | cons a rest ih =>
      intro pre ρ e h
      have := step pre a rest ρ (fun ρ' => forL body (rest.map d) ρ' Q E) e h (fun ρ' h' => ih (pre ++ [a]) ρ' (by rw [e]; simp) h')
      show body (d a) ρ _ E
      refine cast ?_ this
      congr 1
      funext f
      cases f <;> rfl
  exact gen l [] ρ rfl start
/-- a comprehension -/
theorem k_comp {α : Type} {t : Env → Wp Bool} {e : Env → Wp Dt} {g : Dt → Env → Wp Env} {ρ : Env} {Q : List Dt → Prop} {E : Xn → Prop} (d : α → Dt) (p : α → Bool) (f : α → Dt) {l : List α} :
    ∀ {acc : List Dt}, acc.length + l.length ≤ sizeLine → (∀ a ∈ l, ∀ (K1 : Dt → Prop) (K0 : Prop), (p a = true → K1 (f a)) → (p a = false → K0) → g (d a) ρ (fun ρ' => t ρ' (fun b => if b = true then e ρ' K1 E else K0) E) E) →
      Q (acc ++ (l.filter p).map f) → compL t e g ρ (l.map d) acc Q E := by
  induction l with
  | nil => intro acc _ _ q; have q : Q acc := by simpa using q
           exact q
  | cons a l ih =>
    intro acc hl h q
    simp only [List.length_cons] at hl
    have h1 := h a (by simp) (fun x => acc.length < sizeLine ∧ compL t e g ρ (l.map d) (acc ++ [x]) Q E) (compL t e g ρ (l.map d) acc Q E)
      (fun hp => ⟨by omega, ih (by simp; omega) (fun b hb => h b (by simp [hb])) (by simpa [List.filter_cons, hp] using q)⟩)
      (fun hp => ih (by omega) (fun b hb => h b (by simp [hb])) (by simpa [List.filter_cons, hp] using q))
    show g (d a) ρ _ E
    refine cast ?_ h1
    congr 1
    funext ρ'
    show t ρ' _ E = t ρ' _ E
    congr 1
    funext b
    cases b <;> rfl
/-- .. without a test -/
theorem k_comp1 {α : Type} {e : Env → Wp Dt} {g : Dt → Env → Wp Env} {ρ : Env} {Q : List Dt → Prop} {E : Xn → Prop} (d : α → Dt) (f : α → Dt) {l : List α} (hl : l.length ≤ sizeLine)
    (h : ∀ a ∈ l, ∀ (K1 : Dt → Prop), K1 (f a) → g (d a) ρ (fun ρ' => e ρ' K1 E) E) (q : Q (l.map f)) : compL (fun _ => .ret true) e g ρ (l.map d) [] Q E :=
  k_comp d (fun _ => true) f (by simpa using hl) (fun a ha K1 K0 h1 _ => h a ha K1 (h1 rfl)) (by simpa [List.filter_eq_self.mpr] using q)
/-- all at once -/
def EV := And.intro @k_inS (And.intro @k_ninS (And.intro @k_joinL (And.intro @k_inL (And.intro @k_inT (And.intro @k_ninL (And.intro @k_ninT (And.intro @k_bind (And.intro @k_ret (And.intro @k_bad (And.intro @k_thr (And.intro @k_gd (And.intro @k_calm (And.intro @k_fl (And.intro @k_flnx (And.intro @k_flrt (And.intro @k_lpnx (And.intro @k_lprt (And.intro @k_wIf (And.intro @k_and (And.intro @k_or (And.intro @k_not (And.intro @k_asB (And.intro @k_vand (And.intro @k_vor (And.intro @k_vnot (And.intro @k_chain (And.intro @k_ofs (And.intro @k_ofn (And.intro @k_asS (And.intro @k_asI (And.intro @k_addI (And.intro @k_addS (And.intro @k_addL (And.intro @k_addT (And.intro @k_subI (And.intro @k_mulI (And.intro @k_mulL (And.intro @k_modI (And.intro @k_divI (And.intro @k_ltI (And.intro @k_leI (And.intro @k_gtI (And.intro @k_geI (And.intro @k_eqI (And.intro @k_neI (And.intro @k_eqS (And.intro @k_neS (And.intro @k_ixT (And.intro @k_ixL (And.intro @k_ixD (And.intro @k_inD (And.intro @k_ninD (And.intro @k_key (And.intro @k_itL (And.intro @k_itT (And.intro @k_itS (And.intro @k_itD (And.intro @k_itR1 (And.intro @k_itR2 (And.intro @k_itEL (And.intro @k_itET (And.intro @k_lenL (And.intro @k_lenT (And.intro @k_tupL (And.intro @k_tupT (And.intro @k_lisL (And.intro @k_lisT (And.intro @k_lisS (And.intro @k_intI (And.intro @k_minI (And.intro @k_maxI (And.intro @k_aN (And.intro @k_aNil (And.intro @k_aCons (And.intro @k_aTup (And.intro @k_aKd (And.intro @k_kd0 (And.intro @k_kd1 (And.intro @k_kd2 (And.intro @k_kd3 (And.intro @k_kd4 (And.intro @k_finrt (And.intro @k_finnx (And.intro @k_fzA (And.intro @fzS_0l (And.intro @fzS_0d (And.intro @fzS_s (And.intro @ite_tt (And.intro @ite_ff (And.intro @k_slL (And.intro @k_slT (And.intro @k_nwl (And.intro @k_nwd (And.intro @k_ndl (And.intro @k_ndd (And.intro @k_wipe (And.intro @k_wipe0 (And.intro @k_dec (And.intro @k_ndec (And.intro @k_addN (And.intro @gR_0 (And.intro @gR_0l (And.intro @gR_0d (And.intro @gR_s (And.intro @gF_0 (And.intro @gF_s (And.intro @gL_0 (And.intro @gL_s (And.intro @gD_0 (And.intro @gD_s (And.intro @k_set0 (@k_sets))))))))))))))))))))))))))))))))))))))))))))))))))))))))))))))))))))))))))))))))))))))))))))))))))))))))))))))))
end Mv

namespace Mv
open PySem L2 PyProof.Rows
/-- a number below a bound: any -/
def c__law_next : List Dt → Wp Dt
  | [.drw, .int n] => fun Q _ => (0 < n ∧ n < 1073741824) ∧ ∀ r : Int, 0 ≤ r → r < n → Q (.int r)
  | _ => .bad
theorem k_next (n : Int) (Q : Dt → Prop) (E : Xn → Prop) : c__law_next [.drw, .int n] Q E = ((0 < n ∧ n < 1073741824) ∧ ∀ r : Int, 0 ≤ r → r < n → Q (.int r)) := rfl
theorem mn__law_next (ds : List Dt) : Mn (c__law_next ds) := by
  unfold c__law_next
  split
  · exact fun Q Q' E E' h _ q => ⟨q.1, fun r h1 h2 => h _ (q.2 r h1 h2)⟩
  · exact mn_bad
def mb__law_sign : Env → Wp Fl := fun ρ =>
    (Wp.bind (Wp.bind (Wp.ret (Dt.str "abcdefghijklmnopqrstuvwxyz")) fun x => Wp.bind (Wp.bind (Wp.bind (Wp.bind (gR ρ 0) fun x => Wp.bind (Wp.ret []) fun xs => .ret (x :: xs)) pyInt) fun x => Wp.bind (Wp.ret (Dt.int 26)) fun y => pyMod x y) fun y => pyIx x y) fun d => .ret (Fl.rt d))
/-- a letter by its number -/
def sgn (i : Int) : PySem.Str := ⟨#[97 + (i % 26).toNat]⟩
theorem ix_let {i : Int} (h0 : 0 ≤ i) (h1 : i < 26) (Q : Dt → Prop) (E : Xn → Prop) : pyIx (.str "abcdefghijklmnopqrstuvwxyz") (.int i) Q E = Q (.str (sgn i)) := by
  have e : i = ((i.toNat : Nat) : Int) := by omega
  have hl : i.toNat < 26 := by omega
  rw [e]
  revert hl
  generalize i.toNat = n
  intro hl
  have key : ∀ n : Fin 26, L2.atI (PySem.Str.cps "abcdefghijklmnopqrstuvwxyz").toList ((n.val : Nat) : Int) = some (97 + n.val) := by decide +kernel
  show (_ ∧ ofO (L2.atI (PySem.Str.cps "abcdefghijklmnopqrstuvwxyz").toList (n : Int)) _ E) = _
  have k := key ⟨n, hl⟩
  simp only at k
  rw [k]
  have e2 : sgn (n : Int) = ⟨#[97 + n]⟩ := by unfold sgn; congr 3; omega
  rw [e2]
  have z : (PySem.Str.length "abcdefghijklmnopqrstuvwxyz" ≤ sizeLine) = True := by simp; decide +kernel
  rw [z, true_and]
  rfl
def c__law_sign : List Dt → Wp Dt
  | [.int i] => .ret (.str (sgn i))
  | _ => .bad
theorem k_sign (i : Int) (Q : Dt → Prop) (E : Xn → Prop) : c__law_sign [.int i] Q E = Q (.str (sgn i)) := rfl
theorem le__law_sign (ds : List Dt) (Q : Dt → Prop) (E : Xn → Prop) (h : c__law_sign ds Q E) : fnWp 1 mb__law_sign ds Q fun _ => False := by
  unfold c__law_sign at h
  split at h
  · rename_i i
    simp only [fnWp_def, mb__law_sign, List.map, List.replicate, List.length_cons, List.length_nil, Nat.reduceSub, Nat.reduceAdd, List.cons_append, List.nil_append, EV]
    rw [ix_let (Int.emod_nonneg _ (by decide)) (Int.emod_lt_of_pos _ (by decide))]
    have : sgn (i % 26) = sgn i := by unfold sgn; rw [Int.emod_emod]
    rw [this]
    exact ⟨by decide, h⟩
  · exact h.elim
end Mv

namespace Mv
open PySem L2 PyProof.Rows
def lb__law_titles_0 : Dt → Env → Wp Fl := fun x ρ => Wp.bind ((aN 6) x ρ) fun ρ =>
    (Wp.bind (Wp.bind (Wp.bind (gR ρ 5) fun x => Wp.bind (Wp.bind (gR ρ 1) fun x => Wp.bind (Wp.bind (Wp.bind (gF ρ 0) fun x => Wp.bind (Wp.bind (Wp.ret (Dt.int 26)) fun x => Wp.bind (Wp.ret []) fun xs => .ret (x :: xs)) fun xs => .ret (x :: xs)) c__law_next) fun y => pyIx x y) fun y => pyAdd x y) fun d => .ret (Sl.fz d)) fun x => .ret (Fl.nx (ρ.set 5 x)))
def mb__law_titles : Env → Wp Fl := fun ρ =>
    (Wp.fl (Wp.bind (Wp.bind (Wp.ret (Dt.str "abcdefghijklmnopqrstuvwxyz")) fun d => .ret (Sl.fz d)) fun u => Wp.bind (Wp.bind (Wp.bind (Wp.bind (gF ρ 0) fun x => Wp.bind (Wp.bind (Wp.ret (Dt.int 26)) fun x => Wp.bind (Wp.ret []) fun xs => .ret (x :: xs)) fun xs => .ret (x :: xs)) c__law_next) fun d => .ret (Sl.fz d)) fun v => .ret (Fl.nx ((ρ.set 1 u).set 2 v))) fun ρ =>
    (Wp.fl (Wp.bind (Wp.bind (Wp.bind (Wp.bind (gF ρ 0) fun x => Wp.bind (Wp.bind (Wp.ret (Dt.int 4)) fun x => Wp.bind (Wp.ret []) fun xs => .ret (x :: xs)) fun xs => .ret (x :: xs)) c__law_next) fun d => .ret (Sl.fz d)) fun x => .ret (Fl.nx (ρ.set 3 x))) fun ρ =>
    (Wp.fl (wIf (Wp.bind (Wp.bind (gR ρ 3) fun x => Wp.bind (Wp.ret (Dt.int 3)) fun y => pyEq x y) asB) ((Wp.fl (Wp.bind (Wp.bind (Wp.bind (Wp.bind (Wp.ret (Dt.str "set")) fun x => Wp.bind (Wp.bind (Wp.ret (Dt.str "make")) fun x => Wp.bind (Wp.bind (Wp.ret (Dt.str "drop")) fun x => Wp.bind (Wp.bind (Wp.ret (Dt.str "kind")) fun x => Wp.bind (Wp.bind (Wp.ret (Dt.str "part")) fun x => Wp.bind (Wp.bind (Wp.ret (Dt.str "file")) fun x => Wp.bind (Wp.bind (Wp.ret (Dt.str "undo")) fun x => Wp.bind (Wp.bind (Wp.ret (Dt.str "redo")) fun x => Wp.bind (Wp.bind (Wp.ret (Dt.str "gaps")) fun x => Wp.bind (Wp.bind (Wp.ret (Dt.str "wastes")) fun x => Wp.bind (Wp.ret []) fun xs => .ret (x :: xs)) fun xs => .ret (x :: xs)) fun xs => .ret (x :: xs)) fun xs => .ret (x :: xs)) fun xs => .ret (x :: xs)) fun xs => .ret (x :: xs)) fun xs => .ret (x :: xs)) fun xs => .ret (x :: xs)) fun xs => .ret (x :: xs)) fun xs => .ret (x :: xs)) fun xs => .ret (Dt.lst xs)) fun d => .ret (Sl.fz d)) fun x => .ret (Fl.nx (ρ.set 7 x))) fun ρ =>
    (Wp.fl (Wp.bind (Wp.bind (Wp.bind (gR ρ 7) fun x => Wp.bind (Wp.bind (Wp.bind (Wp.ret (Dt.str "letters")) fun x => Wp.bind (Wp.bind (Wp.ret (Dt.str "stale")) fun x => Wp.bind (Wp.bind (Wp.ret (Dt.str "lost")) fun x => Wp.bind (Wp.bind (Wp.ret (Dt.str "done")) fun x => Wp.bind (Wp.bind (Wp.ret (Dt.str "no")) fun x => Wp.bind (Wp.bind (Wp.ret (Dt.str "none")) fun x => Wp.bind (Wp.bind (Wp.ret (Dt.str "empty")) fun x => Wp.bind (Wp.bind (Wp.ret (Dt.str "nothing")) fun x => Wp.bind (Wp.ret []) fun xs => .ret (x :: xs)) fun xs => .ret (x :: xs)) fun xs => .ret (x :: xs)) fun xs => .ret (x :: xs)) fun xs => .ret (x :: xs)) fun xs => .ret (x :: xs)) fun xs => .ret (x :: xs)) fun xs => .ret (x :: xs)) fun xs => .ret (Dt.lst xs)) fun y => pyAdd x y) fun d => .ret (Sl.fz d)) fun x => .ret (Fl.nx (ρ.set 7 x))) fun ρ =>
    (Wp.fl (Wp.bind (Wp.bind (Wp.bind (gR ρ 7) fun x => Wp.bind (Wp.bind (Wp.bind (Wp.ret (Dt.str "mark")) fun x => Wp.bind (Wp.bind (Wp.ret (Dt.str "base")) fun x => Wp.bind (Wp.bind (Wp.ret (Dt.str "one")) fun x => Wp.bind (Wp.bind (Wp.ret (Dt.str "other")) fun x => Wp.bind (Wp.bind (Wp.ret (Dt.str "layout")) fun x => Wp.bind (Wp.bind (Wp.ret (Dt.str "edition")) fun x => Wp.bind (Wp.ret []) fun xs => .ret (x :: xs)) fun xs => .ret (x :: xs)) fun xs => .ret (x :: xs)) fun xs => .ret (x :: xs)) fun xs => .ret (x :: xs)) fun xs => .ret (x :: xs)) fun xs => .ret (Dt.lst xs)) fun y => pyAdd x y) fun d => .ret (Sl.fz d)) fun x => .ret (Fl.nx (ρ.set 7 x))) fun ρ =>
    (Wp.bind (Wp.bind (Wp.bind (gR ρ 7) fun x => Wp.bind (Wp.bind (Wp.bind (gR ρ 2) fun x => Wp.bind (Wp.ret (Dt.int 24)) fun y => pyMod x y) asI) fun l => Wp.bind (Wp.ret none) fun h => pySl x l h) fun x => Wp.bind (Wp.bind (gR ρ 7) fun x => Wp.bind (Wp.ret none) fun l => Wp.bind (Wp.bind (Wp.bind (gR ρ 2) fun x => Wp.bind (Wp.ret (Dt.int 24)) fun y => pyMod x y) asI) fun h => pySl x l h) fun y => pyAdd x y) fun d => .ret (Fl.rt d)))))) ((Wp.ret (Fl.nx ρ)))) fun ρ =>
    (Wp.fl (fzA 4 (Wp.bind (Wp.bind (Wp.bind (Wp.bind (Wp.bind (Wp.ret (Dt.int 24)) fun x => Wp.bind (Wp.ret []) fun xs => .ret (x :: xs)) itR1) fun xs => Wp.bind (Wp.calm (compL (fun ρ => (Wp.ret true)) (fun ρ => (Wp.bind (gR ρ 1) fun x => Wp.bind (Wp.bind (Wp.bind (Wp.bind (Wp.bind (gR ρ 2) fun x => Wp.bind (Wp.bind (Wp.ret (Dt.int 7)) fun x => Wp.bind (gR ρ 8) fun y => pyMul x y) fun y => pyAdd x y) fun x => Wp.bind (Wp.ret []) fun xs => .ret (x :: xs)) pyInt) fun x => Wp.bind (Wp.ret (Dt.int 26)) fun y => pyMod x y) fun y => pyIx x y)) (aN 8) (wipeE ρ [8]) xs [])) fun ys => .ret (Nw.l ys)) fun (d : Nw) => .ret d.sl) fun x => .ret (Fl.nx (ρ.set 4 x)))) fun ρ =>
    (Wp.fl (Wp.bind (Wp.bind (Wp.ret (Dt.str "")) fun d => .ret (Sl.fz d)) fun x => .ret (Fl.nx (ρ.set 5 x))) fun ρ =>
    (Wp.fl (Wp.bind (Wp.bind (Wp.bind (Wp.bind (Wp.bind (gF ρ 0) fun x => Wp.bind (Wp.bind (Wp.ret (Dt.int 8)) fun x => Wp.bind (Wp.ret []) fun xs => .ret (x :: xs)) fun xs => .ret (x :: xs)) c__law_next) fun x => Wp.bind (Wp.ret []) fun xs => .ret (x :: xs)) itR1) fun xs => forL lb__law_titles_0 xs ρ) fun ρ =>
    (Wp.fl (wIf (Wp.bind (Wp.bind (gR ρ 3) fun x => Wp.bind (Wp.ret (Dt.int 0)) fun y => pyEq x y) asB) ((Wp.bind (gF ρ 4) fun d => .ret (Fl.rt d))) ((Wp.ret (Fl.nx ρ)))) fun ρ =>
    (Wp.bind (Wp.bind (Wp.bind (Wp.bind (gF ρ 4) itA) fun xs => Wp.bind (Wp.calm (compL (fun ρ => (Wp.ret true)) (fun ρ => (wIf (Wp.bind (Wp.bind (gR ρ 3) fun x => Wp.bind (Wp.ret (Dt.int 1)) fun y => pyEq x y) asB) (Wp.bind (gR ρ 5) fun x => Wp.bind (gR ρ 9) fun y => pyAdd x y) (Wp.bind (gR ρ 9) fun x => Wp.bind (gR ρ 5) fun y => pyAdd x y))) (aN 9) (wipeE ρ [9]) xs [])) fun ys => .ret (Nw.l ys)) fun n => .ret n.dt) fun d => .ret (Fl.rt d)))))))))
structure TtOk (ts : List PySem.Str) : Prop where
  len : ts.length = 24
  nd : ts.Nodup
  nm : ∀ t ∈ ts, nameB t = true
def c__law_titles (ds : List Dt) : Wp Dt := fun Q _ => ds = [.drw] ∧ ∀ ts, TtOk ts → Q (.lst (ts.map Dt.str))
def WORDS : List PySem.Str := ["set", "make", "drop", "kind", "part", "file", "undo", "redo", "gaps", "wastes", "letters", "stale", "lost", "done", "no", "none", "empty", "nothing", "mark", "base", "one", "other", "layout", "edition"]
theorem words_ok : TtOk WORDS := ⟨by decide +kernel, by decide +kernel, by decide +kernel⟩
theorem rot_ok {ts : List PySem.Str} (h : TtOk ts) (n : Nat) : TtOk (ts.drop n ++ ts.take n) := by
  have p : (ts.drop n ++ ts.take n).Perm ts := by
    have := List.perm_append_comm (l₁ := ts.drop n) (l₂ := ts.take n)
    rwa [List.take_append_drop] at this
  exact ⟨by rw [p.length_eq]; exact h.len, p.nodup_iff.mpr h.nd, fun t ht => h.nm t (p.mem_iff.mp ht)⟩
theorem cut_from {α : Type} (l : List α) (i : Int) (h0 : 0 ≤ i) (h1 : i ≤ l.length) : cutD l (some i) none = l.drop i.toNat := by
  have e : i = ((i.toNat : Nat) : Int) := by omega
  unfold cutD
  rw [e, HT.sIx_nat, HT.sIx_none, Int.toNat_natCast]
  have : min i.toNat l.length = i.toNat := by omega
  rw [this, List.take_of_length_le (by simp)]
theorem cut_to {α : Type} (l : List α) (i : Int) (h0 : 0 ≤ i) (h1 : i ≤ l.length) : cutD l none (some i) = l.take i.toNat := by
  have e : i = ((i.toNat : Nat) : Int) := by omega
  unfold cutD
  rw [e, HT.sIx_nat, HT.sIx_none, Int.toNat_natCast]
  have : min i.toNat l.length = i.toNat := by omega
  rw [this]; simp
def rowL (start : Int) : List PySem.Str := (List.range 24).map fun (k : Nat) => sgn (start + 7 * (k : Int))
theorem sgn_let (i : Int) : isLet (97 + (i % 26).toNat) = true := by
  have h0 := Int.emod_nonneg i (b := 26) (by decide)
  have h1 := Int.emod_lt_of_pos i (b := 26) (by decide)
  simp only [isLet, Bool.and_eq_true, decide_eq_true_eq]; omega
theorem sgn_name (i : Int) : nameB (sgn i) = true := by simp [nameB, sgn, letB, sgn_let]
theorem row_nd : ∀ s : Fin 26, (rowL (s.val : Int)).Nodup := by decide +kernel
theorem row_ok {start : Int} (h0 : 0 ≤ start) (h1 : start < 26) : TtOk (rowL start) := by
  refine ⟨by simp [rowL], ?_, fun t ht => ?_⟩
  · have e : start = ((start.toNat : Nat) : Int) := by omega
    rw [e]
    exact row_nd ⟨start.toNat, by omega⟩
  · obtain ⟨k, _, rfl⟩ := List.mem_map.mp ht
    exact sgn_name _
theorem str_app (a b : PySem.Str) : (a ++ b).cps.toList = a.cps.toList ++ b.cps.toList := by
  show (PySem.Str.append a b).cps.toList = _
  unfold PySem.Str.append
  simp
theorem str_ext {a b : PySem.Str} (h : a.cps.toList = b.cps.toList) : a = b := by
  cases a; cases b; congr; exact Array.toList_inj.mp h
theorem size_app (a b : PySem.Str) : (a ++ b).cps.size = a.cps.size + b.cps.size := by
  rw [← Array.length_toList, str_app]; simp
theorem let_app (a b : PySem.Str) : letB (a ++ b) = (letB a && letB b) := by unfold letB; rw [str_app, List.all_append]
theorem pairwise_inj {α β : Type} (f : α → β) (hf : ∀ a b, f a = f b → a = b) {l : List α} (h : l.Nodup) : (l.map f).Nodup := by
  unfold List.Nodup at *
  rw [List.pairwise_map]
  exact h.imp fun ne e => ne (hf _ _ e)
theorem app1_ok {start : Int} (h0 : 0 ≤ start) (h1 : start < 26) (stem : PySem.Str) (hs : stem.cps.size ≤ 7) (hl : letB stem = true) : TtOk ((rowL start).map fun s => stem ++ s) := by
  have h := row_ok h0 h1
  refine ⟨by rw [List.length_map]; exact h.len, pairwise_inj _ (fun a b e => ?_) h.nd, fun t ht => ?_⟩
  · have := congrArg (fun z => z.cps.toList) e
    simp only [str_app] at this
    exact str_ext (List.append_cancel_left this)
  · obtain ⟨s, hs', rfl⟩ := List.mem_map.mp ht
    have n1 := nameB_size (h.nm s hs')
    obtain ⟨k, _, rfl⟩ := List.mem_map.mp hs'
    have z : (sgn (start + 7 * (k : Int))).cps.size = 1 := rfl
    simp only [nameB, size_app, let_app, hl, n1.2.2, z, Bool.and_true, Bool.and_eq_true, decide_eq_true_eq]; omega
theorem app2_ok {start : Int} (h0 : 0 ≤ start) (h1 : start < 26) (stem : PySem.Str) (hs : stem.cps.size ≤ 7) (hl : letB stem = true) : TtOk ((rowL start).map fun s => s ++ stem) := by
  have h := row_ok h0 h1
  refine ⟨by rw [List.length_map]; exact h.len, pairwise_inj _ (fun a b e => ?_) h.nd, fun t ht => ?_⟩
  · have := congrArg (fun z => z.cps.toList) e
    simp only [str_app] at this
    exact str_ext (List.append_cancel_right this)
  · obtain ⟨s, hs', rfl⟩ := List.mem_map.mp ht
    have n1 := nameB_size (h.nm s hs')
    obtain ⟨k, _, rfl⟩ := List.mem_map.mp hs'
    have z : (sgn (start + 7 * (k : Int))).cps.size = 1 := rfl
    simp only [nameB, size_app, let_app, hl, n1.2.2, z, Bool.and_true, Bool.and_eq_true, decide_eq_true_eq]; omega
theorem le__law_titles (ds : List Dt) (Q : Dt → Prop) (E : Xn → Prop) (h : c__law_titles ds Q E) : fnWp 10 mb__law_titles ds Q fun _ => False := by
  obtain ⟨rfl, h⟩ := h
  have sl : sizeLine = 16777216 := by decide
  simp only [fnWp_def, mb__law_titles, List.map, List.replicate, List.length_cons, List.length_nil, Nat.reduceSub, Nat.reduceAdd, List.cons_append, List.nil_append, EV, k_next]
  refine ⟨by decide, fun start s0 s1 => ⟨by decide, fun way w0 w1 => ?_⟩⟩
  by_cases hw : way = 3
  · rw [if_pos hw]
    have m0 := Int.emod_nonneg start (b := 24) (by decide)
    have m1 := Int.emod_lt_of_pos start (b := 24) (by decide)
    refine ⟨by decide, by decide, by decide, by decide, ?_, ?_⟩
    · rw [cut_from _ _ m0 (by show start % 24 ≤ 24; omega), cut_to _ _ m0 (by show start % 24 ≤ 24; omega)]
      simp only [List.length_drop, List.length_take, List.length_cons, List.length_nil]; omega
    · rw [cut_from _ _ m0 (by show start % 24 ≤ 24; omega), cut_to _ _ m0 (by show start % 24 ≤ 24; omega)]
      have := h _ (rot_ok words_ok (start % 24).toNat)
      rw [List.map_append, List.map_drop, List.map_take] at this
      exact this
  · rw [if_neg hw]
    refine ⟨by decide, k_comp1 (fun i : Nat => Dt.int (0 + (i : Nat))) (fun i : Nat => Dt.str (sgn (start + 7 * (i : Int)))) (l := List.range 24) (by simp; decide) (fun i hi K1 hk => ?_) ?_⟩
    · simp only [EV]
      refine ⟨.inl (by decide), by decide, ?_⟩
      rw [ix_let (Int.emod_nonneg _ (by decide)) (Int.emod_lt_of_pos _ (by decide))]
      have : sgn ((start + 7 * (0 + (i : Int))) % 26) = sgn (start + 7 * (i : Int)) := by unfold sgn; rw [Int.emod_emod]; simp
      rw [this]; exact hk
    · refine ⟨by decide, fun r r0 r1 => ⟨by omega, ?_⟩⟩
      refine k_for (fun i : Nat => Dt.int (0 + (i : Nat))) (l := List.range r.toNat) (fun pre ρ => ∃ stem s6, stem.cps.size = pre.length ∧ letB stem = true ∧ ρ = [.fz .drw, .fz (.str "abcdefghijklmnopqrstuvwxyz"), .fz (.int start), .fz (.int way), .fz (.lst ((rowL start).map Dt.str)), .fz (.str stem), s6, .no, .no, .no]) ⟨"", .no, rfl, rfl, ?_⟩ ?_ ?_
      · simp [rowL, Function.comp_def]
      · rintro pre i rest ρ K e ⟨stem, s6, h1, h2, rfl⟩ hK
        have hl : pre.length < 7 := by
          have := congrArg List.length e
          simp only [List.length_range, List.length_append, List.length_cons] at this; omega
        simp only [lb__law_titles_0, EV, k_next]
        refine ⟨by decide, fun c c0 c1 => ?_⟩
        rw [ix_let c0 c1]
        have hz : PySem.Str.length (sgn c) = 1 := rfl
        have hy : PySem.Str.length stem = pre.length := h1
        refine ⟨by rw [hz, hy]; omega, hK _ ⟨_, _, ?_, ?_, rfl⟩⟩
        · rw [size_app, h1, List.length_append]; rfl
        · rw [let_app, h2]; simp [letB, sgn, sgn_let]
      · rintro ρ ⟨stem, s6, h1, h2, rfl⟩
        rw [List.length_range] at h1
        simp only [EV]
        by_cases hw0 : way = 0
        · rw [if_pos hw0]; exact h _ (row_ok s0 s1)
        · rw [if_neg hw0]
          by_cases hw1 : way = 1
          · refine k_comp1 Dt.str (fun s => Dt.str (stem ++ s)) (l := rowL start) (by rw [(row_ok s0 s1).len]; omega) (fun s hs K1 hk => ?_) ?_
            · simp only [EV]
              rw [if_pos hw1]
              obtain ⟨k, _, rfl⟩ := List.mem_map.mp hs
              have hz : PySem.Str.length (sgn (start + 7 * (k : Int))) = 1 := rfl
              have hy : PySem.Str.length stem = r.toNat := h1
              exact ⟨by rw [hz, hy]; omega, hk⟩
            · have := h _ (app1_ok s0 s1 stem (by omega) h2)
              rw [List.map_map] at this; exact this
          · refine k_comp1 Dt.str (fun s => Dt.str (s ++ stem)) (l := rowL start) (by rw [(row_ok s0 s1).len]; omega) (fun s hs K1 hk => ?_) ?_
            · simp only [EV]
              rw [if_neg hw1]
              obtain ⟨k, _, rfl⟩ := List.mem_map.mp hs
              have hz : PySem.Str.length (sgn (start + 7 * (k : Int))) = 1 := rfl
              have hy : PySem.Str.length stem = r.toNat := h1
              exact ⟨by rw [hz, hy]; omega, hk⟩
            · have := h _ (app2_ok s0 s1 stem (by omega) h2)
              rw [List.map_map] at this; exact this
end Mv

namespace Mv
open PySem L2 PyProof.Rows
def lb__law_frame_0 : Dt → Env → Wp Fl := fun x ρ => Wp.bind ((aN 10) x ρ) fun ρ =>
    (Wp.fl (Wp.bind (Wp.bind (Wp.bind (gR ρ 2) fun x => Wp.bind (Wp.bind (Wp.bind (gF ρ 0) fun x => Wp.bind (Wp.bind (Wp.bind (gR ρ 8) fun x => Wp.bind (Wp.ret (Dt.int 1)) fun y => pyAdd x y) fun x => Wp.bind (Wp.ret []) fun xs => .ret (x :: xs)) fun xs => .ret (x :: xs)) c__law_next) fun y => pyIx x y) fun d => .ret (Sl.fz d)) fun x => .ret (Fl.nx (ρ.set 12 x))) fun ρ =>
    (wIf (wAnd (Wp.bind (Wp.bind (gR ρ 12) fun x => Wp.bind (Wp.bind (gR ρ 2) fun x => Wp.bind (gR ρ 8) fun y => pyIx x y) fun y => pyNe x y) asB) (wAnd (Wp.bind (Wp.bind (gR ρ 12) fun x => Wp.bind (gR ρ 9) fun y => pyNotIn x y) asB) (Wp.bind (Wp.bind (Wp.bind (Wp.bind (gR ρ 9) fun x => Wp.bind (Wp.ret []) fun xs => .ret (x :: xs)) pyLenT) fun x => Wp.bind (Wp.ret (Dt.int 6)) fun y => pyLt x y) asB))) ((Wp.bind (gL ρ 9) fun xs => Wp.bind (gF ρ 12) fun d => .gd (xs.length < sizeLine) (.ret (Fl.nx (ρ.set 9 (.ol (xs ++ [d]))))))) ((Wp.ret (Fl.nx ρ)))))
def lb__law_frame_1 : Dt → Env → Wp Fl := fun x ρ => Wp.bind ((aN 8) x ρ) fun ρ =>
    (Wp.fl (Wp.bind (Wp.bind (Wp.bind (Wp.bind (Wp.ret (Dt.int 99)) fun x => Wp.bind (Wp.bind (Wp.bind (gR ρ 7) fun x => Wp.bind (Wp.bind (Wp.bind (Wp.bind (Wp.ret (Dt.int 0)) fun x => Wp.bind (Wp.bind (Wp.ret (Dt.int 1)) fun x => Wp.bind (Wp.bind (Wp.ret (Dt.int 0)) fun x => Wp.bind (Wp.bind (Wp.ret (Dt.int 1)) fun x => Wp.bind (Wp.bind (Wp.ret (Dt.int 2)) fun x => Wp.bind (Wp.bind (Wp.ret (Dt.int 1)) fun x => Wp.bind (Wp.bind (Wp.ret (Dt.int 0)) fun x => Wp.bind (Wp.bind (Wp.ret (Dt.int 40)) fun x => Wp.bind (Wp.ret []) fun xs => .ret (x :: xs)) fun xs => .ret (x :: xs)) fun xs => .ret (x :: xs)) fun xs => .ret (x :: xs)) fun xs => .ret (x :: xs)) fun xs => .ret (x :: xs)) fun xs => .ret (x :: xs)) fun xs => .ret (x :: xs)) fun xs => .ret (Dt.lst xs)) fun x => Wp.bind (Wp.bind (Wp.bind (gF ρ 0) fun x => Wp.bind (Wp.bind (Wp.ret (Dt.int 8)) fun x => Wp.bind (Wp.ret []) fun xs => .ret (x :: xs)) fun xs => .ret (x :: xs)) c__law_next) fun y => pyIx x y) fun y => pyAdd x y) fun x => Wp.bind (Wp.ret []) fun xs => .ret (x :: xs)) fun xs => .ret (x :: xs)) pyMin) fun d => .ret (Sl.fz d)) fun x => .ret (Fl.nx (ρ.set 7 x))) fun ρ =>
    (Wp.fl (Wp.bind (Wp.bind (Wp.bind (Wp.ret []) fun xs => .ret (Nw.l xs)) fun d => .ret d.sl) fun x => .ret (Fl.nx (ρ.set 9 x))) fun ρ =>
    (Wp.fl (Wp.bind (Wp.bind (Wp.bind (Wp.bind (Wp.bind (Wp.bind (Wp.ret (Dt.int 0)) fun x => Wp.bind (Wp.bind (Wp.ret (Dt.int 1)) fun x => Wp.bind (Wp.bind (Wp.ret (Dt.int 2)) fun x => Wp.bind (Wp.bind (Wp.ret (Dt.int 1)) fun x => Wp.bind (Wp.bind (Wp.ret (Dt.int 3)) fun x => Wp.bind (Wp.bind (Wp.ret (Dt.int 2)) fun x => Wp.bind (Wp.bind (Wp.ret (Dt.int 0)) fun x => Wp.bind (Wp.bind (Wp.ret (Dt.int 9)) fun x => Wp.bind (Wp.ret []) fun xs => .ret (x :: xs)) fun xs => .ret (x :: xs)) fun xs => .ret (x :: xs)) fun xs => .ret (x :: xs)) fun xs => .ret (x :: xs)) fun xs => .ret (x :: xs)) fun xs => .ret (x :: xs)) fun xs => .ret (x :: xs)) fun xs => .ret (Dt.lst xs)) fun x => Wp.bind (Wp.bind (Wp.bind (gF ρ 0) fun x => Wp.bind (Wp.bind (Wp.ret (Dt.int 8)) fun x => Wp.bind (Wp.ret []) fun xs => .ret (x :: xs)) fun xs => .ret (x :: xs)) c__law_next) fun y => pyIx x y) fun x => Wp.bind (Wp.ret []) fun xs => .ret (x :: xs)) itR1) fun xs => forL lb__law_frame_0 xs ρ) fun ρ =>
    (Wp.fl (Wp.bind (Wp.bind (Wp.bind (Wp.bind (gR ρ 6) fun x => Wp.bind (Wp.bind (Wp.ret (Dt.int 5)) fun x => Wp.bind (gR ρ 8) fun y => pyMul x y) fun y => pyAdd x y) fun x => Wp.bind (Wp.bind (Wp.bind (gF ρ 0) fun x => Wp.bind (Wp.bind (Wp.ret (Dt.int 2)) fun x => Wp.bind (Wp.ret []) fun xs => .ret (x :: xs)) fun xs => .ret (x :: xs)) c__law_next) fun y => pyAdd x y) fun d => .ret (Sl.fz d)) fun x => .ret (Fl.nx (ρ.set 11 x))) fun ρ =>
    (Wp.fl (wIf (Wp.bind (Wp.bind (gR ρ 5) fun x => Wp.bind (Wp.ret (Dt.int 26)) fun y => pyLt x y) asB) ((Wp.bind (Wp.bind (Wp.bind (gR ρ 6) fun x => Wp.bind (Wp.bind (Wp.ret (Dt.int 5)) fun x => Wp.bind (Wp.bind (Wp.bind (gF ρ 0) fun x => Wp.bind (Wp.bind (gF ρ 5) fun x => Wp.bind (Wp.ret []) fun xs => .ret (x :: xs)) fun xs => .ret (x :: xs)) c__law_next) fun y => pyMul x y) fun y => pyAdd x y) fun d => .ret (Sl.fz d)) fun x => .ret (Fl.nx (ρ.set 11 x)))) ((Wp.ret (Fl.nx ρ)))) fun ρ =>
    (Wp.bind (gL ρ 4) fun xs => Wp.bind (Wp.bind (Wp.bind (Wp.bind (gR ρ 2) fun x => Wp.bind (gR ρ 8) fun y => pyIx x y) fun x => Wp.bind (Wp.bind (gF ρ 7) fun x => Wp.bind (Wp.bind (Wp.bind (Wp.bind (gR ρ 9) fun x => Wp.bind (Wp.ret []) fun xs => .ret (x :: xs)) pyTuple) fun x => Wp.bind (Wp.bind (Wp.bind (Wp.bind (gF ρ 11) fun x => Wp.bind (Wp.ret []) fun xs => .ret (x :: xs)) c__law_sign) fun x => Wp.bind (Wp.bind (Wp.ret (Dt.str "")) fun x => Wp.bind (Wp.ret []) fun xs => .ret (x :: xs)) fun xs => .ret (x :: xs)) fun xs => .ret (x :: xs)) fun xs => .ret (x :: xs)) fun xs => .ret (x :: xs)) fun xs => .ret (Dt.tup xs)) fun d => .gd (xs.length < sizeLine) (.ret (Fl.nx (ρ.set 4 (.ol (xs ++ [d])))))))))))
def mb__law_frame : Env → Wp Fl := fun ρ =>
    (Wp.fl (Wp.bind (Wp.bind (Wp.bind (Wp.bind (gF ρ 0) fun x => Wp.bind (Wp.ret []) fun xs => .ret (x :: xs)) c__law_titles) fun d => .ret (Sl.fz d)) fun u => Wp.bind (Wp.bind (Wp.bind (Wp.ret (Dt.int 1)) fun x => Wp.bind (Wp.bind (Wp.bind (gF ρ 0) fun x => Wp.bind (Wp.bind (gF ρ 1) fun x => Wp.bind (Wp.ret []) fun xs => .ret (x :: xs)) fun xs => .ret (x :: xs)) c__law_next) fun y => pyAdd x y) fun d => .ret (Sl.fz d)) fun v => Wp.bind (Wp.bind (Wp.bind (Wp.ret []) fun xs => .ret (Nw.l xs)) fun d => .ret d.sl) fun w => .ret (Fl.nx (((ρ.set 2 u).set 3 v).set 4 w))) fun ρ =>
    (Wp.fl (Wp.bind (Wp.bind (Wp.bind (Wp.bind (Wp.bind (Wp.ret (Dt.int 2)) fun x => Wp.bind (Wp.bind (Wp.ret (Dt.int 4)) fun x => Wp.bind (Wp.bind (Wp.ret (Dt.int 26)) fun x => Wp.bind (Wp.ret []) fun xs => .ret (x :: xs)) fun xs => .ret (x :: xs)) fun xs => .ret (x :: xs)) fun xs => .ret (Dt.lst xs)) fun x => Wp.bind (Wp.bind (Wp.bind (gF ρ 0) fun x => Wp.bind (Wp.bind (Wp.ret (Dt.int 3)) fun x => Wp.bind (Wp.ret []) fun xs => .ret (x :: xs)) fun xs => .ret (x :: xs)) c__law_next) fun y => pyIx x y) fun d => .ret (Sl.fz d)) fun u => Wp.bind (Wp.bind (Wp.bind (Wp.bind (gF ρ 0) fun x => Wp.bind (Wp.bind (Wp.ret (Dt.int 26)) fun x => Wp.bind (Wp.ret []) fun xs => .ret (x :: xs)) fun xs => .ret (x :: xs)) c__law_next) fun d => .ret (Sl.fz d)) fun v => Wp.bind (Wp.bind (Wp.ret (Dt.int 1)) fun d => .ret (Sl.fz d)) fun w => .ret (Fl.nx (((ρ.set 5 u).set 6 v).set 7 w))) fun ρ =>
    (Wp.fl (Wp.bind (Wp.bind (Wp.bind (gF ρ 3) fun x => Wp.bind (Wp.ret []) fun xs => .ret (x :: xs)) itR1) fun xs => forL lb__law_frame_1 xs ρ) fun ρ =>
    ((fun ρ => (Wp.bind (gF ρ 4) fun d => .ret (Fl.rt d))) (fzS 4 ρ)))))
/-- a frame: a layout whose marks are empty -/
def c__law_frame (ds : List Dt) : Wp Dt := fun Q _ => ∃ most : Int, ds = [.drw, .int most] ∧ 1 ≤ most ∧ most ≤ 24 ∧ ∀ L : List Kd, LayOk L → L.length ≤ most → (∀ k ∈ L, k.mr = "") → Q (.lst (L.map Kd.d))
def lastEd : Int → List Kd → Int
  | e, [] => e
  | _, k :: r => lastEd k.ed r
theorem LayAt.snoc : ∀ {L : List Kd} {seen : List PySem.Str} {e : Int} {k : Kd}, LayAt seen e L → KdOk k → k.nm ∉ seen ++ L.map Kd.nm → lastEd e L ≤ k.ed → (∀ b ∈ k.bs, b ∈ seen ++ L.map Kd.nm) → LayAt seen e (L ++ [k])
  | [], seen, e, k, _, hk, hn, he, hb => by
    simp only [List.map_nil, List.append_nil] at hn hb
    exact ⟨hk, hn, he, hb, trivial⟩
  | j :: L, seen, e, k, h, hk, hn, he, hb => by
    obtain ⟨h1, h2, h3, h4, h5⟩ := h
    exact ⟨h1, h2, h3, h4, LayAt.snoc h5 hk (by simpa using hn) he (by simpa using hb)⟩
theorem lastEd_snoc : ∀ (L : List Kd) (e : Int) (k : Kd), lastEd e (L ++ [k]) = k.ed
  | [], _, _ => rfl
  | j :: L, e, k => lastEd_snoc L j.ed k
theorem mem_take_at {α : Type} (l : List α) (n : Nat) (x : α) : x ∈ l.take n ↔ ∃ j, j < n ∧ l[j]? = some x := by
  rw [List.mem_iff_getElem?]
  constructor
  · rintro ⟨j, h⟩
    rw [List.getElem?_take] at h
    split at h
    · exact ⟨j, by assumption, h⟩
    · cases h
  · rintro ⟨j, hj, h⟩
    exact ⟨j, by rw [List.getElem?_take, if_pos hj]; exact h⟩
theorem mark0 : markB "" = true := by decide +kernel
theorem sgn_mark (i : Int) : markB (sgn i) = true := by
  have : (sgn i).cps.toList = [97 + (i % 26).toNat] := rfl
  simp [markB, ascB, letB, this, sgn_let]
theorem le__law_frame (ds : List Dt) (Q : Dt → Prop) (E : Xn → Prop) (h : c__law_frame ds Q E) : fnWp 13 mb__law_frame ds Q fun _ => False := by
  obtain ⟨most, rfl, m1, m2, h⟩ := h
  have sl : sizeLine = 16777216 := by decide
  simp only [fnWp_def, mb__law_frame, List.map, List.replicate, List.length_cons, List.length_nil, Nat.reduceSub, Nat.reduceAdd, List.cons_append, List.nil_append, EV, k_next]
  refine ⟨rfl, fun ts ht => ⟨by omega, fun many a0 a1 => ⟨by decide, fun po p0 p1 => at_all p0 p1 fun pl hpl => ⟨by decide, fun start s0 s1 => ⟨by omega, ?_⟩⟩⟩⟩⟩
  have tl := ht.len
  obtain ⟨pool, rfl, hp0, hp1⟩ : ∃ pool : Int, pl = .int pool ∧ 0 < pool ∧ pool < 100 := by
    simp only [List.mem_cons, List.not_mem_nil, or_false] at hpl
    rcases hpl with rfl | rfl | rfl
    · exact ⟨_, rfl, by decide, by decide⟩
    · exact ⟨_, rfl, by decide, by decide⟩
    · exact ⟨_, rfl, by decide, by decide⟩
  refine k_for (fun i : Nat => Dt.int (0 + (i : Nat))) (l := List.range (1 + many).toNat) (fun pre ρ => ∃ L ed s8 s9 s10 s11 s12, LayAt [] 1 L ∧ L.map Kd.nm = ts.take pre.length ∧ lastEd 1 L = ed ∧ 1 ≤ ed ∧ ed ≤ 99 ∧ (∀ k ∈ L, k.mr = "") ∧
    ρ = [.fz .drw, .fz (.int most), .fz (.lst (ts.map Dt.str)), .fz (.int (1 + many)), .ol (L.map Kd.d), .fz (.int pool), .fz (.int start), .fz (.int ed), s8, s9, s10, s11, s12]) ⟨[], 1, .no, .no, .no, .no, .no, trivial, by simp, rfl, by decide, by decide, by simp, rfl⟩ ?_ ?_
  · rintro pre i rest ρ K e ⟨L, ed, s8, s9, s10, s11, s12, hL, hn, hed, e1, e2, hm, rfl⟩ hK
    have hi : i = pre.length := by
      have := congrArg (fun l => l[pre.length]?) e
      simp only [List.getElem?_append_right (Nat.le_refl _), Nat.sub_self, List.getElem?_cons_zero] at this
      rw [List.getElem?_eq_some_iff] at this
      obtain ⟨_, z⟩ := this
      simpa using z.symm
    have hlt : i < (1 + many).toNat := by
      have := congrArg List.length e
      simp only [List.length_range, List.length_append, List.length_cons] at this; omega
    have hLl : L.length = i := by
      have := congrArg List.length hn
      rw [List.length_map, List.length_take] at this; omega
    simp only [lb__law_frame_1, EV, k_next]
    refine ⟨by decide, fun r r0 r1 => at_all r0 r1 fun x hx => ?_⟩
    obtain ⟨dx, rfl, hx0, hx1⟩ : ∃ dx : Int, x = .int dx ∧ 0 ≤ dx ∧ dx < 100 := by
      simp only [List.mem_cons, List.not_mem_nil, or_false] at hx
      rcases hx with rfl | rfl | rfl | rfl | rfl | rfl | rfl | rfl <;> exact ⟨_, rfl, by decide, by decide⟩
    simp only [EV, k_next]
    generalize hE : (if ed + dx < 99 then ed + dx else 99) = ed'
    have hed1 : ed ≤ ed' := by rw [← hE]; split <;> omega
    have hed2 : ed' ≤ 99 := by rw [← hE]; split <;> omega
    refine ⟨by decide, fun c c0 c1 => at_all c0 c1 fun y hy => ?_⟩
    obtain ⟨tn, rfl, ht0, ht1⟩ : ∃ dx : Int, y = .int dx ∧ 0 ≤ dx ∧ dx < 100 := by
      simp only [List.mem_cons, List.not_mem_nil, or_false] at hy
      rcases hy with rfl | rfl | rfl | rfl | rfl | rfl | rfl | rfl <;> exact ⟨_, rfl, by decide, by decide⟩
    simp only [EV, k_next]
    refine ⟨by omega, ?_⟩
    obtain ⟨ti, hti⟩ : ∃ t, ts[i]? = some t := ⟨_, List.getElem?_eq_getElem (by omega)⟩
    have ixk : ∀ (Q : Dt → Prop) (E : Xn → Prop), ofO (L2.atI (ts.map Dt.str) (0 + (i : Int))) Q E = Q (.str ti) := by
      intro Q E
      rw [atI_nat _ _ (by omega) (by rw [List.length_map]; omega), List.getElem?_map, show (0 + (i : Int)).toNat = i by omega, hti]; rfl
    refine k_for (fun i : Nat => Dt.int (0 + (i : Nat))) (l := List.range tn.toNat) (fun pre ρ => ∃ bs s10 s12, bs.length ≤ 6 ∧ bs.Nodup ∧ (∀ b ∈ bs, b ∈ ts.take i) ∧
      ρ = [.fz .drw, .fz (.int most), .fz (.lst (ts.map Dt.str)), .fz (.int (1 + many)), .ol (L.map Kd.d), .fz (.int pool), .fz (.int start), .fz (.int ed'), .fz (.int (0 + (i : Nat))), .ol (bs.map Dt.str), s10, s11, s12]) ⟨[], s10, s12, by simp, by simp, by simp, rfl⟩ ?_ ?_
    · rintro pre2 i2 rest2 ρ K2 e2' ⟨bs, s10', s12', b1, b2, b3, rfl⟩ hK2
      simp only [lb__law_frame_0, EV, k_next]
      refine ⟨by omega, fun b q0 q1 => at_map q0 (by omega) fun t htt => ?_⟩
      simp only [EV, ixk, List.length_map]
      by_cases h1 : t = ti
      · rw [if_pos h1]
        exact hK2 _ ⟨bs, _, _, b1, b2, b3, rfl⟩
      · rw [if_neg h1]
        by_cases h2 : t ∈ bs
        · rw [if_pos h2]
          exact hK2 _ ⟨bs, _, _, b1, b2, b3, rfl⟩
        · rw [if_neg h2]
          by_cases h3 : ((bs.length : Nat) : Int) < 6
          · rw [if_pos h3]
            refine ⟨by omega, hK2 _ ⟨bs ++ [t], _, _, by simp; omega, ?_, ?_, by rw [List.map_append]; rfl⟩⟩
            · rw [List.nodup_append]
              exact ⟨b2, by simp, fun x hx y hy => by rw [List.mem_singleton] at hy; subst hy; exact fun z => h2 (z ▸ hx)⟩
            · intro z hz
              rcases List.mem_append.mp hz with hz | hz
              · exact b3 z hz
              · rw [List.mem_singleton] at hz; subst hz
                have hne : b.toNat ≠ i := fun z => by
                  rw [z, hti] at htt
                  exact h1 (Option.some.inj htt).symm
                exact (mem_take_at _ _ _).mpr ⟨b.toNat, by omega, htt⟩
          · rw [if_neg h3]
            exact hK2 _ ⟨bs, _, _, b1, b2, b3, rfl⟩
    · rintro ρ ⟨bs, s10', s12', b1, b2, b3, rfl⟩
      simp only [EV, k_next]
      refine ⟨.inl (by decide), by decide, fun a a0' a1' => ?_⟩
      have hnew : ti ∉ L.map Kd.nm := fun z => by
        rw [hn, ← hi, mem_take_at] at z
        obtain ⟨j, hj, hjt⟩ := z
        have := (List.getElem?_inj (by omega) ht.nd).mp (hjt.trans hti.symm)
        omega
      have ok : ∀ at' : Int, KdOk ⟨ti, ed', bs, sgn at', ""⟩ := fun at' => ⟨ht.nm ti (List.mem_of_getElem? hti), by show 1 ≤ ed'; omega, hed2, b1, fun b hb => ht.nm b (List.mem_of_mem_take (b3 b hb)), b2, sgn_mark at', rfl, mark0⟩
      have done : ∀ (at' : Int) (q10 q11 q12 : Sl), (L.map Kd.d).length < sizeLine ∧ K [.fz .drw, .fz (.int most), .fz (.lst (ts.map Dt.str)), .fz (.int (1 + many)), .ol (L.map Kd.d ++ [Dt.tup [.str ti, .int ed', .tup (bs.map Dt.str), .str (sgn at'), .str ""]]), .fz (.int pool), .fz (.int start), .fz (.int ed'), .fz (.int (0 + (i : Nat))), .ol (bs.map Dt.str), q10, q11, q12] := fun at' q10 q11 q12 => by
        refine ⟨by rw [List.length_map]; omega, hK _ ⟨L ++ [⟨ti, ed', bs, sgn at', ""⟩], ed', _, _, q10, q11, q12, hL.snoc (ok at') (by simpa using hnew) (by rw [hed]; exact hed1) (fun b hb => ?_), ?_, lastEd_snoc _ _ _, by omega, hed2, fun k hk => ?_, by rw [List.map_append]; rfl⟩⟩
        · have := b3 b hb
          rw [List.nil_append, hn, ← hi]; exact this
        · rw [List.map_append, hn, List.length_append, ← hi]
          simp only [List.map_cons, List.map_nil, List.length_cons, List.length_nil]
          rw [List.take_add_one, hti]; rfl
        · rcases List.mem_append.mp hk with hk | hk
          · exact hm k hk
          · rw [List.mem_singleton] at hk; subst hk; rfl
      by_cases hpo : pool < 26
      · rw [if_pos hpo]
        refine ⟨by omega, fun r _ _ => ⟨.inl (by decide), ?_⟩⟩
        rw [ixk, k_sign]; exact done _ _ _ _
      · rw [if_neg hpo, ixk, k_sign]; exact done _ _ _ _
  · rintro ρ ⟨L, ed, s8, s9, s10, s11, s12, hL, hn, hed, e1, e2, hm, rfl⟩
    simp only [EV]
    have ll := congrArg List.length hn
    rw [List.length_map, List.length_take, List.length_range] at ll
    exact h L ⟨by omega, by omega, hL⟩ (by omega) hm
end Mv

namespace Mv
open PySem L2 PyProof.Rows
def lb__law_under_0 : Dt → Env → Wp Fl := fun x ρ => Wp.bind ((aN 8) x ρ) fun ρ =>
    (Wp.bind (Wp.bind (Wp.bind (Wp.bind (gR ρ 7) fun x => Wp.bind (Wp.bind (gR ρ 1) fun x => Wp.bind (gR ρ 8) fun y => pyIx x y) fun y => pyAdd x y) fun x => Wp.bind (Wp.bind (Wp.bind (gF ρ 8) fun x => Wp.bind (Wp.ret []) fun xs => .ret (x :: xs)) fun xs => .ret (Dt.lst xs)) fun y => pyAdd x y) fun d => .ret (Sl.fz d)) fun x => .ret (Fl.nx (ρ.set 7 x)))
def lb__law_under_1 : Dt → Env → Wp Fl := fun x ρ => Wp.bind ((aTup (aCons (aN 2) (aCons (aN 3) (aCons (aN 4) (aCons (aN 5) (aCons (aN 6) aNil)))))) x ρ) fun ρ =>
    (Wp.fl (Wp.bind (Wp.bind (Wp.bind (Wp.ret []) fun xs => .ret (Dt.lst xs)) fun d => .ret (Sl.fz d)) fun x => .ret (Fl.nx (ρ.set 7 x))) fun ρ =>
    (Wp.fl (Wp.bind (Wp.bind (gF ρ 4) itA) fun xs => forL lb__law_under_0 xs ρ) fun ρ =>
    (Wp.bind (Wp.bind (Wp.bind (Wp.bind (gF ρ 0) itA) fun xs => Wp.bind (Wp.calm (compL (fun ρ => (Wp.bind (Wp.bind (Wp.bind (gR ρ 9) fun x => Wp.bind (Wp.ret (Dt.int 0)) fun y => pyIx x y) fun x => Wp.bind (gR ρ 7) fun y => pyIn x y) asB)) (fun ρ => (Wp.bind (gR ρ 9) fun x => Wp.bind (Wp.ret (Dt.int 0)) fun y => pyIx x y)) (aN 9) (wipeE ρ [9]) xs [])) fun ys => .ret (Nw.l ys)) fun n => .ret n.dt) fun d => Wp.bind (gD ρ 1) fun kvs => Wp.bind (gF ρ 2) fun k => Wp.bind (ofO (keyD k)) fun k => .gd (kvs.length < sizeLine) (.ret (Fl.nx (ρ.set 1 (.od (putD kvs k d))))))))
def mb__law_under : Env → Wp Fl := fun ρ =>
    (Wp.fl (Wp.bind (Wp.bind (Wp.ret (Nw.d [])) fun d => .ret d.sl) fun x => .ret (Fl.nx (ρ.set 1 x))) fun ρ =>
    (Wp.fl (Wp.bind (Wp.bind (gF ρ 0) itA) fun xs => forL lb__law_under_1 xs ρ) fun ρ =>
    ((fun ρ => (Wp.bind (gF ρ 1) fun d => .ret (Fl.rt d))) (fzS 1 ρ))))
def mb__law_word : Env → Wp Fl := fun ρ =>
    (Wp.bind (Wp.bind (Wp.bind (Wp.ret (Dt.str "")) asS) fun a => Wp.bind (Wp.bind (Wp.bind (Wp.bind (Wp.bind (Wp.ret (Dt.int 26)) fun x => Wp.bind (Wp.ret []) fun xs => .ret (x :: xs)) itR1) fun xs => Wp.bind (Wp.calm (compL (fun ρ => (Wp.bind (Wp.bind (Wp.bind (Wp.bind (gF ρ 1) fun x => Wp.bind (Wp.ret []) fun xs => .ret (x :: xs)) c__law_sign) fun x => Wp.bind (gR ρ 0) fun y => pyIn x y) asB)) (fun ρ => (Wp.bind (Wp.bind (gF ρ 1) fun x => Wp.bind (Wp.ret []) fun xs => .ret (x :: xs)) c__law_sign)) (aN 1) (wipeE ρ [1]) xs [])) fun ys => .ret (Nw.l ys)) fun n => .ret n.dt) fun x => pyJoin a x) fun d => .ret (Fl.rt d))
theorem putD_new {kvs : List (Key × Dt)} {k : Key} {d : Dt} (h : ∀ kv ∈ kvs, kv.1 ≠ k) : putD kvs k d = kvs ++ [(k, d)] := by
  unfold putD
  rw [if_neg]
  intro z
  obtain ⟨kv, h1, h2⟩ := List.any_eq_true.mp z
  exact h kv h1 (of_decide_eq_true h2)
def lstT (l : List PySem.Str) : Dt := .lst (l.map Dt.str)
def mapT {α : Type} (f : α → Dt) (T : List (PySem.Str × α)) : List (Key × Dt) := T.map fun r => (Sum.inr r.1, f r.2)
theorem look_mapT {α : Type} (f : α → Dt) (T : List (PySem.Str × α)) (x : PySem.Str) : lookD (mapT f T) (.inr x) = (T.lookup x).map f := by
  induction T with
  | nil => rfl
  | cons r T ih =>
    obtain ⟨y, a⟩ := r
    unfold lookD mapT at *
    by_cases e : y = x
    · subst e; simp [List.lookup]
    · have e1 : (x == y) = false := by simpa using Ne.symm e
      simp only [List.map_cons, List.find?_cons]
      have e2 : decide ((Sum.inr y : Key) = Sum.inr x) = false := by simpa using e
      simp only [e2, List.lookup, e1]
      exact ih
theorem put_mapT {α : Type} (f : α → Dt) (T : List (PySem.Str × α)) (x : PySem.Str) (a : α) (h : x ∉ T.map (·.1)) : putD (mapT f T) (.inr x) (f a) = mapT f (T ++ [(x, a)]) := by
  rw [putD_new]
  · simp [mapT]
  · intro kv hkv
    obtain ⟨r, hr, rfl⟩ := List.mem_map.mp hkv
    intro z
    have : r.1 = x := by simpa using z
    exact h (this ▸ List.mem_map_of_mem hr)
theorem lookup_some_of_mem {α : Type} {T : List (PySem.Str × α)} {x : PySem.Str} (h : x ∈ T.map (·.1)) : ∃ a, T.lookup x = some a := by
  induction T with
  | nil => simp at h
  | cons r T ih =>
    obtain ⟨y, a⟩ := r
    by_cases e : x = y
    · subst e; exact ⟨a, by simp [List.lookup]⟩
    · have e1 : (x == y) = false := by simpa using e
      simp only [List.map_cons, List.mem_cons, e, false_or] at h
      obtain ⟨b, hb⟩ := ih h
      exact ⟨b, by simp [List.lookup, e1, hb]⟩
theorem stepU_keys (ns : List PySem.Str) : ∀ (L : List Kd) (T : Tab), (L.foldl (stepU ns) T).map (·.1) = T.map (·.1) ++ L.map Kd.nm
  | [], T => by simp
  | k :: L, T => by rw [List.foldl_cons, stepU_keys ns L]; simp [stepU]
theorem stepU_len (ns : List PySem.Str) : ∀ (L : List Kd) (T : Tab), (∀ r ∈ T, r.2.length ≤ ns.length) → ∀ r ∈ L.foldl (stepU ns) T, r.2.length ≤ ns.length
  | [], T, h => h
  | k :: L, T, h => stepU_len ns L _ fun r hr => by
    rcases List.mem_append.mp hr with hr | hr
    · exact h r hr
    · rw [List.mem_singleton] at hr; subst hr; exact List.length_filter_le _ _
theorem lookup_mem {α : Type} : ∀ {T : List (PySem.Str × α)} {x : PySem.Str} {a : α}, T.lookup x = some a → (x, a) ∈ T
  | [], x, a, h => by simp at h
  | (y, b) :: T, x, a, h => by
    by_cases e : x = y
    · subst e; simp [List.lookup] at h; subst h; simp
    · have e1 : (x == y) = false := by simpa using e
      simp only [List.lookup, e1] at h
      exact List.mem_cons_of_mem _ (lookup_mem h)
/-- a plan: the kinds as a list or as a tuple -/
inductive IsPlan : Dt → List Kd → Prop
  | l (L : List Kd) : IsPlan (.lst (L.map Kd.d)) L
  | t (L : List Kd) : IsPlan (layD L) L
theorem IsPlan.it {d : Dt} {L : List Kd} (h : IsPlan d L) (Q : List Dt → Prop) (E : Xn → Prop) : itA d Q E = Q (L.map Kd.d) := by cases h <;> rfl
def lawU (L : List Kd) : Dt := .dct (mapT lstT (unders L))
def c__law_under (ds : List Dt) : Wp Dt := fun Q _ => ∃ d L, ds = [d] ∧ IsPlan d L ∧ LayOk L ∧ Q (lawU L)
theorem LayAt.cut : ∀ {pre rest : List Kd} {k : Kd} {seen : List PySem.Str} {e : Int}, LayAt seen e (pre ++ k :: rest) → KdOk k ∧ k.nm ∉ seen ++ pre.map Kd.nm ∧ (∀ b ∈ k.bs, b ∈ seen ++ pre.map Kd.nm)
  | [], rest, k, seen, e, h => by simpa using ⟨h.1, h.2.1, h.2.2.2.1⟩
  | j :: pre, rest, k, seen, e, h => by
    have := LayAt.cut (pre := pre) (k := k) h.2.2.2.2
    simpa using this
theorem le__law_under (ds : List Dt) (Q : Dt → Prop) (E : Xn → Prop) (h : c__law_under ds Q E) : fnWp 10 mb__law_under ds Q fun _ => False := by
  obtain ⟨d, L, rfl, hp, ok, h⟩ := h
  have sl : sizeLine = 16777216 := by decide
  have l2 := ok.l2
  simp only [fnWp_def, mb__law_under, List.map, List.replicate, List.length_cons, List.length_nil, Nat.reduceSub, Nat.reduceAdd, List.cons_append, List.nil_append, EV, hp.it]
  refine k_for Kd.d (l := L) (fun pre ρ => ∃ s2 s3 s4 s5 s6 s7 s8 s9, ρ = [.fz d, .od (mapT lstT (pre.foldl (stepU (L.map Kd.nm)) [])), s2, s3, s4, s5, s6, s7, s8, s9]) ⟨_, _, _, _, _, _, _, _, rfl⟩ ?_ ?_
  · rintro pre k rest ρ K e ⟨s2, s3, s4, s5, s6, s7, s8, s9, rfl⟩ hK
    generalize hT : pre.foldl (stepU (L.map Kd.nm)) [] = T
    have hk := stepU_keys (L.map Kd.nm) pre []
    have hl := stepU_len (L.map Kd.nm) pre [] (by simp)
    rw [hT] at hk hl
    simp only [List.map_nil, List.nil_append] at hk
    have cut := LayAt.cut (pre := pre) (rest := rest) (k := k) (e ▸ ok.at_)
    simp only [List.nil_append] at cut
    have hrow : ∀ b ∈ k.bs, ∃ l, T.lookup b = some l ∧ rowT T b = l ∧ l.length ≤ 24 := fun b hb => by
      obtain ⟨l, hl'⟩ := lookup_some_of_mem (T := T) (by rw [hk]; exact cut.2.2 b hb)
      exact ⟨l, hl', by simp [rowT, hl'], Nat.le_trans (by simpa using hl _ (lookup_mem hl')) l2⟩
    simp only [lb__law_under_1, EV]
    refine k_for Dt.str (l := k.bs) (fun pre2 ρ => ∃ own s8, own.length ≤ 25 * pre2.length ∧ (∀ o, o ∈ own ↔ o ∈ pre2 ∨ ∃ b ∈ pre2, o ∈ rowT T b) ∧ ρ = [.fz d, .od (mapT lstT T), .fz (.str k.nm), .fz (.int k.ed), .fz (.tup (k.bs.map Dt.str)), .fz (.str k.lt), .fz (.str k.mr), .fz (lstT own), s8, s9]) ⟨[], s8, by simp, by simp, rfl⟩ ?_ ?_
    · rintro pre2 b rest2 ρ K2 e2 ⟨own, s8', o1, o2, rfl⟩ hK2
      have hbm : b ∈ k.bs := by rw [e2]; simp
      obtain ⟨l, h1, h2, h3⟩ := hrow b hbm
      have hb6 : pre2.length < 6 := by
        have := congrArg List.length e2
        have := cut.1.bl
        simp only [List.length_append, List.length_cons] at *; omega
      simp only [lb__law_under_0, EV, look_mapT, h1, Option.map_some, lstT, List.length_map, List.length_append, List.length_cons, List.length_nil]
      refine ⟨by omega, by omega, hK2 _ ⟨own ++ l ++ [b], _, ?_, ?_, by simp only [lstT, List.map_append]; rfl⟩⟩
      · simp only [List.length_append, List.length_cons, List.length_nil]; omega
      · intro o
        simp only [List.mem_append, List.mem_singleton, o2]
        subst h2
        grind
    · rintro ρ ⟨own, s8', o1, o2, rfl⟩
      simp only [EV, hp.it]
      refine k_comp Kd.d (fun j => decide (j.nm ∈ own)) (fun j => Dt.str j.nm) (l := L) (by simp; omega) (fun j hj K1 K0 t1 t0 => ?_) ?_
      · simp only [EV, lstT]
        by_cases hm : j.nm ∈ own
        · rw [if_pos hm]; exact t1 (by simpa using hm)
        · rw [if_neg hm]; exact t0 (by simpa using hm)
      · have hlen : T.length = pre.length := by
          have := congrArg List.length hk
          simpa using this
        have hpl : pre.length < 24 := by
          have := congrArg List.length e
          simp only [List.length_append, List.length_cons] at this; omega
        have hput := put_mapT lstT T k.nm ((L.map Kd.nm).filter fun o => decide (o ∈ ownOf T k.bs)) (by rw [hk]; exact cut.2.1)
        have hv : Dt.lst ([] ++ (L.filter fun j => decide (j.nm ∈ own)).map fun j => Dt.str j.nm) = lstT ((L.map Kd.nm).filter fun o => decide (o ∈ ownOf T k.bs)) := by
          unfold lstT
          rw [List.nil_append, List.filter_map, List.map_map]
          congr 2
          · apply List.filter_congr
            intro j hj
            simp only [Function.comp_apply, decide_eq_decide, o2, mem_ownOf]
        rw [hv, hput]
        refine ⟨by simp only [mapT, List.length_map]; omega, hK _ ?_⟩
        rw [List.foldl_append, hT]
        exact ⟨_, _, _, _, _, _, _, _, rfl⟩
  · rintro ρ ⟨s2, s3, s4, s5, s6, s7, s8, s9, rfl⟩
    simp only [EV]
    exact h
/-- those of the letters that are in a list, as a mark -/
def wordOf (l : List PySem.Str) : PySem.Str := ⟨(((List.range 26).filter fun k => decide (sgn (k : Nat) ∈ l)).map fun k => 97 + k).toArray⟩
theorem wordOf_ok (l : List PySem.Str) : markB (wordOf l) = true := by
  have e : (wordOf l).cps.toList = ((List.range 26).filter fun k => decide (sgn (k : Nat) ∈ l)).map fun k => 97 + k := rfl
  simp only [markB, Bool.and_eq_true, letB, ascB, decide_eq_true_eq, List.all_eq_true, e]
  refine ⟨fun c hc => ?_, ?_⟩
  · obtain ⟨k, hk, rfl⟩ := List.mem_map.mp hc
    have := List.mem_range.mp (List.mem_filter.mp hk).1
    simp only [isLet, Bool.and_eq_true, decide_eq_true_eq]; omega
  · rw [List.pairwise_map]
    refine (List.Pairwise.filter _ List.pairwise_lt_range).imp fun h => by omega
def c__law_word (ds : List Dt) : Wp Dt := fun Q _ => ∃ l : List PySem.Str, ds = [.lst (l.map Dt.str)] ∧ Q (.str (wordOf l))
theorem sum_le_len {α : Type} (f : α → Nat) (n : Nat) : ∀ l : List α, (∀ a ∈ l, f a ≤ n) → (l.map f).sum ≤ n * l.length
  | [], _ => by simp
  | a :: l, h => by
    have h1 := h a (by simp)
    have h2 := sum_le_len f n l fun b hb => h b (by simp [hb])
    simp only [List.map_cons, List.sum_cons, List.length_cons, Nat.mul_add, Nat.mul_one]; omega
theorem le__law_word (ds : List Dt) (Q : Dt → Prop) (E : Xn → Prop) (h : c__law_word ds Q E) : fnWp 2 mb__law_word ds Q fun _ => False := by
  obtain ⟨l, rfl, h⟩ := h
  have sl : sizeLine = 16777216 := by decide
  simp only [fnWp_def, mb__law_word, List.map_cons, List.map_nil, List.replicate, List.length_cons, List.length_nil, Nat.reduceSub, Nat.reduceAdd, List.cons_append, List.nil_append, EV]
  refine ⟨by decide, k_comp (fun i : Nat => Dt.int (0 + (i : Nat))) (fun i => decide (sgn (i : Nat) ∈ l)) (fun i => Dt.str (sgn (i : Nat))) (l := List.range 26) (by simp; decide) (fun i hi K1 K0 t1 t0 => ?_) ?_⟩
  · simp only [EV, k_sign, Int.zero_add]
    by_cases hm : sgn (i : Nat) ∈ l
    · rw [if_pos hm]; exact t1 (by simpa using hm)
    · rw [if_neg hm]; exact t0 (by simpa using hm)
  · generalize hF : (List.range 26).filter (fun i => decide (sgn (i : Nat) ∈ l)) = F
    have hlen : F.length ≤ 26 := by rw [← hF]; exact Nat.le_trans (List.length_filter_le _ _) (by simp)
    have hlt : ∀ k ∈ F, k < 26 := fun k hk => by rw [← hF] at hk; exact List.mem_range.mp (List.mem_filter.mp hk).1
    have e : [] ++ F.map (fun i => Dt.str (sgn (i : Nat))) = (F.map fun i => sgn (i : Nat)).map Dt.str := by simp
    rw [e, k_joinL]
    refine ⟨?_, ?_⟩
    · have := sum_le_len (fun x : PySem.Str => x.length) 1 (F.map fun i => sgn (i : Nat)) (fun a ha => by
        obtain ⟨k, _, rfl⟩ := List.mem_map.mp ha; exact Nat.le_refl 1)
      have z : PySem.Str.length "" = 0 := by decide +kernel
      rw [z]; simp only [List.length_map] at this ⊢; omega
    · have : PySem.Str.join "" (F.map fun i => sgn (i : Nat)) = wordOf l := by
        apply str_ext
        rw [join_nil]
        unfold wordOf
        rw [hF, List.map_map]
        clear hF hlen e h
        induction F with
        | nil => rfl
        | cons k F ih =>
          have h1 := hlt k (by simp)
          have ih := ih fun j hj => hlt j (by simp [hj])
          simp only [List.map_cons, List.flatten_cons, Function.comp_apply]
          rw [ih]
          have : (sgn (k : Nat)).cps.toList = [97 + k] := by
            show [97 + ((k : Int) % 26).toNat] = _
            congr 2; omega
          rw [this]; rfl
      rw [this]; exact h
end Mv

namespace Mv
open PySem L2 PyProof.Rows
theorem lookup_app {α : Type} : ∀ (A B : List (PySem.Str × α)) (x : PySem.Str), (A ++ B).lookup x = (A.lookup x).or (B.lookup x)
  | [], B, x => by simp
  | (y, a) :: A, B, x => by
    by_cases e : x = y
    · subst e; simp [List.lookup]
    · have e1 : (x == y) = false := by simpa using e
      simp only [List.cons_append, List.lookup, e1]
      exact lookup_app A B x
theorem lookup_none {α : Type} {T : List (PySem.Str × α)} {x : PySem.Str} (h : x ∉ T.map (·.1)) : T.lookup x = none := by
  cases e : T.lookup x with
  | none => rfl
  | some a => exact absurd (List.mem_map_of_mem (f := (·.1)) (lookup_mem e)) h
theorem fold_app (ns : List PySem.Str) : ∀ (L : List Kd) (T : Tab), ∃ more, L.foldl (stepU ns) T = T ++ more ∧ more.map (·.1) = L.map Kd.nm
  | [], T => ⟨[], by simp, rfl⟩
  | k :: L, T => by
    obtain ⟨m, h1, h2⟩ := fold_app ns L (stepU ns T k)
    exact ⟨(k.nm, ns.filter fun o => decide (o ∈ ownOf T k.bs)) :: m, by rw [List.foldl_cons, h1]; simp [stepU], by simp [h2]⟩
theorem under_row {L pre rest : List Kd} {k : Kd} (ok : LayOk L) (e : L = pre ++ k :: rest) : (unders L).lookup k.nm = some ((L.map Kd.nm).filter fun o => decide (o ∈ ownOf (pre.foldl (stepU (L.map Kd.nm)) []) k.bs)) := by
  have cut := LayAt.cut (pre := pre) (rest := rest) (k := k) (e ▸ ok.at_)
  have hk := stepU_keys (L.map Kd.nm) pre []
  simp only [List.map_nil, List.nil_append] at hk cut
  obtain ⟨m, h1, _⟩ := fold_app (L.map Kd.nm) rest (stepU (L.map Kd.nm) (pre.foldl (stepU (L.map Kd.nm)) []) k)
  have hu : unders L = (pre.foldl (stepU (L.map Kd.nm)) []) ++ [(k.nm, (L.map Kd.nm).filter fun o => decide (o ∈ ownOf (pre.foldl (stepU (L.map Kd.nm)) []) k.bs))] ++ m := by
    have : unders L = (pre ++ k :: rest).foldl (stepU (L.map Kd.nm)) [] := by unfold unders; rw [← e]
    rw [this, List.foldl_append, List.foldl_cons, h1]; rfl
  rw [hu, lookup_app, lookup_app, lookup_none (by rw [hk]; exact cut.2.1)]
  simp [List.lookup]
theorem rows_sub (ns : List PySem.Str) : ∀ (rest : List Kd) (seen : List PySem.Str) (e : Int) (T : Tab), LayAt seen e rest → T.map (·.1) = seen → (∀ r ∈ T, ∀ o ∈ r.2, o ∈ seen) → ∀ r ∈ rest.foldl (stepU ns) T, ∀ o ∈ r.2, o ∈ seen ++ rest.map Kd.nm
  | [], seen, e, T, _, _, h => by simpa using h
  | k :: rest, seen, e, T, hl, hk, h => by
    obtain ⟨_, _, _, h4, h5⟩ := hl
    have := rows_sub ns rest (seen ++ [k.nm]) k.ed (stepU ns T k) h5 (by simp [stepU, hk]) (fun r hr o ho => by
      rcases List.mem_append.mp hr with hr | hr
      · exact List.mem_append_left _ (h r hr o ho)
      · rw [List.mem_singleton] at hr; subst hr
        simp only [List.mem_filter, decide_eq_true_eq, mem_ownOf] at ho
        rcases ho.2 with ho | ⟨b, hb, ho⟩
        · exact List.mem_append_left _ (h4 o ho)
        · have hbm := h4 b hb
          obtain ⟨l, hl'⟩ := lookup_some_of_mem (T := T) (by rw [hk]; exact hbm)
          simp only [rowT, hl', Option.getD_some] at ho
          exact List.mem_append_left _ (h _ (lookup_mem hl') o ho))
    simpa using this
theorem LayAt.pre : ∀ {pre rest : List Kd} {seen : List PySem.Str} {e : Int}, LayAt seen e (pre ++ rest) → LayAt seen e pre
  | [], _, _, _, _ => trivial
  | k :: pre, rest, seen, e, h => ⟨h.1, h.2.1, h.2.2.1, h.2.2.2.1, LayAt.pre h.2.2.2.2⟩
theorem under_eq {L pre rest : List Kd} {k : Kd} (ok : LayOk L) (e : L = pre ++ k :: rest) : under L k.nm = (L.map Kd.nm).filter fun o => decide (o ∈ ownOf (pre.foldl (stepU (L.map Kd.nm)) []) k.bs) := by
  unfold under rowT
  rw [under_row ok e]; rfl
/-- what is beneath stands ahead -/
theorem under_sub {L pre rest : List Kd} {k : Kd} (ok : LayOk L) (e : L = pre ++ k :: rest) : ∀ o ∈ under L k.nm, o ∈ pre.map Kd.nm := by
  intro o ho
  rw [under_eq ok e] at ho
  simp only [List.mem_filter, decide_eq_true_eq, mem_ownOf] at ho
  have at_ : LayAt [] 1 (pre ++ k :: rest) := e ▸ ok.at_
  have cut := LayAt.cut at_
  simp only [List.nil_append] at cut
  rcases ho.2 with ho | ⟨b, hb, ho⟩
  · exact cut.2.2 o ho
  · have hk := stepU_keys (L.map Kd.nm) pre []
    simp only [List.map_nil, List.nil_append] at hk
    obtain ⟨l, hl'⟩ := lookup_some_of_mem (T := pre.foldl (stepU (L.map Kd.nm)) []) (by rw [hk]; exact cut.2.2 b hb)
    simp only [rowT, hl', Option.getD_some] at ho
    have := rows_sub (L.map Kd.nm) pre [] 1 [] (LayAt.pre at_) rfl (by simp) _ (lookup_mem hl') o ho
    simpa using this
theorem split_of {L : List Kd} {k : Kd} (h : k ∈ L) : ∃ pre rest, L = pre ++ k :: rest := List.append_of_mem h
theorem under_look {L : List Kd} {k : Kd} (ok : LayOk L) (hk : k ∈ L) : (unders L).lookup k.nm = some (under L k.nm) := by
  obtain ⟨pre, rest, e⟩ := split_of hk
  rw [under_row ok e, under_eq ok e]
end Mv

namespace Mv
open PySem L2 PyProof.Rows
def lb__law_marks_0 : Dt → Env → Wp Fl := fun x ρ => Wp.bind ((aN 11) x ρ) fun ρ =>
    (wIf (Wp.bind (Wp.bind (Wp.bind (gR ρ 11) fun x => Wp.bind (Wp.ret (Dt.int 0)) fun y => pyIx x y) fun x => Wp.bind (Wp.bind (gR ρ 3) fun x => Wp.bind (gR ρ 5) fun y => pyIx x y) fun y => pyIn x y) asB) ((Wp.fl (Wp.bind (Wp.bind (Wp.bind (gR ρ 10) fun x => Wp.bind (Wp.bind (Wp.bind (Wp.bind (Wp.bind (gR ρ 4) fun x => Wp.bind (Wp.bind (gR ρ 11) fun x => Wp.bind (Wp.ret (Dt.int 0)) fun y => pyIx x y) fun y => pyIx x y) fun x => Wp.bind (Wp.ret []) fun xs => .ret (x :: xs)) pyListX) fun n => .ret n.dt) fun y => addN x y) fun d => .ret d.sl) fun x => .ret (Fl.nx (ρ.set 10 x))) fun ρ =>
    (wIf (wOr (Wp.bind (Wp.bind (gR ρ 2) fun x => Wp.bind (Wp.ret (Dt.int 3)) fun y => pyEq x y) asB) (Wp.bind (Wp.bind (Wp.bind (gR ρ 11) fun x => Wp.bind (Wp.ret (Dt.int 1)) fun y => pyIx x y) fun x => Wp.bind (gR ρ 6) fun y => pyLt x y) asB)) ((Wp.bind (gL ρ 10) fun xs => Wp.bind (Wp.bind (gR ρ 11) fun x => Wp.bind (Wp.ret (Dt.int 3)) fun y => pyIx x y) fun d => .gd (xs.length < sizeLine) (.ret (Fl.nx (ρ.set 10 (.ol (xs ++ [d]))))))) ((Wp.ret (Fl.nx ρ)))))) ((Wp.ret (Fl.nx ρ))))
def lb__law_marks_1 : Dt → Env → Wp Fl := fun x ρ => Wp.bind ((aN 12) x ρ) fun ρ =>
    (Wp.bind (gL ρ 10) fun xs => Wp.bind (Wp.bind (Wp.bind (gR ρ 1) fun x => Wp.bind (Wp.bind (Wp.bind (gF ρ 0) fun x => Wp.bind (Wp.bind (Wp.bind (Wp.bind (gR ρ 1) fun x => Wp.bind (Wp.ret []) fun xs => .ret (x :: xs)) pyLenT) fun x => Wp.bind (Wp.ret []) fun xs => .ret (x :: xs)) fun xs => .ret (x :: xs)) c__law_next) fun y => pyIx x y) fun x => Wp.bind (Wp.ret (Dt.int 3)) fun y => pyIx x y) fun d => .gd (xs.length < sizeLine) (.ret (Fl.nx (ρ.set 10 (.ol (xs ++ [d]))))))
def lb__law_marks_2 : Dt → Env → Wp Fl := fun x ρ => Wp.bind ((aTup (aCons (aN 5) (aCons (aN 6) (aCons (aN 7) (aCons (aN 8) (aCons (aN 9) aNil)))))) x ρ) fun ρ =>
    (Wp.fl (Wp.bind (Wp.bind (Wp.bind (Wp.ret []) fun xs => .ret (Nw.l xs)) fun d => .ret d.sl) fun x => .ret (Fl.nx (ρ.set 10 x))) fun ρ =>
    (Wp.fl (Wp.bind (Wp.bind (gF ρ 1) itA) fun xs => forL lb__law_marks_0 xs ρ) fun ρ =>
    (Wp.fl (wIf (Wp.bind (Wp.bind (gR ρ 2) fun x => Wp.bind (Wp.ret (Dt.int 0)) fun y => pyEq x y) asB) ((Wp.fl (Wp.bind (Wp.bind (Wp.bind (Wp.ret []) fun xs => .ret (Nw.l xs)) fun d => .ret d.sl) fun x => .ret (Fl.nx (ρ.set 10 x))) fun ρ =>
    (Wp.bind (Wp.bind (Wp.bind (Wp.bind (Wp.bind (gF ρ 0) fun x => Wp.bind (Wp.bind (Wp.ret (Dt.int 4)) fun x => Wp.bind (Wp.ret []) fun xs => .ret (x :: xs)) fun xs => .ret (x :: xs)) c__law_next) fun x => Wp.bind (Wp.ret []) fun xs => .ret (x :: xs)) itR1) fun xs => forL lb__law_marks_1 xs ρ))) ((Wp.ret (Fl.nx ρ)))) fun ρ =>
    ((fun ρ => (Wp.bind (Wp.bind (Wp.bind (gF ρ 10) fun x => Wp.bind (Wp.ret []) fun xs => .ret (x :: xs)) c__law_word) fun d => Wp.bind (gD ρ 4) fun kvs => Wp.bind (gF ρ 5) fun k => Wp.bind (ofO (keyD k)) fun k => .gd (kvs.length < sizeLine) (.ret (Fl.nx (ρ.set 4 (.od (putD kvs k d))))))) (fzS 10 ρ)))))
def mb__law_marks : Env → Wp Fl := fun ρ =>
    (Wp.fl (Wp.bind (Wp.bind (Wp.bind (Wp.bind (gF ρ 1) fun x => Wp.bind (Wp.ret []) fun xs => .ret (x :: xs)) c__law_under) fun d => .ret (Sl.fz d)) fun u => Wp.bind (Wp.bind (Wp.ret (Nw.d [])) fun d => .ret d.sl) fun v => .ret (Fl.nx ((ρ.set 3 u).set 4 v))) fun ρ =>
    (Wp.fl (Wp.bind (Wp.bind (gF ρ 1) itA) fun xs => forL lb__law_marks_2 xs ρ) fun ρ =>
    ((fun ρ => (Wp.bind (gF ρ 4) fun d => .ret (Fl.rt d))) (fzS 4 ρ))))
/-- a dict from the names to marks -/
def c__law_marks (ds : List Dt) : Wp Dt := fun Q _ => ∃ (L : List Kd) (way : Int), ds = [.drw, .lst (L.map Kd.d), .int way] ∧ LayOk L ∧ ∀ f : PySem.Str → PySem.Str, (∀ x, markB (f x) = true) → Q (.dct (mapT (fun x => Dt.str (f x)) (L.map fun k => (k.nm, k.nm))))
def lb__law_marked_0 : Dt → Env → Wp Fl := fun x ρ => Wp.bind ((aTup (aCons (aN 5) (aCons (aN 6) (aCons (aN 7) (aCons (aN 8) (aCons (aN 9) aNil)))))) x ρ) fun ρ =>
    (Wp.fl (Wp.bind (Wp.bind (Wp.bind (gR ρ 3) fun x => Wp.bind (gR ρ 5) fun y => pyIx x y) fun d => .ret (Sl.fz d)) fun x => .ret (Fl.nx (ρ.set 10 x))) fun ρ =>
    (Wp.fl (wIf (wAnd (Wp.bind (Wp.bind (gR ρ 2) fun x => Wp.bind (Wp.ret (Dt.int 2)) fun y => pyEq x y) asB) (Wp.bind (Wp.bind (Wp.bind (Wp.bind (gF ρ 0) fun x => Wp.bind (Wp.bind (Wp.ret (Dt.int 3)) fun x => Wp.bind (Wp.ret []) fun xs => .ret (x :: xs)) fun xs => .ret (x :: xs)) c__law_next) fun x => Wp.bind (Wp.ret (Dt.int 0)) fun y => pyEq x y) asB)) ((Wp.fl (Wp.bind (Wp.bind (Wp.bind (Wp.bind (gF ρ 1) itA) fun xs => Wp.bind (Wp.calm (compL (fun ρ => (Wp.bind (Wp.bind (Wp.bind (gR ρ 14) fun x => Wp.bind (Wp.ret (Dt.int 1)) fun y => pyIx x y) fun x => Wp.bind (gR ρ 6) fun y => pyLt x y) asB)) (fun ρ => (Wp.bind (gR ρ 14) fun x => Wp.bind (Wp.ret (Dt.int 3)) fun y => pyIx x y)) (aN 14) (wipeE ρ [14]) xs [])) fun ys => .ret (Nw.l ys)) fun (d : Nw) => .ret d.sl) fun x => .ret (Fl.nx (ρ.set 11 x))) fun ρ =>
    (Wp.fl (Wp.bind (gL ρ 11) fun xs => Wp.bind (Wp.bind (Wp.bind (Wp.bind (Wp.bind (gF ρ 0) fun x => Wp.bind (Wp.bind (Wp.ret (Dt.int 26)) fun x => Wp.bind (Wp.ret []) fun xs => .ret (x :: xs)) fun xs => .ret (x :: xs)) c__law_next) fun x => Wp.bind (Wp.ret []) fun xs => .ret (x :: xs)) c__law_sign) fun d => .gd (xs.length < sizeLine) (.ret (Fl.nx (ρ.set 11 (.ol (xs ++ [d])))))) fun ρ =>
    (Wp.fl (Wp.bind (Wp.bind (Wp.bind (gR ρ 11) fun x => Wp.bind (Wp.bind (Wp.bind (gF ρ 0) fun x => Wp.bind (Wp.bind (Wp.bind (Wp.bind (gR ρ 11) fun x => Wp.bind (Wp.ret []) fun xs => .ret (x :: xs)) pyLenT) fun x => Wp.bind (Wp.ret []) fun xs => .ret (x :: xs)) fun xs => .ret (x :: xs)) c__law_next) fun y => pyIx x y) fun d => .ret (Sl.fz d)) fun x => .ret (Fl.nx (ρ.set 12 x))) fun ρ =>
    (Wp.fl (Wp.bind (Wp.bind (wIf (Wp.bind (Wp.bind (gR ρ 12) fun x => Wp.bind (gR ρ 10) fun y => pyIn x y) asB) (Wp.bind (Wp.ret []) fun xs => .ret (Dt.lst xs)) (Wp.bind (Wp.bind (gF ρ 12) fun x => Wp.bind (Wp.ret []) fun xs => .ret (x :: xs)) fun xs => .ret (Dt.lst xs))) fun d => .ret (Sl.fz d)) fun x => .ret (Fl.nx (ρ.set 13 x))) fun ρ =>
    (Wp.bind (Wp.bind (Wp.bind (Wp.bind (Wp.bind (Wp.bind (Wp.bind (Wp.bind (gF ρ 10) itA) fun xs => Wp.bind (Wp.calm (compL (fun ρ => (Wp.bind (Wp.bind (gR ρ 15) fun x => Wp.bind (gR ρ 12) fun y => pyNe x y) asB)) (fun ρ => (gF ρ 15)) (aN 15) (wipeE ρ [15]) xs [])) fun ys => .ret (Nw.l ys)) fun n => .ret n.dt) fun x => Wp.bind (gR ρ 13) fun y => pyAdd x y) fun x => Wp.bind (Wp.ret []) fun xs => .ret (x :: xs)) c__law_word) fun d => .ret (Sl.fz d)) fun x => .ret (Fl.nx (ρ.set 10 x)))))))) ((Wp.ret (Fl.nx ρ)))) fun ρ =>
    (Wp.bind (gL ρ 4) fun xs => Wp.bind (Wp.bind (Wp.bind (gF ρ 5) fun x => Wp.bind (Wp.bind (gF ρ 6) fun x => Wp.bind (Wp.bind (gF ρ 7) fun x => Wp.bind (Wp.bind (gF ρ 8) fun x => Wp.bind (Wp.bind (gF ρ 10) fun x => Wp.bind (Wp.ret []) fun xs => .ret (x :: xs)) fun xs => .ret (x :: xs)) fun xs => .ret (x :: xs)) fun xs => .ret (x :: xs)) fun xs => .ret (x :: xs)) fun xs => .ret (Dt.tup xs)) fun d => .gd (xs.length < sizeLine) (.ret (Fl.nx (ρ.set 4 (.ol (xs ++ [d]))))))))
def mb__law_marked : Env → Wp Fl := fun ρ =>
    (Wp.fl (Wp.bind (Wp.bind (Wp.bind (Wp.bind (gF ρ 0) fun x => Wp.bind (Wp.bind (gF ρ 1) fun x => Wp.bind (Wp.bind (gF ρ 2) fun x => Wp.bind (Wp.ret []) fun xs => .ret (x :: xs)) fun xs => .ret (x :: xs)) fun xs => .ret (x :: xs)) c__law_marks) fun d => .ret (Sl.fz d)) fun u => Wp.bind (Wp.bind (Wp.bind (Wp.ret []) fun xs => .ret (Nw.l xs)) fun d => .ret d.sl) fun v => .ret (Fl.nx ((ρ.set 3 u).set 4 v))) fun ρ =>
    (Wp.fl (Wp.bind (Wp.bind (gF ρ 1) itA) fun xs => forL lb__law_marked_0 xs ρ) fun ρ =>
    (Wp.bind (Wp.bind (Wp.bind (gR ρ 4) fun x => Wp.bind (Wp.ret []) fun xs => .ret (x :: xs)) pyTuple) fun d => .ret (Fl.rt d))))
def setMr (f : PySem.Str → PySem.Str) (k : Kd) : Kd := { k with mr := f k.nm }
/-- the same kinds with any marks -/
def c__law_marked (ds : List Dt) : Wp Dt := fun Q _ => ∃ (L : List Kd) (way : Int), ds = [.drw, .lst (L.map Kd.d), .int way] ∧ LayOk L ∧ ∀ f : PySem.Str → PySem.Str, (∀ x, markB (f x) = true) → Q (layD (L.map (setMr f)))
def mb__law_layout : Env → Wp Fl := fun ρ =>
    (Wp.fl (Wp.bind (Wp.bind (Wp.bind (Wp.bind (gF ρ 0) fun x => Wp.bind (Wp.bind (gF ρ 1) fun x => Wp.bind (Wp.ret []) fun xs => .ret (x :: xs)) fun xs => .ret (x :: xs)) c__law_frame) fun d => .ret (Sl.fz d)) fun x => .ret (Fl.nx (ρ.set 2 x))) fun ρ =>
    (Wp.bind (Wp.bind (Wp.bind (gF ρ 0) fun x => Wp.bind (Wp.bind (gF ρ 2) fun x => Wp.bind (Wp.bind (Wp.bind (Wp.bind (gF ρ 0) fun x => Wp.bind (Wp.bind (Wp.ret (Dt.int 4)) fun x => Wp.bind (Wp.ret []) fun xs => .ret (x :: xs)) fun xs => .ret (x :: xs)) c__law_next) fun x => Wp.bind (Wp.ret []) fun xs => .ret (x :: xs)) fun xs => .ret (x :: xs)) fun xs => .ret (x :: xs)) c__law_marked) fun d => .ret (Fl.rt d)))
def c__law_layout (ds : List Dt) : Wp Dt := fun Q _ => ∃ most : Int, ds = [.drw, .int most] ∧ 1 ≤ most ∧ most ≤ 24 ∧ ∀ L : List Kd, LayOk L → L.length ≤ most → Q (layD L)
theorem LayAt.setMr (f : PySem.Str → PySem.Str) (hf : ∀ x, markB (f x) = true) : ∀ {L : List Kd} {seen : List PySem.Str} {e : Int}, LayAt seen e L → LayAt seen e (L.map (setMr f))
  | [], _, _, _ => trivial
  | k :: L, seen, e, h => ⟨⟨h.1.nm, h.1.e1, h.1.e2, h.1.bl, h.1.bn, h.1.bd, h.1.lt, h.1.l1, hf _⟩, h.2.1, h.2.2.1, h.2.2.2.1, LayAt.setMr f hf h.2.2.2.2⟩
theorem LayOk.setMr {f : PySem.Str → PySem.Str} (hf : ∀ x, markB (f x) = true) {L : List Kd} (h : LayOk L) : LayOk (L.map (setMr f)) := ⟨by simpa using h.l1, by simpa using h.l2, LayAt.setMr f hf h.at_⟩
theorem le__law_layout (ds : List Dt) (Q : Dt → Prop) (E : Xn → Prop) (h : c__law_layout ds Q E) : fnWp 3 mb__law_layout ds Q fun _ => False := by
  obtain ⟨most, rfl, m1, m2, h⟩ := h
  simp only [fnWp_def, mb__law_layout, List.map, List.replicate, List.length_cons, List.length_nil, Nat.reduceSub, Nat.reduceAdd, List.cons_append, List.nil_append, EV, k_next]
  refine ⟨most, rfl, m1, m2, fun L ok hl _ => ?_⟩
  simp only [EV, k_next]
  exact ⟨by decide, fun way w0 w1 => ⟨L, way, rfl, ok, fun f hf => h _ (ok.setMr hf) (by simpa using hl)⟩⟩
theorem lookup_self (L : List Kd) (x : PySem.Str) (h : x ∈ L.map Kd.nm) : (L.map fun k => (k.nm, k.nm)).lookup x = some x := by
  induction L with
  | nil => simp at h
  | cons k L ih =>
    by_cases e : x = k.nm
    · subst e; simp [List.lookup]
    · have e1 : (x == k.nm) = false := by simpa using e
      simp only [List.map_cons, List.mem_cons, e, false_or] at h
      simp [List.lookup, e1, ih h]
theorem le__law_marks (ds : List Dt) (Q : Dt → Prop) (E : Xn → Prop) (h : c__law_marks ds Q E) : fnWp 13 mb__law_marks ds Q fun _ => False := by
  obtain ⟨L, way, rfl, ok, h⟩ := h
  have sl : sizeLine = 16777216 := by decide
  have l2 := ok.l2
  have l1 := ok.l1
  simp only [fnWp_def, mb__law_marks, List.map_cons, List.map_nil, List.replicate, List.length_cons, List.length_nil, Nat.reduceSub, Nat.reduceAdd, List.cons_append, List.nil_append, EV, k_next]
  refine ⟨_, L, rfl, .l L, ok, ?_⟩
  refine k_for Kd.d (l := L) (fun pre ρ => ∃ (f : PySem.Str → PySem.Str) (s5 s6 s7 s8 s9 s10 s11 s12 : Sl), (∀ x, markB (f x) = true) ∧ ρ = [.fz .drw, .fz (.lst (L.map Kd.d)), .fz (.int way), .fz (lawU L), .od (mapT (fun x => Dt.str (f x)) (pre.map fun k => (k.nm, k.nm))), s5, s6, s7, s8, s9, s10, s11, s12]) ⟨fun _ => "", _, _, _, _, _, _, _, _, fun _ => mark0, rfl⟩ ?_ ?_
  · rintro pre k rest ρ K e ⟨f, s5, s6, s7, s8, s9, s10, s11, s12, hf, rfl⟩ hK
    have hk : k ∈ L := by rw [e]; simp
    have cut := LayAt.cut (pre := pre) (rest := rest) (k := k) (e ▸ ok.at_)
    simp only [List.nil_append] at cut
    have hpl : pre.length < 24 := by
      have := congrArg List.length e
      simp only [List.length_append, List.length_cons] at this; omega
    have fin : ∀ (own : List PySem.Str) (q6 q7 q8 q9 q10 q11 q12 : Sl), (mapT (fun x => Dt.str (f x)) (pre.map fun k => (k.nm, k.nm))).length < sizeLine ∧ K [.fz .drw, .fz (.lst (L.map Kd.d)), .fz (.int way), .fz (lawU L), .od (putD (mapT (fun x => Dt.str (f x)) (pre.map fun k => (k.nm, k.nm))) (.inr k.nm) (.str (wordOf own))), .fz (.str k.nm), q6, q7, q8, q9, q10, q11, q12] := fun own q6 q7 q8 q9 q10 q11 q12 => by
      refine ⟨by simp only [mapT, List.length_map]; omega, hK _ ?_⟩
      have e1 : putD (mapT (fun x => Dt.str (f x)) (pre.map fun k => (k.nm, k.nm))) (.inr k.nm) (.str (wordOf own)) = mapT (fun x => Dt.str ((fun x => if x = k.nm then wordOf own else f x) x)) ((pre ++ [k]).map fun k => (k.nm, k.nm)) := by
        have hn : ∀ j ∈ pre, j.nm ≠ k.nm := fun j hj z => cut.2.1 (z ▸ List.mem_map_of_mem hj)
        rw [putD_new]
        · simp only [mapT, List.map_append, List.map_map, List.map_cons, List.map_nil, if_true]
          congr 1
          apply List.map_congr_left
          intro j hj
          simp [hn j hj]
        · intro kv hkv z
          obtain ⟨r, hr, rfl⟩ := List.mem_map.mp hkv
          obtain ⟨j, hj, rfl⟩ := List.mem_map.mp hr
          exact hn j hj (by simpa using z)
      rw [e1]
      refine ⟨fun x => if x = k.nm then wordOf own else f x, _, _, _, _, _, _, _, _, fun x => ?_, rfl⟩
      show markB (if x = k.nm then wordOf own else f x) = true
      split
      · exact wordOf_ok _
      · exact hf _
    simp only [lb__law_marks_2, EV, k_next]
    refine k_for Kd.d (l := L) (fun pre2 ρ => ∃ (own : List PySem.Str) (s11 : Sl), own.length ≤ 27 * pre2.length ∧ ρ = [.fz .drw, .fz (.lst (L.map Kd.d)), .fz (.int way), .fz (lawU L), .od (mapT (fun x => Dt.str (f x)) (pre.map fun k => (k.nm, k.nm))), .fz (.str k.nm), .fz (.int k.ed), .fz (.tup (k.bs.map Dt.str)), .fz (.str k.lt), .fz (.str k.mr), .ol (own.map Dt.str), s11, s12]) ⟨[], _, by simp, rfl⟩ ?_ ?_
    · rintro pre2 j rest2 ρ K2 e2 ⟨own, s11', o1, rfl⟩ hK2
      have hj24 : pre2.length < 24 := by
        have := congrArg List.length e2
        simp only [List.length_append, List.length_cons] at this; omega
      simp only [lb__law_marks_0, EV, lawU, look_mapT, under_look ok hk, Option.map_some, lstT]
      by_cases hj : j.nm ∈ under L k.nm
      · rw [if_pos hj]
        have hjp := under_sub ok e _ hj
        simp only [lookup_self _ _ hjp, Option.map_some, EV, List.length_map, sgs]
        have ms := (markB_size (hf j.nm)).1
        have ms' : (f j.nm).cps.toList.length ≤ 26 := by simpa using ms
        refine ⟨by omega, by simp only [Array.length_toList]; omega, ?_⟩
        have fin2 : K2 [.fz .drw, .fz (.lst (L.map Kd.d)), .fz (.int way), .fz (lawU L), .od (mapT (fun x => Dt.str (f x)) (pre.map fun k => (k.nm, k.nm))), .fz (.str k.nm), .fz (.int k.ed), .fz (.tup (k.bs.map Dt.str)), .fz (.str k.lt), .fz (.str k.mr), .ol (own.map Dt.str ++ (f j.nm).cps.toList.map (fun c => Dt.str ⟨#[c]⟩) ++ [Dt.str j.lt]), .fz j.d, s12] := by
          refine hK2 _ ?_
          have : own.map Dt.str ++ (f j.nm).cps.toList.map (fun c => Dt.str ⟨#[c]⟩) ++ [Dt.str j.lt] = (own ++ (f j.nm).cps.toList.map (fun c => (⟨#[c]⟩ : PySem.Str)) ++ [j.lt]).map Dt.str := by simp
          rw [this]
          refine ⟨_, _, ?_, rfl⟩
          simp only [List.length_append, List.length_map, List.length_cons, List.length_nil]; omega
        have fin3 : K2 [.fz .drw, .fz (.lst (L.map Kd.d)), .fz (.int way), .fz (lawU L), .od (mapT (fun x => Dt.str (f x)) (pre.map fun k => (k.nm, k.nm))), .fz (.str k.nm), .fz (.int k.ed), .fz (.tup (k.bs.map Dt.str)), .fz (.str k.lt), .fz (.str k.mr), .ol (own.map Dt.str ++ (f j.nm).cps.toList.map (fun c => Dt.str ⟨#[c]⟩)), .fz j.d, s12] := by
          refine hK2 _ ?_
          have : own.map Dt.str ++ (f j.nm).cps.toList.map (fun c => Dt.str ⟨#[c]⟩) = (own ++ (f j.nm).cps.toList.map (fun c => (⟨#[c]⟩ : PySem.Str))).map Dt.str := by simp
          rw [this]
          refine ⟨_, _, ?_, rfl⟩
          simp only [List.length_append, List.length_map, List.length_cons, List.length_nil]; omega
        have hz : (own.map Dt.str ++ (f j.nm).cps.toList.map (fun c => Dt.str ⟨#[c]⟩)).length < sizeLine := by
          simp only [List.length_append, List.length_map]; omega
        by_cases h3 : way = 3
        · rw [if_pos h3]; exact ⟨hz, fin2⟩
        · rw [if_neg h3]
          by_cases h4 : j.ed < k.ed
          · rw [if_pos h4]; exact ⟨hz, fin2⟩
          · rw [if_neg h4]; exact fin3
      · rw [if_neg hj]
        refine hK2 _ ⟨own, _, ?_, rfl⟩
        simp only [List.length_append, List.length_cons, List.length_nil]; omega
    · rintro ρ ⟨own, s11', o1, rfl⟩
      simp only [EV, k_next]
      by_cases h0 : way = 0
      · rw [if_pos h0]
        refine ⟨by decide, fun r r0 r1 => ⟨by omega, ?_⟩⟩
        refine k_for (fun i : Nat => Dt.int (0 + (i : Nat))) (l := List.range r.toNat) (fun pre2 ρ => ∃ (own : List PySem.Str) (s12 : Sl), own.length ≤ pre2.length ∧ ρ = [.fz .drw, .fz (.lst (L.map Kd.d)), .fz (.int way), .fz (lawU L), .od (mapT (fun x => Dt.str (f x)) (pre.map fun k => (k.nm, k.nm))), .fz (.str k.nm), .fz (.int k.ed), .fz (.tup (k.bs.map Dt.str)), .fz (.str k.lt), .fz (.str k.mr), .ol (own.map Dt.str), s11', s12]) ⟨[], _, by simp, rfl⟩ ?_ ?_
        · rintro pre2 i rest2 ρ K2 e2 ⟨own, s12', o1, rfl⟩ hK2
          have hi4 : pre2.length < 4 := by
            have := congrArg List.length e2
            simp only [List.length_range, List.length_append, List.length_cons] at this; omega
          simp only [lb__law_marks_1, EV, k_next, List.length_map]
          refine ⟨by omega, fun c c0 c1 => at_map c0 c1 fun j hj => ?_⟩
          simp only [EV]
          refine ⟨by omega, hK2 _ ?_⟩
          have : own.map Dt.str ++ [Dt.str j.lt] = (own ++ [j.lt]).map Dt.str := by simp
          rw [this]
          exact ⟨_, _, by simp; omega, rfl⟩
        · rintro ρ ⟨own, s12', o1, rfl⟩
          simp only [EV]
          exact ⟨own, rfl, fin own _ _ _ _ _ _ _⟩
      · rw [if_neg h0]
        exact ⟨own, rfl, fin own _ _ _ _ _ _ _⟩
  · rintro ρ ⟨f, s5, s6, s7, s8, s9, s10, s11, s12, hf, rfl⟩
    simp only [EV]
    exact h f hf
theorem le__law_marked (ds : List Dt) (Q : Dt → Prop) (E : Xn → Prop) (h : c__law_marked ds Q E) : fnWp 16 mb__law_marked ds Q fun _ => False := by
  obtain ⟨L, way, rfl, ok, h⟩ := h
  have sl : sizeLine = 16777216 := by decide
  have l2 := ok.l2
  simp only [fnWp_def, mb__law_marked, List.map_cons, List.map_nil, List.replicate, List.length_cons, List.length_nil, Nat.reduceSub, Nat.reduceAdd, List.cons_append, List.nil_append, EV, k_next]
  refine ⟨L, way, rfl, ok, fun f0 hf0 => ?_⟩
  refine k_for Kd.d (l := L) (fun pre ρ => ∃ (f : PySem.Str → PySem.Str) (s5 s6 s7 s8 s9 s10 s11 s12 s13 s14 s15 : Sl), (∀ x, markB (f x) = true) ∧ ρ = [.fz .drw, .fz (.lst (L.map Kd.d)), .fz (.int way), .fz (.dct (mapT (fun x => Dt.str (f0 x)) (L.map fun k => (k.nm, k.nm)))), .ol ((pre.map (setMr f)).map Kd.d), s5, s6, s7, s8, s9, s10, s11, s12, s13, s14, s15]) ⟨fun _ => "", _, _, _, _, _, _, _, _, _, _, _, fun _ => mark0, rfl⟩ ?_ ?_
  · rintro pre k rest ρ K e ⟨f, s5, s6, s7, s8, s9, s10, s11, s12, s13, s14, s15, hf, rfl⟩ hK
    have hk : k ∈ L := by rw [e]; simp
    have cut := LayAt.cut (pre := pre) (rest := rest) (k := k) (e ▸ ok.at_)
    simp only [List.nil_append] at cut
    have hpl : pre.length < 24 := by
      have := congrArg List.length e
      simp only [List.length_append, List.length_cons] at this; omega
    have fin : ∀ (m : PySem.Str), markB m = true → ∀ q5 q6 q7 q8 q9 q10 q11 q12 q13 q14 q15 : Sl, ((pre.map (setMr f)).map Kd.d).length < sizeLine ∧ K [.fz .drw, .fz (.lst (L.map Kd.d)), .fz (.int way), .fz (.dct (mapT (fun x => Dt.str (f0 x)) (L.map fun k => (k.nm, k.nm)))), .ol ((pre.map (setMr f)).map Kd.d ++ [Dt.tup [.str k.nm, .int k.ed, .tup (k.bs.map Dt.str), .str k.lt, .str m]]), q5, q6, q7, q8, q9, q10, q11, q12, q13, q14, q15] := fun m hm q5 q6 q7 q8 q9 q10 q11 q12 q13 q14 q15 => by
      refine ⟨by simp only [List.length_map]; omega, hK _ ?_⟩
      have hn : ∀ j ∈ pre, j.nm ≠ k.nm := fun j hj z => cut.2.1 (z ▸ List.mem_map_of_mem hj)
      have e1 : (pre.map (setMr f)).map Kd.d ++ [Dt.tup [.str k.nm, .int k.ed, .tup (k.bs.map Dt.str), .str k.lt, .str m]] = ((pre ++ [k]).map (setMr fun x => if x = k.nm then m else f x)).map Kd.d := by
        simp only [List.map_append, List.map_map, List.map_cons, List.map_nil]
        congr 1
        · apply List.map_congr_left
          intro j hj
          simp [setMr, hn j hj]
        · simp [setMr, Kd.d]
      rw [e1]
      refine ⟨fun x => if x = k.nm then m else f x, _, _, _, _, _, _, _, _, _, _, _, fun x => ?_, rfl⟩
      show markB (if x = k.nm then m else f x) = true
      split
      · exact hm
      · exact hf _
    simp only [lb__law_marked_0, EV, k_next, look_mapT, lookup_self _ _ (List.mem_map_of_mem hk), Option.map_some]
    by_cases h2 : way = 2
    · rw [if_pos h2]
      refine ⟨by decide, fun r r0 r1 => ?_⟩
      by_cases h0 : r = 0
      · rw [if_pos h0]
        refine k_comp Kd.d (fun j => decide (j.ed < k.ed)) (fun j => Dt.str j.lt) (l := L) (by simp; omega) (fun j hj K1 K0 t1 t0 => ?_) ?_
        · simp only [EV]
          by_cases hm : j.ed < k.ed
          · rw [if_pos hm]; exact t1 (by simpa using hm)
          · rw [if_neg hm]; exact t0 (by simpa using hm)
        · refine ⟨by decide, fun c c0 c1 => ?_⟩
          rw [k_sign]
          have hfl : (L.filter fun j => decide (j.ed < k.ed)).length ≤ 24 := Nat.le_trans (List.length_filter_le _ _) l2
          have e1 : ([] ++ (L.filter fun j => decide (j.ed < k.ed)).map (fun j => Dt.str j.lt) ++ [Dt.str (sgn c)]) = ((L.filter fun j => decide (j.ed < k.ed)).map Kd.lt ++ [sgn c]).map Dt.str := by simp
          refine ⟨by simp; omega, ?_⟩
          rw [e1]
          simp only [List.length_map, List.length_append, List.length_cons, List.length_nil]
          refine ⟨by omega, fun q q0 q1 => at_map q0 (by simp; omega) fun sg hsg => ?_⟩
          simp only [EV]
          have ms := (markB_size (hf0 k.nm)).1
          have ms' : (f0 k.nm).cps.toList.length ≤ 26 := by simpa using ms
          have hfl2 : ((f0 k.nm).cps.toList.filter fun c => !decide ((⟨#[c]⟩ : PySem.Str) = sg)).length ≤ 26 := Nat.le_trans (List.length_filter_le _ _) ms'
          have fl2 : ∀ a, ((pre.map (setMr f)).map Kd.d).length < sizeLine ∧ a → pre.length < sizeLine ∧ a := fun a h => by simpa using h
          by_cases hin : inS sg (f0 k.nm) = true
          · rw [if_pos hin]
            refine k_comp (fun c => Dt.str ⟨#[c]⟩) (fun c => !decide ((⟨#[c]⟩ : PySem.Str) = sg)) (fun c => Dt.str ⟨#[c]⟩) (l := (f0 k.nm).cps.toList) (by simp only [List.length_nil]; omega) (fun c hc K1 K0 t1 t0 => ?_) ?_
            · simp only [EV]
              by_cases hm : (⟨#[c]⟩ : PySem.Str) = sg
              · rw [if_pos hm]; exact t0 (by simpa using hm)
              · rw [if_neg hm]; exact t1 (by simpa using hm)
            · simp only [List.nil_append, List.length_map]
              exact ⟨by omega, ((f0 k.nm).cps.toList.filter fun c => !decide ((⟨#[c]⟩ : PySem.Str) = sg)).map (fun c => (⟨#[c]⟩ : PySem.Str)), by simp, fl2 _ (fin _ (wordOf_ok _) _ _ _ _ _ _ _ _ _ _ _)⟩
          · rw [if_neg hin]
            refine k_comp (fun c => Dt.str ⟨#[c]⟩) (fun c => !decide ((⟨#[c]⟩ : PySem.Str) = sg)) (fun c => Dt.str ⟨#[c]⟩) (l := (f0 k.nm).cps.toList) (by simp only [List.length_nil]; omega) (fun c hc K1 K0 t1 t0 => ?_) ?_
            · simp only [EV]
              by_cases hm : (⟨#[c]⟩ : PySem.Str) = sg
              · rw [if_pos hm]; exact t0 (by simpa using hm)
              · rw [if_neg hm]; exact t1 (by simpa using hm)
            · simp only [List.nil_append, List.length_map]
              exact ⟨by omega, ((f0 k.nm).cps.toList.filter fun c => !decide ((⟨#[c]⟩ : PySem.Str) = sg)).map (fun c => (⟨#[c]⟩ : PySem.Str)) ++ [sg], by simp, fl2 _ (fin _ (wordOf_ok _) _ _ _ _ _ _ _ _ _ _ _)⟩
      · rw [if_neg h0]
        exact fin _ (hf0 _) _ _ _ _ _ _ _ _ _ _ _
    · rw [if_neg h2]
      exact fin _ (hf0 _) _ _ _ _ _ _ _ _ _ _ _
  · rintro ρ ⟨f, s5, s6, s7, s8, s9, s10, s11, s12, s13, s14, s15, hf, rfl⟩
    simp only [EV]
    exact h f hf
end Mv

namespace Mv
open PySem L2 PyProof.Rows
mutual
def wt : Dt → Nat
  | .str x => 10 * x.cps.size + 2
  | .lst xs => wtAll xs + 4
  | .tup xs => wtAll xs + 4
  | _ => 1930
def wtAll : List Dt → Nat
  | [] => 0
  | x :: xs => wt x + 2 + wtAll xs
end
mutual
/-- to be shown: plain, numbers not too great -/
def shB : Dt → Bool
  | .non => true
  | .bl _ => true
  | .int i => decide (i.natAbs.log2 < 1920)
  | .str x => PyData.strOk x
  | .lst xs => shAll xs
  | .tup xs => shAll xs
  | _ => false
def shAll : List Dt → Bool
  | [] => true
  | x :: xs => shB x && shAll xs
end
theorem shAll_iff : ∀ xs : List Dt, shAll xs = true ↔ ∀ x ∈ xs, shB x = true
  | [] => by simp [shAll]
  | x :: xs => by simp [shAll, shAll_iff xs]
theorem wtAll_le {n : Nat} : ∀ xs : List Dt, (∀ x ∈ xs, wt x ≤ n) → wtAll xs ≤ (n + 2) * xs.length
  | [], _ => by simp [wtAll]
  | x :: xs, h => by
    have h1 := h x (by simp)
    have h2 := wtAll_le xs fun y hy => h y (by simp [hy])
    rw [wtAll, List.length_cons, Nat.mul_add]
    omega
theorem listText_le (ts : List PySem.Str) : (listText ts).length ≤ piled ts + 4 := by
  cases ts with
  | nil => decide +kernel
  | cons t r =>
    have h := textFrom_length_pos r 1 (("[" : PySem.Str) ++ (if (0 : Nat) > 0 then ", " else "" : String) ++ t) (Nat.succ_pos 0)
    have e : ((("[" : PySem.Str) ++ (if (0 : Nat) > 0 then ", " else "" : String) ++ t)).length = 1 + t.length := by
      rw [strLen_append, strLen_append]; rfl
    have hX : (listText (t :: r)).length = (textFrom 0 "[" (t :: r)).length + 1 := by
      show (textFrom 0 "[" (t :: r) ++ "]").length = _
      rw [strLen_append]; rfl
    have hY : (textFrom 0 "[" (t :: r)).length = (textFrom 1 (("[" : PySem.Str) ++ (if (0 : Nat) > 0 then ", " else "" : String) ++ t) r).length := rfl
    rw [hX, hY, h, e, piled_cons]; omega
theorem tupleText_le (ts : List PySem.Str) : (tupleText ts).length ≤ piled ts + 4 := by
  unfold tupleText
  rw [strLen_append, strLen_append]
  have e1 : ((("(" : String) : PySem.Str)).length = 1 := rfl
  have e3 : (((if ts.length == 1 then ",)" else ")" : String) : PySem.Str)).length ≤ 2 := by split <;> decide
  rw [e1]
  by_cases h : ts = []
  · subst h
    have : (PySem.Str.join ", " []).length = 0 := rfl
    omega
  · have := join_length_add ts h
    omega
theorem strOk_lt {x : PySem.Str} (h : PyData.strOk x = true) : ∀ c ∈ x.cps.toList, c < 16 ^ 8 := by
  unfold PyData.strOk at h
  rw [← Array.all_toList, List.all_eq_true] at h
  intro c hc
  have := h c hc
  simp only [decide_eq_true_eq] at this
  omega
mutual
theorem sh_ok : ∀ d : Dt, shB d = true → (py d).canLay0 = true ∧ (py d).showable = true ∧ (py d).shown.length ≤ wt d
  | .non, _ => ⟨by simp [py, PyData.canLay0], by simp [py, PyData.showable], by simp only [py, PyData.shown, wt]; decide +kernel⟩
  | .bl b, _ => ⟨by simp [py, PyData.canLay0], by simp [py, PyData.showable], by cases b <;> (simp only [py, PyData.shown, wt]; decide +kernel)⟩
  | .int i, h => by
    have h' : i.natAbs.log2 < 1920 := by simpa [shB] using h
    refine ⟨by simp [py, PyData.canLay0], by simpa [py, PyData.showable] using h', ?_⟩
    have := int_text_length_le (a := i) (k := 1920) (by decide) h'
    simp only [py, PyData.shown, wt]
    have e : (PySem.Str.ofString (toString i)).length = (toString i).length := by
      rw [TL.len_tl, TL.tl_ofString, List.length_map, String.length_toList]
    show (PySem.Str.ofString (toString i)).length ≤ 1930
    omega
  | .str x, h => by
    have h' : PyData.strOk x = true := by simpa [shB] using h
    refine ⟨by simpa [py, PyData.canLay0] using h', by simp [py, PyData.showable], ?_⟩
    have := StrLaws.reprText_len x (strOk_lt h')
    simp only [py, PyData.shown, wt]
    exact this
  | .lst xs, h => by
    obtain ⟨h1, h2, h3⟩ := sh_all xs (by simpa [shB] using h)
    refine ⟨by simpa [py, PyData.canLay0] using h1, by simpa [py, PyData.showable] using h2, ?_⟩
    have := listText_le (PyData.shownAll (pyAll xs))
    simp only [py, PyData.shown, wt]
    omega
  | .tup xs, h => by
    obtain ⟨h1, h2, h3⟩ := sh_all xs (by simpa [shB] using h)
    refine ⟨by simpa [py, PyData.canLay0] using h1, by simpa [py, PyData.showable] using h2, ?_⟩
    have := tupleText_le (PyData.shownAll (pyAll xs))
    simp only [py, PyData.shown, wt]
    omega
  | .dct _, h => by simp [shB] at h
  | .obj _ _, h => by simp [shB] at h
  | .glo _, h => by simp [shB] at h
  | .ty _, h => by simp [shB] at h
  | .scr _, h => by simp [shB] at h
  | .drw, h => by simp [shB] at h
  | .set _, h => by simp [shB] at h
  | .exc _ _, h => by simp [shB] at h
  | .ftp _, h => by simp [shB] at h
theorem sh_all : ∀ xs : List Dt, shAll xs = true → PyData.canLayAll0 (pyAll xs) = true ∧ PyData.showableAll (pyAll xs) = true ∧ piled (PyData.shownAll (pyAll xs)) ≤ wtAll xs
  | [], _ => ⟨by simp [pyAll, PyData.canLayAll0], by simp [pyAll, PyData.showableAll], by simp [pyAll, PyData.shownAll, piled]⟩
  | x :: xs, h => by
    simp only [shAll, Bool.and_eq_true] at h
    obtain ⟨a1, a2, a3⟩ := sh_ok x h.1
    obtain ⟨b1, b2, b3⟩ := sh_all xs h.2
    refine ⟨by simp [pyAll, PyData.canLayAll0, a1, b1], by simp [pyAll, PyData.showableAll, a2, b2], ?_⟩
    simp only [pyAll, PyData.shownAll, piled_cons, wtAll]
    omega
end
/-- to be shown: all at once -/
structure Sh (d : Dt) (n w : Nat) : Prop where
  ok : shB d = true
  dp : (py d).depth ≤ n
  wt : wt d ≤ w
theorem Sh.mono {d : Dt} {n w n' w' : Nat} (h : Sh d n w) (hn : n ≤ n') (hw : w ≤ w') : Sh d n' w' := ⟨h.ok, Nat.le_trans h.dp hn, Nat.le_trans h.wt hw⟩
theorem Sh.non : Sh .non 0 1930 := ⟨rfl, by simp [py, PyData.depth], by simp [Mv.wt]⟩
theorem Sh.bl (b : Bool) : Sh (.bl b) 0 1930 := ⟨rfl, by simp [py, PyData.depth], by simp [Mv.wt]⟩
theorem Sh.int {i : Int} (h : i.natAbs < 2 ^ 200) : Sh (.int i) 0 1930 := by
  refine ⟨?_, by simp [py, PyData.depth], by simp [Mv.wt]⟩
  show decide (i.natAbs.log2 < 1920) = true
  rw [decide_eq_true_eq]
  by_cases h0 : i.natAbs = 0
  · rw [h0]; decide
  · rw [Nat.log2_lt h0]
    exact Nat.lt_of_lt_of_le h (Nat.pow_le_pow_right (by decide) (by decide))
theorem Sh.str {x : PySem.Str} (h : PyData.strOk x = true) {n : Nat} (hn : x.cps.size ≤ n) : Sh (.str x) 0 (10 * n + 2) := ⟨by simpa [shB] using h, by simp [py, PyData.depth], by simp only [Mv.wt]; omega⟩
theorem Sh.lst {xs : List Dt} {n w m : Nat} (h : ∀ x ∈ xs, Sh x n w) (hm : xs.length ≤ m) : Sh (.lst xs) (n + 1) ((w + 2) * m + 4) := by
  refine ⟨by simp only [shB]; exact (shAll_iff xs).mpr fun x hx => (h x hx).ok, ?_, ?_⟩
  · have e : (py (.lst xs)).depth = PyData.depthAll (pyAll xs) + 1 := by simp [py, PyData.depth]
    have := depthAll_le xs fun x hx => (h x hx).dp
    omega
  · have := wtAll_le xs fun x hx => (h x hx).wt
    have h2 : (w + 2) * xs.length ≤ (w + 2) * m := Nat.mul_le_mul_left _ hm
    simp only [Mv.wt]; omega
theorem Sh.tup {xs : List Dt} {n w m : Nat} (h : ∀ x ∈ xs, Sh x n w) (hm : xs.length ≤ m) : Sh (.tup xs) (n + 1) ((w + 2) * m + 4) := by
  refine ⟨by simp only [shB]; exact (shAll_iff xs).mpr fun x hx => (h x hx).ok, ?_, ?_⟩
  · have e : (py (.tup xs)).depth = PyData.depthAll (pyAll xs) + 1 := by simp [py, PyData.depth]
    have := depthAll_le xs fun x hx => (h x hx).dp
    omega
  · have := wtAll_le xs fun x hx => (h x hx).wt
    have h2 : (w + 2) * xs.length ≤ (w + 2) * m := Nat.mul_le_mul_left _ hm
    simp only [Mv.wt]; omega
/-- a thing as repr shows it -/
def shown (d : Dt) : PySem.Str := (py d).shown
theorem name_sh {x : PySem.Str} (h : nameB x = true) : Sh (.str x) 0 82 := by
  obtain ⟨_, h2, h3⟩ := nameB_size h
  exact (Sh.str (let_ok h3) h2).mono (Nat.le_refl _) (by omega)
theorem mark_sh {x : PySem.Str} (h : markB x = true) : Sh (.str x) 0 262 := by
  obtain ⟨h2, h3, _⟩ := markB_size h
  exact (Sh.str (let_ok h3) h2).mono (Nat.le_refl _) (by omega)
theorem kd_sh {k : Kd} (h : KdOk k) : Sh k.d 2 9664 := by
  refine (Sh.tup (n := 1) (w := 1930) (m := 5) (fun x hx => ?_) (Nat.le_refl _)).mono (Nat.le_refl _) (by omega)
  simp only [List.mem_cons, List.not_mem_nil, or_false] at hx
  rcases hx with rfl | rfl | rfl | rfl | rfl
  · exact (name_sh h.nm).mono (by omega) (by omega)
  · refine (Sh.int ?_).mono (by omega) (by omega)
    have h1 := h.e1
    have h2 := h.e2
    have : k.ed.natAbs < 2 ^ 7 := by omega
    exact Nat.lt_of_lt_of_le this (Nat.pow_le_pow_right (by decide) (by decide))
  · refine (Sh.tup (n := 0) (w := 82) (m := 6) (fun x hx => ?_) (by simpa using h.bl)).mono (by omega) (by omega)
    obtain ⟨b, hb, rfl⟩ := List.mem_map.mp hx
    exact name_sh (h.bn b hb)
  · exact (mark_sh h.lt).mono (by omega) (by omega)
  · exact (mark_sh h.mr).mono (by omega) (by omega)
theorem LayOk.kd {L : List Kd} (ok : LayOk L) : ∀ k ∈ L, KdOk k := LayAt.kinds ok.at_
theorem lay_sh {L : List Kd} (ok : LayOk L) : Sh (layD L) 3 231988 := by
  refine (Sh.tup (n := 2) (w := 9664) (m := 24) (fun x hx => ?_) (by simpa using ok.l2)).mono (Nat.le_refl _) (by omega)
  obtain ⟨k, hk, rfl⟩ := List.mem_map.mp hx
  exact kd_sh (ok.kd k hk)
end Mv

namespace Mv
open PySem L2 PyProof.Rows
def lb__law_begun_0 : Dt → Env → Wp Fl := fun x ρ => Wp.bind ((aTup (aCons (aN 2) (aCons (aN 3) aNil))) x ρ) fun ρ =>
    (Wp.bind (Wp.bind (Wp.bind (Wp.bind (Wp.bind (Wp.bind (Wp.bind (Wp.bind (gR ρ 1) fun x => Wp.bind (Wp.ret (Dt.int 998244353)) fun y => pyMul x y) fun x => Wp.bind (gR ρ 3) fun y => pyAdd x y) fun x => Wp.bind (Wp.bind (Wp.ret (Dt.int 104723)) fun x => Wp.bind (gR ρ 2) fun y => pyMul x y) fun y => pyAdd x y) fun x => Wp.bind (Wp.ret []) fun xs => .ret (x :: xs)) pyInt) fun x => Wp.bind (Wp.ret (Dt.int 2305843009213693951)) fun y => pyMod x y) fun d => .ret (Sl.fz d)) fun x => .ret (Fl.nx (ρ.set 1 x)))
def mb__law_begun : Env → Wp Fl := fun ρ =>
    (Wp.fl (Wp.bind (Wp.bind (Wp.bind (Wp.ret (Dt.int 32452843)) fun x => Wp.bind (Wp.bind (Wp.ret (Dt.int 41)) fun x => Wp.bind (Wp.bind (Wp.bind (gR ρ 0) fun x => Wp.bind (Wp.ret []) fun xs => .ret (x :: xs)) pyLenT) fun y => pyMul x y) fun y => pyAdd x y) fun d => .ret (Sl.fz d)) fun x => .ret (Fl.nx (ρ.set 1 x))) fun ρ =>
    (Wp.fl (Wp.bind (Wp.bind (gF ρ 0) itE) fun xs => forL lb__law_begun_0 xs ρ) fun ρ =>
    (Wp.bind (gF ρ 1) fun a => Wp.bind (Wp.bind (Wp.bind (gF ρ 0) itA) fun xs => Wp.bind (Wp.calm (compL (fun ρ => (Wp.bind (Wp.bind (gR ρ 3) fun x => Wp.bind (Wp.bind (Wp.ret (Dt.int 10)) fun x => Wp.bind (Wp.ret (Dt.int 18)) fun y => pyPow x y) fun y => pyGe x y) asB)) (fun ρ => (gF ρ 3)) (aN 3) (wipeE ρ [3]) xs [])) fun ys => .ret (Nw.l ys)) fun b => Wp.bind (Wp.ret (Dt.int 0)) fun c => retDrw a b c)))

theorem enumD_map {α : Type} (f : α → Dt) : ∀ (l : List α) (i : Nat), enumD i (l.map f) = (l.zipIdx i).map fun p => Dt.tup [.int p.2, f p.1]
  | [], i => rfl
  | a :: l, i => by
    rw [List.map_cons, enumD, List.zipIdx_cons, List.map_cons, enumD_map f l (i + 1)]
def c__law_begun (ds : List Dt) : Wp Dt := fun Q _ => ∃ ns : List Int, ds = [.scr ns] ∧ ns.length ≤ 63 ∧ Q .drw
theorem k_itEs (ns : List Int) (Q : List Dt → Prop) (E : Xn → Prop) : itE (.scr ns) Q E = Q (enumD 0 (ns.map Dt.int)) := rfl
theorem k_itAs (ns : List Int) (Q : List Dt → Prop) (E : Xn → Prop) : itA (.scr ns) Q E = Q (ns.map Dt.int) := rfl
theorem k_lens (ns : List Int) (Q : Dt → Prop) (E : Xn → Prop) : pyLenT [.scr ns] Q E = Q (.int ns.length) := rfl
theorem k_powI (i j : Int) (Q : Dt → Prop) (E : Xn → Prop) : pyPow (.int i) (.int j) Q E = (CPow i j ∧ Q (.int (i ^ j.toNat))) := rfl
theorem k_retDrw (m t : Int) (xs : List Dt) (Q : Fl → Prop) (E : Xn → Prop) : retDrw (.int m) (.l xs) (.int t) Q E = ((0 ≤ m ∧ 0 ≤ t ∧ ∃ ns : List Int, xs = ns.map Dt.int ∧ ns.length ≤ 63) ∧ Q (.rt .drw)) := rfl
theorem le__law_begun (ds : List Dt) (Q : Dt → Prop) (E : Xn → Prop) (h : c__law_begun ds Q E) : fnWp 4 mb__law_begun ds Q fun _ => False := by
  obtain ⟨ns, rfl, hl, h⟩ := h
  have sl : sizeLine = 16777216 := by decide
  simp only [fnWp_def, mb__law_begun, List.map_cons, List.map_nil, List.replicate, List.length_cons, List.length_nil, Nat.reduceSub, Nat.reduceAdd, List.cons_append, List.nil_append, EV, k_lens, k_itEs]
  refine ⟨.inl (by decide), ?_⟩
  rw [enumD_map]
  refine k_for (fun p : Int × Nat => Dt.tup [.int p.2, Dt.int p.1]) (l := ns.zipIdx 0) (fun pre ρ => ∃ (m : Int) (s2 s3 : Sl), 0 ≤ m ∧ ρ = [.fz (.scr ns), .fz (.int m), s2, s3]) ⟨_, _, _, by omega, rfl⟩ ?_ ?_
  · rintro pre ⟨c, i⟩ rest ρ K e ⟨m, s2, s3, hm, rfl⟩ hK
    simp only [lb__law_begun_0, EV]
    exact ⟨.inr (by decide), .inl (by decide), by decide, hK _ ⟨_, _, _, Int.emod_nonneg _ (by decide), rfl⟩⟩
  · rintro ρ ⟨m, s2, s3, hm, rfl⟩
    simp only [EV, k_itAs]
    refine k_comp Dt.int (fun c => decide ((1000000000000000000 : Int) ≤ c)) Dt.int (l := ns) (by simp; omega) (fun c hc K1 K0 t1 t0 => ?_) ?_
    · simp only [EV, k_powI]
      refine ⟨⟨by decide, by decide, by decide⟩, ?_⟩
      have e : (10 : Int) ^ (18 : Int).toNat = 1000000000000000000 := by decide
      rw [e]
      by_cases hc : (1000000000000000000 : Int) ≤ c
      · rw [if_pos hc]; exact t1 (by simpa using hc)
      · rw [if_neg hc]; exact t0 (by simpa using hc)
    · simp only [EV, k_retDrw, List.nil_append]
      exact ⟨⟨hm, Int.le_refl _, _, rfl, Nat.le_trans (List.length_filter_le _ _) hl⟩, h⟩
end Mv

namespace Mv
open PySem L2 PyProof.Rows
/-- a built-in's __init__ -/
structure XI (B initId : String) : Prop where
  slot : Slot B "__init__" initId
  ent : entryFor table initId = some Builtin.«BaseException.__init__»
  spl : splitId initId = some (B, "__init__")
  knd : builtinKind initId = some .slot
  row : Manifest.signature? initId = some ⟨.positional, "*", B, .self, [⟨"args", .varPos, false⟩]⟩
  star : (B != "*") = true
theorem XI.of {B n i : String} (F : ExcCallFacts B n i) : XI B i := ⟨F.init, F.initEntry, F.initSplit, F.initKind, F.initRow, F.noStar⟩
/-- what is leant on of the built-in that stands above: by its mro, its __new__, its __init__ -/
structure XB (bmB : List Value) (newId initId : String) : Prop where
  new : ∃ B i0 b0, ExcBaseFacts B newId i0 b0 ∧ bmB.contains (.type B) = true
  ini : ∃ B, XI B initId ∧ bmB.contains (.type B) = true
  nA : bmB.contains (.type "AttributeError") = false
  nN : bmB.contains (.type "NameError") = false
  ob : bmB.contains (.type "object") = true
  ps : ∀ self, refuseLoop self "__setattr__" bmB = pure ()
theorem xb_VE : XB vaTail "ValueError.__new__" "ValueError.__init__" := ⟨⟨_, _, _, F.excBase_ValueError, by decide +kernel⟩, ⟨_, .of F.excBase_ValueError.toExcCallFacts, by decide +kernel⟩, by decide +kernel, by decide +kernel, by decide +kernel, fun self => F.store_ValueError.passes self⟩
/-- what is leant on of the own class -/
structure XM (bm : List Value) (newId initId : String) : Prop where
  new : ∃ B i0 b0, ExcBaseFacts B newId i0 b0 ∧ bm.contains (.type B) = true
  ini : ∃ B, XI B initId ∧ bm.contains (.type B) = true
  nA : bm.contains (.type "AttributeError") = false
  nN : bm.contains (.type "NameError") = false
  ob : bm.contains (.type "object") = true
  ps : ∀ self, refuseLoop self "__setattr__" bm = pure ()
theorem XB.m {bmB bm : List Value} {n i : String} (b : XB bmB n i) (h : PySem.W.excTail bmB bm = true) : XM bm n i := by
  have c := fun T => PySem.W.excTail_contains (bmB := bmB) T bm h
  obtain ⟨B, i0, b0, f, hB⟩ := b.new
  obtain ⟨B', f', hB'⟩ := b.ini
  exact ⟨⟨B, i0, b0, f, by rw [c]; exact hB⟩, ⟨B', f', by rw [c]; exact hB'⟩, by rw [c]; exact b.nA, by rw [c]; exact b.nN, by rw [c]; exact b.ob, fun self => PySem.W.excTail_pass self (b.ps self) bm h⟩

section
variable {M : Model} {A : Around} {E : Value → Shared → Prop} {h : Heap} {g : Array GenState} {d : Drawn} {t : Nat} {os : OsState}
variable {nm q : Str} {C N : Addr} {bs bm b0 : List Value} {hdct : Bool} {sn : List Str} {sub : List Value} {ab : Bool} {col : Option Bool} {dd : Option Addr} {k0 k1 k2 k3 k5 : Option Value} {B newId i0 initId : String}
theorem xnew_check (F : ExcBaseFacts B newId i0 b0) (hB : bm.contains (.type B) = true) {args : List Value} {Q : Unit → Shared → Prop} (hC : h.get? C = some (excClassObj nm q C N bs bm hdct sn sub ab col dd k0 k1 k2 k3 k5 newId)) (hq : Q () ⟨h, g, d, t, os⟩) :
    wpAny M A (checkBuiltinCall newId ⟨.ref C :: args, []⟩) Q E ⟨h, g, d, t, os⟩ := by
  have cB : (Value.ref C :: bm).contains (.type B) = true := by rw [List.contains_cons, hB, Bool.or_true]
  have st := F.noStar
  simp only [checkBuiltinCall, F.newKind, F.newSplit, F.newRow]
  repeat (first | refine wpAny_loadPart_at hC ?_ | (refine wpAny_isSubtype_exc hC ?_; rw [cB]) | refine wpAny_staticBase_exc hC ?_ | refine wpAny_madeBy_exc hC ?_ | simp only [bne_self_eq_false, Bool.false_eq_true, if_false] | wp_step)
  exact hq
theorem xinit_check (F : XI B initId) (hB : bm.contains (.type B) = true) {x : Addr} {ox : Obj} {args : List Value} {Q : Unit → Shared → Prop} (hC : h.get? C = some (excClassObj nm q C N bs bm hdct sn sub ab col dd k0 k1 k2 k3 k5 newId)) (hx : h.get? x = some ox) (hcl : ox.cls = .ref C) (hq : Q () ⟨h, g, d, t, os⟩) :
    wpAny M A (checkBuiltinCall initId ⟨.ref x :: args, []⟩) Q E ⟨h, g, d, t, os⟩ := by
  have cB : (Value.ref C :: bm).contains (.type B) = true := by rw [List.contains_cons, hB, Bool.or_true]
  have st := F.star
  simp only [checkBuiltinCall, F.knd, F.spl, F.row]
  repeat (first | (with_reducible refine wpAny_loadPart_at hx ?_; rw [hcl]) | with_reducible refine wpAny_loadPart_at hC ?_ | (with_reducible refine wpAny_isSubtype_exc hC ?_; rw [cB]) | wp_step)
  refine wpAny_onRaise ?_
  rw [show ∀ (a b : String) (n : Nat), Bind.check ⟨.positional, "*", B, .self, [⟨"args", .varPos, false⟩]⟩ a b n (List.map (fun x => x.fst) ({ pos := Value.ref x :: args } : Args).kw) = pure () from fun a b n => check_star_args _ _ _ _ _ _]
  exact wpAny_pure hq
end
section
open PySem.HandSPX
variable {prog : Program} {w : World} {A : Around} {E : Value → Shared → Prop} {R : Result → Shared → Prop} {h : Heap} {g : Array GenState} {d : Drawn} {t : Nat} {os : OsState}
variable {nm q : Str} {C N : Addr} {bs bm : List Value} {hdct : Bool} {sn : List Str} {sub : List Value} {ab : Bool} {col : Option Bool} {dd : Option Addr} {k0 k1 k2 k3 k5 : Option Value} {newId initId : String}
theorem xnew_run (m : XM bm newId initId) {args : List Value} (hC : h.get? C = some (excClassObj nm q C N bs bm hdct sn sub ab col dd k0 k1 k2 k3 k5 newId)) (hl : args.length ≤ sizeLine)
    (hq : R (.ok (.ret (.ref (h.objs.size + 1)))) ⟨(h.push { cls := .type "tuple", data := .seq args.toArray }).push { cls := .ref C, data := .fields #[.ref h.objs.size, .none, .none, .none, .bool false, .none] }, g, d, t, os⟩) :
    codeAny (model prog w) A (.builtin newId ⟨.ref C :: args, []⟩) R ⟨h, g, d, t, os⟩ := by
  obtain ⟨B, i0, b0, F, hB⟩ := m.new
  have en := F.ends
  have cB : (Value.ref C :: bm).contains (.type B) = true := by rw [List.contains_cons, hB, Bool.or_true]
  have cA : (Value.ref C :: bm).contains (.type "AttributeError") = false := by rw [List.contains_cons, m.nA]; rfl
  have cN : (Value.ref C :: bm).contains (.type "NameError") = false := by rw [List.contains_cons, m.nN]; rfl
  refine codeAny_builtinAt F.entry ?_
  unfold Builtin.«BaseException.__new__»
  refine PySem.wpAt_bind ?_
  show PySem.wpAt _ _ _ (stack >>= _) _ _ _
  refine PySem.wpAt_bind (PySem.wpAt_stack fun p below => PySem.wpAt_of_wpAny ?_)
  wp_walk
  refine PySem.wpAt_of_wpAny ?_
  rw [F.owner]
  repeat (first | with_reducible refine wpAny_madeHere_exc F.canon hC ?_ | with_reducible refine wpAny_loadPart_at hC ?_ | (with_reducible refine wpAny_isSubtype_exc hC ?_; first | rw [cB] | rw [cA] | rw [cN]) | wp_step)
  show R _ _
  rw [Heap.size_push]
  exact hq
theorem xtype_call (m : XM bm newId initId) {args : List Value} {fI : Addr} {Q : Fin → Shared → Prop} (hC : h.get? C = some (excClassObj nm q C N bs bm hdct sn sub ab col dd k0 k1 k2 k3 k5 newId))
    (hi : W.Looks (model prog w) h (typeLookup (.ref C) "__init__") (some (.ref fI))) (hb : ∀ self, W.Looks (model prog w) h (bindSpecial (.ref fI) self) (.ref fI, [self])) (hl : args.length ≤ sizeLine)
    (hq : codeAny (model prog w) A (.call (.ref fI) ⟨.ref (h.objs.size + 1) :: args, []⟩) (fun r s' => match r with | .ok (.ret v) => v = .none ∧ Q (.done (.ret (.ref (h.objs.size + 1)))) s' | .ok _ => False | .error e => E e s') ⟨(h.push (W.kdv_tup args)).push (excO C h.objs.size), g, d, t, os⟩) :
    wpAny (model prog w) A (Builtin.«type.__call__» ⟨.ref C :: args, []⟩) Q E ⟨h, g, d, t, os⟩ := by
  obtain ⟨B, i0, b0, F, hB⟩ := m.new
  repeat (first | with_reducible refine wpAny_loadPart_at hC ?_ | with_reducible refine wpAny_madeBy_exc hC ?_ | wp_step)
  refine codeAny_call_builtin_code (Code.quiet_builtin _ F.quiet) (xnew_check F hB hC ?_)
  refine xnew_run m hC hl ?_
  show wpAny _ _ _ _ _ _
  have kk : ∀ b o, h.get? b = some o → ((h.push (W.kdv_tup args)).push (excO C h.objs.size)).get? b = some o := fun b o e => Heap.get?_push_of_some _ (Heap.get?_push_of_some _ e)
  have hC1 := kk _ _ hC
  have hg1 : ((h.push (W.kdv_tup args)).push (excO C h.objs.size)).get? (h.objs.size + 1) = some (excO C h.objs.size) := by heap_get
  have cc : (Value.ref C :: bm).contains (.ref C) = true := by simp
  have i1 := hi.keeps kk
  have b1 := (hb (.ref (h.objs.size + 1))).keeps kk
  unfold isInstance
  repeat (first | with_reducible refine wpAny_loadPart_at hg1 ?_ | (with_reducible refine wpAny_isSubtype_exc hC1 ?_; rw [cc]) | wp_step)
  show wpAny _ _ (typeLookup (.ref C) _) _ _ _
  refine i1.at ?_
  refine wpAny_holding (wpAny_bind (b1.at ?_))
  refine wpAny_bind (wpAny_call (codeAny_mono hq fun r s' z => ?_))
  rcases r with e | (v | _ | _ | _) <;> first | exact z | exact z.elim | skip
  obtain ⟨rfl, z⟩ := z
  first
    | exact wpAny_pure (wpAny_pure z)
    | (wp_walk; exact z)
theorem xcall (m : XM bm newId initId) {args : List Value} {fI : Addr} (hC : h.get? C = some (excClassObj nm q C N bs bm hdct sn sub ab col dd k0 k1 k2 k3 k5 newId))
    (hi : W.Looks (model prog w) h (typeLookup (.ref C) "__init__") (some (.ref fI))) (hb : ∀ self, W.Looks (model prog w) h (bindSpecial (.ref fI) self) (.ref fI, [self])) (hl : args.length ≤ sizeLine)
    (hq : codeAny (model prog w) (A.under (.builtin "type.__call__" ⟨.ref C :: args, []⟩)) (.call (.ref fI) ⟨.ref (h.objs.size + 1) :: args, []⟩) (W.InitBack (h.objs.size + 1) R) ⟨(h.push (W.kdv_tup args)).push (excO C h.objs.size), g, d, t, os⟩) :
    codeAny (model prog w) A (.call (.ref C) ⟨args, []⟩) R ⟨h, g, d, t, os⟩ := by
  have l1 := tc_lookup
  have l2 := tc_bind (.ref C)
  have ty : (⟨h, g, d, t, os⟩ : Shared).TypeIs (.ref C) "type" := ⟨_, hC, rfl⟩
  refine codeAny_of_tree ?_
  show wpAny _ _ (callAny (.ref C) _) _ _ _
  repeat (any_goals (first | assumption | with_reducible refine wpAny_loadPart_at hC ?_ | wp_step))
  refine ⟨rfl, codeAny_call_builtin_at (Code.quiet_builtin _ (by decide +kernel)) entry_typeCall (wpAny_check_type_call_sub hC (xtype_call m hC hi hb hl ?_))⟩
  refine codeAny_mono hq fun r s' z => ?_
  rcases r with e | (v | _ | _ | _) <;> exact z
/-- the base's __init__: its args are laid anew -/
theorem xinit_run (m : XM bm newId initId) {x t0 : Addr} {args : List Value} (hC : h.get? C = some (excClassObj nm q C N bs bm hdct sn sub ab col dd k0 k1 k2 k3 k5 newId)) (hx : h.get? x = some (excO C t0)) (hl : args.length ≤ sizeLine)
    (hq : ∀ h' t1, (∀ b o, b ≠ x → h.get? b = some o → h'.get? b = some o) → h'.get? x = some (excO C t1) → R (.ok (.ret .none)) ⟨h', g, d, t, os⟩) : codeAny (model prog w) A (.call (.builtin initId) ⟨.ref x :: args, []⟩) R ⟨h, g, d, t, os⟩ := by
  obtain ⟨B, F, hB⟩ := m.ini
  refine codeAny_call_builtin F.slot.plain F.ent (xinit_check F hB hC hx rfl ?_)
  wp_walk
  refine hq _ h.objs.size (fun b o hb ho => by rw [Heap.get?_update_other _ _ (Ne.symm hb)]; exact Heap.get?_push_of_some _ ho) ?_
  rw [Heap.get?_update_self _ (Heap.get?_push_of_some _ hx) rfl]; rfl
/-- self.f = v: what is common -/
theorem xosa_open {K : W.Frag} {name : Str} {tk : Tok} {v : Value} {x : Addr} {ox : Obj} {od : Option Obj} {cd : ClassData} (X : K.In h) (I : W.InstAt h x ox C od) (hcd : W.clsIn K C = some cd) (ne : cd.mro.isEmpty = false) (hob : cd.mro.contains (.type "object") = true) (hps : ∀ self, refuseLoop self "__setattr__" cd.mro = pure ()) (ha : W.findIn K (.ref C) name = some none)
    (hq : wpAny (model prog w) A.in1 (Builtin.ObjectAttr.storeInOwnDict (.ref x) (.ref C) (.str name tk) name v false) (fun f s' => ∃ r, f = .done (.ret r) ∧ R (.ok (.ret r)) s') (fun e s' => R (.error e) s') ⟨h, g, d, t, os⟩) :
    codeAny (model prog w) A (.call (.builtin "object.__setattr__") ⟨[.ref x, .str name tk, v], []⟩) R ⟨h, g, d, t, os⟩ := by
  have SF := F.store_object
  have sub1 : W.Looks (model prog w) h (isInstance (.ref x) (.type "object")) true := I.type.andThen (W.looks_mroIn X (by unfold W.mroIn; rw [hcd, Option.bind_some, if_neg (by rw [ne]; decide), hob]))
  refine codeAny_call_builtin SF.slot.plain SF.entry (@W.check_slot (model prog w) _ _ ⟨h, g, d, t, os⟩ "object.__setattr__" "object" "__setattr__" (.ref x) [.str name tk, v] [] _ SF.kind SF.split sub1 (SF.args (.ref x) (.str name tk) v) ?_)
  have L1 : W.Looks (model prog w) h (mroOf (.ref C)) cd.mro := (W.looks_clsIn X hcd).andThen .now
  have L2' : W.Looks (model prog w) h (PySem.Builtin.ObjectAttr.storeTaker? none) none := .now
  rw [W.osa_eq, refuse_eq]
  refine wpAny_bind (wpAny_bind (I.type.at (wpAny_bind (L1.at ?_))))
  rw [hps]
  refine wpAny_pure (wpAny_bind (I.type.at (wpAny_bind ((W.looks_findIn X ha).at (wpAny_bind (L2'.at ?_))))))
  show wpAny _ A.in1 (Builtin.ObjectAttr.storeInOwnDict (.ref x) (.ref C) (.str name tk) name v false) _ _ _
  refine wpAny_mono hq (fun f s' z => ?_) fun _ _ z => z
  obtain ⟨r, rfl, z⟩ := z
  exact z
open PySem.Builtin PySem.Builtin.ObjectAttr in
/-- the first field: the dict is laid -/
theorem xosa_new {K : W.Frag} {name : Str} {tk : Tok} {v : Value} {x : Addr} {fv : Array Value} {cd : ClassData} (X : K.In h) (hx : h.get? x = some { cls := .ref C, data := .fields fv }) (hcd : W.clsIn K C = some cd) (ne : cd.mro.isEmpty = false) (hob : cd.mro.contains (.type "object") = true) (hps : ∀ self, refuseLoop self "__setattr__" cd.mro = pure ()) (hh : cd.hasDict = true) (ha : W.findIn K (.ref C) name = some none)
    (hq : ∀ h' tk' dx, (∀ b o, b ≠ x → h.get? b = some o → h'.get? b = some o) → h.objs.size ≤ dx → dx ≠ x → h'.get? x = some { cls := .ref C, dict := some dx, data := .fields fv } → h'.Ns1 dx (fun y => if y = name then some v else none) → R (.ok (.ret .none)) ⟨h', g, d, tk', os⟩) :
    codeAny (model prog w) A (.call (.builtin "object.__setattr__") ⟨[.ref x, .str name tk, v], []⟩) R ⟨h, g, d, t, os⟩ := by
  have I : W.InstAt h x { cls := .ref C, data := .fields fv } C none := ⟨hx, rfl, rfl, trivial⟩
  have nx : x ≠ h.objs.size := Nat.ne_of_lt (Heap.lt_size hx)
  have hc1 : W.Looks (model prog w) h (classData C) cd := W.looks_clsIn X hcd
  refine xosa_open X I hcd ne hob hps ha ?_
  obtain ⟨nm', bs', mro', ns', qn', hd', sn', sb', ab', col', del'⟩ := cd
  dsimp only at hh
  subst hh
  unfold storeInOwnDict ownDictForStores
  repeat (first | with_reducible refine store_in_new ?_ ?_ | with_reducible refine wpAny_loadPart_at hx ?_ | with_reducible refine hc1.at ?_ | wp_step)
  · exact ⟨_, #[], _, (Heap.get?_update_ne _ _ _ _ nx.symm).trans (Heap.get?_push_at rfl rfl), rfl, fun e he => absurd he (by simp), fun _ => rfl⟩
  · intro h' tk' hn' hs
    have hx1 : (h.push { cls := .type "dict", data := .dict #[] }).get? x = some { cls := .ref C, data := .fields fv } := Heap.get?_push_of_some _ hx
    exact ⟨_, rfl, hq h' tk' h.objs.size (fun b o hb ho => (hs.2 b (Nat.ne_of_lt (Heap.lt_size ho))).trans ((Heap.get?_update_ne _ _ _ _ hb).trans (Heap.get?_push_of_some _ ho))) (Nat.le_refl _) nx.symm ((hs.2 x nx).trans (Heap.get?_update_self _ hx1 rfl)) hn'⟩
open PySem.Builtin PySem.Builtin.ObjectAttr in
/-- a further one -/
theorem xosa_old {K : W.Frag} {name : Str} {tk : Tok} {v : Value} {x dx : Addr} {fv : Array Value} {cd : ClassData} {m0 : Str → Option Value} {nl : List Str} (X : K.In h) (hx : h.get? x = some { cls := .ref C, dict := some dx, data := .fields fv }) (hns : h.Ns1 dx m0) (hw : Within m0 nl) (hz : nl.length ≤ 1000) (hcd : W.clsIn K C = some cd) (ne : cd.mro.isEmpty = false) (hob : cd.mro.contains (.type "object") = true) (hps : ∀ self, refuseLoop self "__setattr__" cd.mro = pure ()) (hh : cd.hasDict = true) (ha : W.findIn K (.ref C) name = some none)
    (hq : ∀ h' tk', (∀ b o, b ≠ dx → h.get? b = some o → h'.get? b = some o) → h'.Ns1 dx (fun y => if y = name then some v else m0 y) → R (.ok (.ret .none)) ⟨h', g, d, tk', os⟩) :
    codeAny (model prog w) A (.call (.builtin "object.__setattr__") ⟨[.ref x, .str name tk, v], []⟩) R ⟨h, g, d, t, os⟩ := by
  obtain ⟨oD, esD, epD, hoD, hdD, _⟩ := hns.count hw
  have I : W.InstAt h x { cls := .ref C, dict := some dx, data := .fields fv } C (some oD) := ⟨hx, rfl, rfl, hoD⟩
  have hc1 : W.Looks (model prog w) h (classData C) cd := W.looks_clsIn X hcd
  refine xosa_open X I hcd ne hob hps ha ?_
  obtain ⟨nm', bs', mro', ns', qn', hd', sn', sb', ab', col', del'⟩ := cd
  dsimp only at hh
  subst hh
  unfold storeInOwnDict ownDictForStores
  repeat (first | with_reducible refine PySem.OEX.store_in_old hns hw hz ?_ | with_reducible refine wpAny_loadPart_at hx ?_ | with_reducible refine hc1.at ?_ | wp_step)
  intro h' tk' hn' hs
  exact ⟨_, rfl, hq h' tk' (fun b o hb ho => (hs.2 b hb).trans ho) hn'⟩
end
end Mv

namespace Mv
open PySem L2 PyProof.Rows
/-- what the written part says of an own exception's class -/
structure XcK (K : PySem.W.Frag) (C : Addr) (newId initId : String) : Prop where
  cls : ∃ nm q N bs bm sn sub ab col dd k0 k1 k2 k3 k5, K.lookup C = some (excClassObj nm q C N bs bm true sn sub ab col dd k0 k1 k2 k3 k5 newId) ∧ XM bm newId initId
  sa : PySem.W.findIn K (.ref C) "__setattr__" = some (some (.builtin "object.__setattr__"))
  ga : PySem.W.findIn K (.ref C) "__getattribute__" = some (some (.builtin "BaseException.__getattribute__"))
  gg : PySem.W.findIn K (.ref C) "__getattr__" = some none
  ex : PySem.W.subIn K (.ref C) (.type "BaseException") = some true
  ty : PySem.W.typeIn K (.ref C) = some (.type "type")
  kp : PySem.W.keepIn K (.ref C) = true
  hd : PySem.W.hasDictIn K C = true
  ca : PySem.W.findIn K (.ref C) "__class__" = some (some (.builtin "object.__class__"))
  cg : PySem.W.specialIn K (.builtin "object.__class__") "__get__" = some (some (.builtin "getset_descriptor.__get__"))
  ct : PySem.W.takesIn K (.builtin "object.__class__") = some true
  cm : PySem.W.mroIn K C (.type "object") = some true
theorem xcB_ok {K : PySem.W.Frag} {C : Addr} {bmB : List Value} {newId initId : String} (b : XB bmB newId initId) (h : xcB K C bmB newId = true) : XcK K C newId initId := by
  simp only [xcB, Bool.and_eq_true, decide_eq_true_eq] at h
  obtain ⟨⟨⟨⟨⟨⟨⟨⟨⟨⟨⟨q, h1⟩, h2⟩, h3⟩, h4⟩, h5⟩, h6⟩, h7⟩, h8⟩, h9⟩, h10⟩, h11⟩ := h
  refine ⟨?_, h1, h2, h3, h4, h5, h6, h7, h8, h9, h10, h11⟩
  unfold PySem.W.excInitIn at q
  split at q
  · rename_i dd cd sl ho
    split at q
    · rename_i C' bm k0 k1 k2 k3 n k5 hm hs
      simp only [Bool.and_eq_true, beq_iff_eq, Bool.not_eq_true'] at q
      obtain ⟨⟨⟨rfl, rfl⟩, hdel⟩, ht⟩ := q
      obtain ⟨nm, bs, mro, ns, qn, hd, sn, sub, ab, col, del⟩ := cd
      dsimp only at hm hdel
      subst hm hdel
      have hsl : sl = #[k0, k1, k2, k3, some (.builtin n), k5] := by obtain ⟨l⟩ := sl; simp only at hs; rw [hs]
      subst hsl
      have hh : hd = true := by
        unfold PySem.W.hasDictIn PySem.W.clsIn at h7
        rw [ho] at h7
        simpa using h7
      subst hh
      exact ⟨nm, qn, ns, bs, bm, sn, sub, ab, col, dd, k0, k1, k2, k3, k5, ho, b.m ht⟩
    · cases q
  · cases q
theorem XcK.cd {K : PySem.W.Frag} {C : Addr} {n i : String} (T : XcK K C n i) : ∃ cd bm, PySem.W.clsIn K C = some cd ∧ cd.mro = .ref C :: bm ∧ cd.hasDict = true ∧ XM bm n i := by
  obtain ⟨nm, q, N, bs, bm, sn, sub, ab, col, dd, k0, k1, k2, k3, k5, hC, m⟩ := T.cls
  exact ⟨_, bm, by unfold PySem.W.clsIn; rw [hC] <;> rfl, rfl, rfl, m⟩
theorem xm_ob {C : Addr} {bm : List Value} {n i : String} (m : XM bm n i) : (Value.ref C :: bm).contains (.type "object") = true := by rw [List.contains_cons, m.ob, Bool.or_true]
theorem xm_ps {C : Addr} {bm : List Value} {n i : String} (m : XM bm n i) (self : Value) : refuseLoop self "__setattr__" (.ref C :: bm) = pure () := by rw [refuseLoop_ref]; exact m.ps self
section
variable {X : Cx} {pins : List (Addr × Obj)} {σ : L2.St} {H : Hp} {s : Shared} {a C dx : Addr} {f : Str} {y : V} {u : Value} {fs : List (Str × V)} {Q : Unit → Shared → Prop} {E : Value → Shared → Prop} {A : Around} {n i : String}
/-- self.f = y, the first one -/
theorem xst_new (T : XcK X.K C n i) (I : Inv X pins σ H s) (e : H a = some (exo a C none)) (hno : PySem.W.findIn X.K (.ref C) f = some none) (ry : RelV y u)
    (h : ∀ dx s', H dx = none → dx ≠ a → Inv X pins σ (upd (upd H dx (exd dx [(f, y)])) a (exo a C (some dx))) s' → Q () s') : wpAny (model X.prog X.w) A (setAttr (.ref a) f u) Q E s := by
  obtain ⟨cd, bm, hcl, hm, hh, m⟩ := T.cd
  obtain ⟨t1, ho⟩ := exo_at I.hok e
  obtain ⟨hp, g, d, t, os⟩ := s
  refine PySem.W.set_plain I.kIn (ox := { cls := .ref C, dict := none, data := .fields #[.ref t1, .none, .none, .none, .bool false, .none] }) (od := none) ⟨ho, rfl, rfl, trivial⟩ T.sa ?_
  refine xosa_new I.kIn ho hcl (by rw [hm]; rfl) (by rw [hm]; exact xm_ob m) (by rw [hm]; exact xm_ps m) hh hno (fun h' tk' dx k dn dne hx hn => ?_)
  have hnd : H dx = none := I.hok.fresh dn
  have nd : ∀ {b : Addr} {o : Obj}, hp.get? b = some o → b ≠ dx := fun {b o} q => Nat.ne_of_lt (Nat.lt_of_lt_of_le (Heap.lt_size q) dn)
  have na : ∀ {b : Addr}, H b = none → b ≠ a := fun {b} n z => by rw [z, e] at n; cases n
  have U : Un X.fs [] H (upd (upd H dx (exd dx [(f, y)])) a (exo a C (some dx))) hp h' :=
    ⟨fun b o q n _ _ => k b o (na n) q, fun b o q n _ _ => ⟨o.slots, k b o (na n) q⟩, fun b o q n _ => by rw [upd_ne (na n), upd_ne (nd q)]; exact n,
      fun b o q _ => by
        by_cases hb : b = a
        · exact ⟨_, by rw [hb]; exact hx⟩
        · exact ⟨o, k b o hb q⟩,
      fun b xs q => by rw [upd_ne (at_ne e q exo_tup), upd_ne (ne_of_none q hnd)]; exact q, fun b o v q => by rw [upd_ne (at_ne e q exo_frz), upd_ne (ne_of_none q hnd)]; exact q,
      fun b ps q => ⟨#[], by rw [upd_ne (at_ne e q exo_tbl), upd_ne (ne_of_none q hnd), q]; simp⟩⟩
  refine h dx _ hnd dne (I.un (t' := tk') U fun b o q => ?_)
  by_cases hb : b = a
  · subst hb; rw [upd_same] at q; cases q; exact exo_ok hx
  · rw [upd_ne hb] at q
    by_cases hd : b = dx
    · subst hd; rw [upd_same] at q; cases q; exact exd_ok hn (relO_put (fs := []) ry fun g => True.intro)
    · rw [upd_ne hd] at q
      refine (I.hok b o q).stay (fun c v hc z => k c v ?_ z) (fun c hc => ?_) (fun c xs hc => ?_)
      · rcases hc with hc | hc
        · rw [hc]; exact hb
        · exact at_ne e hc exo_own
      · rw [upd_ne (at_ne e hc exo_own), upd_ne (ne_of_none hc hnd)]; exact hc
      · rw [upd_ne (at_ne e hc exo_tup), upd_ne (ne_of_none hc hnd)]; exact hc
/-- self.f = y, a further one -/
theorem xst_old (T : XcK X.K C n i) (I : Inv X pins σ H s) (e : H a = some (exo a C (some dx))) (ed : H dx = some (exd dx fs)) (hl : fs.length ≤ 900) (hno : PySem.W.findIn X.K (.ref C) f = some none) (ry : RelV y u)
    (h : ∀ s', Inv X pins σ (upd H dx (exd dx ((f, y) :: fs))) s' → Q () s') : wpAny (model X.prog X.w) A (setAttr (.ref a) f u) Q E s := by
  obtain ⟨cd, bm, hcl, hm, hh, m⟩ := T.cd
  obtain ⟨t1, ho⟩ := exo_at I.hok e
  obtain ⟨mA, hns, rel⟩ := exd_at I.hok ed
  have hw := within_of rel
  obtain ⟨hp, g, d, t, os⟩ := s
  obtain ⟨oD, _, _, hoD, _, _⟩ := hns.count hw
  refine PySem.W.set_plain I.kIn (ox := { cls := .ref C, dict := some dx, data := .fields #[.ref t1, .none, .none, .none, .bool false, .none] }) (od := some oD) ⟨ho, rfl, rfl, hoD⟩ T.sa ?_
  refine xosa_old I.kIn ho hns hw (by rw [List.length_map]; omega) hcl (by rw [hm]; rfl) (by rw [hm]; exact xm_ob m) (by rw [hm]; exact xm_ps m) hh hno (fun h' tk' k hn => ?_)
  have hd : ∃ o, h'.get? dx = some o := let ⟨o, _, _, e', _⟩ := hn; ⟨o, e'⟩
  exact h _ (I.write (t' := tk') (x := dx) (e := dx) (o := exd dx ((f, y) :: fs)) (by rw [ed]; exact True.intro) (.inl rfl) k hd (exd_ok hn (relO_put ry rel)))
/-- the base's __init__(self, ..): nothing of it is told -/
theorem xin_ok {us : List Value} {Q : Value → Shared → Prop} (T : XcK X.K C n i) (I : Inv X pins σ H s) (e : H a = some (exo a C none)) (hl : us.length ≤ sizeLine) (h : ∀ s', Inv X pins σ H s' → Q .none s') :
    wpAny (model X.prog X.w) A (call (.builtin i) (.ref a :: us)) Q E s := by
  obtain ⟨nm, q, N, bs, bm, sn, sub, ab, col, dd, k0, k1, k2, k3, k5, hC, m⟩ := T.cls
  obtain ⟨t1, ho⟩ := exo_at I.hok e
  obtain ⟨hp, g, d, t, os⟩ := s
  refine wpAny_call (xinit_run m (I.kIn _ _ hC) ho hl fun h' t2 k hx => ?_)
  have J := I.write (t' := t) (x := a) (e := a) (o := exo a C none) (by rw [e]; exact True.intro) (.inl rfl) k ⟨_, hx⟩ (exo_ok hx)
  have eu : upd H a (exo a C none) = H := by
    funext b
    by_cases hb : b = a
    · rw [hb, upd_same, e]
    · rw [upd_ne hb]
  rw [eu] at J
  exact h _ J
end
/-- B.__init__(self, ..) -/
def tBi (K : PySem.W.Frag) (i : String) (ta : TA) : TE := fun σ H Q => ta σ H fun vs H1 => ∃ (a C : Addr) (n : String) (ws : List V), vs = .ref a :: ws ∧ ws.length ≤ 1000 ∧ XcK K C n i ∧ H1 a = some (exo a C none) ∧ Q .non H1
/-- self.f = e -/
def tXs (K : PySem.W.Frag) (f : Str) (to te : TE) : TS := fun D σ H => te σ H fun y H1 => to σ H1 fun x H2 => ∃ (a C : Addr) (n i : String), x = .ref a ∧ XcK K C n i ∧ PySem.W.findIn K (.ref C) f = some none ∧
  ((H2 a = some (exo a C none) ∧ ∀ dx, H2 dx = none → dx ≠ a → D.nx σ (upd (upd H2 dx (exd dx [(f, y)])) a (exo a C (some dx)))) ∨
    ∃ (dx : Addr) (fs : List (Str × V)), H2 a = some (exo a C (some dx)) ∧ H2 dx = some (exd dx fs) ∧ fs.length ≤ 900 ∧ D.nx σ (upd H2 dx (exd dx ((f, y) :: fs))))
section
variable {X : Cx} {o e : Expr} {es : List Expr} {to te : TE} {ta : TA} {f b : Str} {p p' p1 p2 pos : Pos} {i : String}
theorem ps_xs (ho : PE X o to) (he : PE X e te) (hs : swapsWith e (some (.Attribute o f p')) pos.line X.env = pure false := by rfl) : PS X (.Assign [.Attribute o f p'] e pos) (tXs X.K f to te) := by
  refine ⟨fun pins s σ H D I h => ?_⟩
  refine plainObj_wpAny_Assign_Attribute (thn (he.run pins s σ H _ I h) fun v s1 ⟨y, H1, I1, r1, q1⟩ => thn (ho.run pins s1 σ H1 _ I1 q1) fun u s2 ⟨x, H2, I2, r2, a, C, n, i, ex, T, hno, q⟩ => ?_) hs
  subst ex
  obtain rfl : u = Value.ref a := r2
  rcases q with ⟨ea, q⟩ | ⟨dx, fs, ea, ed, hl, q⟩
  · exact xst_new T I2 ea hno r1 fun dx s' nn ne J => ⟨σ, _, J, q dx nn ne⟩
  · exact xst_old T I2 ea ed hl hno r1 fun s' J => ⟨σ, _, J, q⟩
/-- how the name b stands for a class whose __init__ is the built-in i -/
def BaseI (X : Cx) (b : Str) (i : String) : Prop := ∀ (pins : List (Addr × Obj)) (s : Shared) (σ : L2.St) (H : Hp) (p : Pos) (pl : Sem Bool) (Q : Value × List Value → Shared → Prop), Inv X pins σ H s → (∀ t, Q (.builtin i, []) { s with toks := t }) →
  wpAny (model X.prog X.w) X.A (eval (.Name b p) X.env) (fun ov s1 => wpAny (model X.prog X.w) X.A (getMethod ov "__init__" pl) Q X.xe s1) X.xe s
theorem baseI_own {P : Addr} (hg : Gl X b) (hm : X.mg b = some (.ref P)) (h1 : PySem.W.specialIn X.K (.ref P) "__getattribute__" = some (some (.builtin "type.__getattribute__"))) (h2 : PySem.W.readsIn X.K P (.type "type") = true) (h3 : PySem.W.findCls X.K (.ref P) (.type "type") "__init__" = some (.val (.builtin i))) (hh : PySem.W.handedIn (.builtin i) = true) (hdb : (b == ("__debug__" : Str)) = false := by decide) : BaseI X b i := by
  intro pins s σ H p pl Q I q
  exact ld_glob I hg hm (PySem.W.method_cls I.kIn h1 (PySem.W.cls_value I.kIn h2 h3 hh (q _))) hdb
theorem pe_bi {pl : Sem Bool} (B : BaseI X b i) (ha : PA X (e :: es) ta)
    (hc : eval (.Call (.Attribute (.Name b p1) "__init__" p2) (e :: es) [] pos) X.env = (do let ov ← eval (.Name b p1) X.env; standAt p2.atName; let (f, first) ← holding [ov] (getMethod ov "__init__" pl); callWith pos f first (backTo pos (starEach (e :: es) X.env)) (backToKw pos (keywordEach [] X.env))) := by rfl)
    (he : starEach (e :: es) X.env = (false, eval e X.env) :: starEach es X.env := by rfl) (hpl : (backTo pos (starEach es X.env)).any (·.1) = false := by rfl) : PE X (.Call (.Attribute (.Name b p1) "__init__" p2) (e :: es) [] pos) (tBi X.K i ta) := by
  refine ⟨fun pins s σ H Q I h => ?_⟩
  refine PySem.W.methodCall_KW (B pins s σ H p1 pl _ I fun t => ?_) hc
  show wpAny _ _ (callWith pos (Value.builtin i) [] (backTo pos (starEach (e :: es) X.env)) []) _ _ _
  refine PyProof.Rows.callWith_method1 (thn (ha.run pos pins _ σ H _ (I.tok _) h) fun us s1 ⟨vs, H1, I1, r1, a, C, n, ws, ev, hl, T, ea, q⟩ => ?_) he hpl
  subst ev
  cases r1 with
  | @cons _ u0 _ ur ra rw' =>
    obtain rfl : u0 = Value.ref a := ra
    exact xin_ok T I1 ea (by rw [← Paired.length rw', sizeLine_eq]; omega) fun s' J => ⟨.non, H1, J, rfl, q⟩
end
end Mv

namespace Mv
open PySem L2 PyProof.Rows
/-- what an own exception's __init__ promises: the fields fl, one behind another -/
def spX (C : Addr) (fl : List Str) : Sp := fun vs H Q _ => ∃ (a : Addr) (ws : List V), vs = .ref a :: ws ∧ ws.length = fl.length ∧ H a = some (exo a C none) ∧
  ∀ dx H', H dx = none → dx ≠ a → (∀ b, b ≠ dx → b ≠ a → H' b = H b) → H' a = some (exo a C (some dx)) → H' dx = some (exd dx ((fl.zip ws).reverse)) → Q .non H'
/-- an own exception class that can be made -/
def OwnE (P : Program) (w : World) (K : PySem.W.Frag) (mg : Str → Option Value) (base : Heap) (k : Nat) (x : Str) (fl : List Str) : Prop :=
  ∃ (fI : Addr) (fd : FuncData) (ps : List Str) (n i : String), XcK K (He.ga K x) n i ∧ PySem.W.findIn K (.ref (He.ga K x)) "__init__" = some (some (.ref fI)) ∧ PySem.W.typeIn K (.ref fI) = some (.type "function") ∧
    FnOk P w K mg base CX0 k fI fd ps (spX (He.ga K x) fl) ∧ mg x = some (.ref (He.ga K x)) ∧ Binds K fd ps []
def tMkX (C : Addr) (fl : List Str) (ta : TA) : L2.St → Hp → XK → Prop := fun σ H Q => ta σ H fun vs H1 => vs.length = fl.length ∧ fl.length ≤ 1000 ∧ ∀ d, H1 d = none → Q (.ref C) (some d) (upd H1 d (.xd ((fl.zip vs).reverse)))
section
variable {X : Cx} {e : Expr} {es : List Expr} {ta : TA} {x : Str} {p pos : Pos} {k : Nat} {fl : List Str}
theorem pmk_x (O : OwnE X.prog X.w X.K X.mg X.base k x fl) (hr : Room (k + 1) X.A) (ha : PA X (e :: es) ta) (hg : Gl X x := by rfl) (hdb : (x == ("__debug__" : Str)) = false := by decide)
    (he : starEach (e :: es) X.env = (false, eval e X.env) :: starEach es X.env := by rfl) (hpl : (backTo pos (starEach es X.env)).any (·.1) = false := by rfl) : PMk X (.Call (.Name x p) (e :: es) [] pos) (tMkX (He.ga X.K x) fl ta) := by
  intro pins s σ H Q I h
  obtain ⟨fI, fd, ps, n, i, T, iC, tI, F1, hm, hb⟩ := O
  obtain ⟨nm, q, N, bs, bm, sn, sub, ab, col, dd, k0, k1, k2, k3, k5, hC, m⟩ := T.cls
  refine wpAny_Call_Name_kw (ld_glob I hg hm (PySem.W.callWith_K (h₀ := X.base) I.ok.mod.kin T.kp (thn (ha.run pos pins s σ H _ I h) fun us s1 ⟨vs, H1, I1, r1, hz, hf, q1⟩ => ⟨I1.kIn, ?_⟩) he hpl) hdb)
  show wpAny _ _ (call (.ref (He.ga X.K x)) us) _ _ _
  obtain ⟨hp, g, dr, tk, os⟩ := s1
  have hsz : hp.objs.size ≤ hp.objs.size + 1 := Nat.le_succ _
  have hn : H1 (hp.objs.size + 1) = none := I1.hok.fresh hsz
  have kk : ∀ b o, hp.get? b = some o → ((hp.push (PySem.W.kdv_tup us)).push (PySem.HandSPX.excO (He.ga X.K x) hp.objs.size)).get? b = some o := fun b o e => Heap.get?_push_of_some _ (Heap.get?_push_of_some _ e)
  have hget : ((hp.push (PySem.W.kdv_tup us)).push (PySem.HandSPX.excO (He.ga X.K x) hp.objs.size)).get? (hp.objs.size + 1) = some (PySem.HandSPX.excO (He.ga X.K x) hp.objs.size) := by heap_get
  have I2 : Inv X pins σ (upd H1 (hp.objs.size + 1) (exo (hp.objs.size + 1) (He.ga X.K x) none)) ⟨(hp.push (PySem.W.kdv_tup us)).push (PySem.HandSPX.excO (He.ga X.K x) hp.objs.size), g, dr, tk, os⟩ :=
    I1.laid (t' := tk) (a := hp.objs.size + 1) (o := exo (hp.objs.size + 1) (He.ga X.K x) none) (h' := (hp.push (PySem.W.kdv_tup us)).push (PySem.HandSPX.excO (He.ga X.K x) hp.objs.size)) kk hsz (exo_ok hget)
  have r2 : Vals (V.ref (hp.objs.size + 1) :: vs) (Value.ref (hp.objs.size + 1) :: us) := .cons rfl r1
  have hq : spX (He.ga X.K x) fl (V.ref (hp.objs.size + 1) :: vs) (upd H1 (hp.objs.size + 1) (exo (hp.objs.size + 1) (He.ga X.K x) none)) (fun v H2 => v = .non ∧ ∃ d, H2 (hp.objs.size + 1) = some (exo (hp.objs.size + 1) (He.ga X.K x) (some d)) ∧ H2 d = some (exd d ((fl.zip vs).reverse)) ∧ H1 d = none ∧ Q (.ref (He.ga X.K x)) (some d) (upd (del H2 (hp.objs.size + 1)) d (.xd ((fl.zip vs).reverse)))) (fun _ _ _ => False) := by
    refine ⟨_, vs, rfl, hz, upd_same, fun dx H' h1 h2 h3 h4 h5 => ⟨rfl, dx, h4, h5, ?_, ?_⟩⟩
    · rw [upd_ne h2] at h1; exact h1
    · have e1 : upd (del H' (hp.objs.size + 1)) dx (.xd ((fl.zip vs).reverse)) = upd H1 dx (.xd ((fl.zip vs).reverse)) := by
        funext b
        by_cases hb : b = dx
        · rw [hb, upd_same, upd_same]
        · rw [upd_ne hb, upd_ne hb]
          by_cases hb2 : b = hp.objs.size + 1
          · rw [hb2, del_same, hn]
          · rw [del_ne hb2, h3 b hb hb2, upd_ne hb2]
      rw [e1]
      rw [upd_ne h2] at h1
      exact q1 dx h1
  have hl : (Value.ref (hp.objs.size + 1) :: us).length = ps.length := by rw [← r2.length]; exact F1.len _ _ _ _ hq
  have hbs := hb ⟨(hp.push (PySem.W.kdv_tup us)).push (PySem.HandSPX.excO (He.ga X.K x) hp.objs.size), g, dr, tk, os⟩ (Value.ref (hp.objs.size + 1) :: us) I2.kIn (by rw [List.append_nil]; exact hl)
  rw [List.append_nil] at hbs
  refine wpAny_call (xcall m (I1.kIn _ _ hC) (PySem.W.looks_findIn I1.kIn iC) (fun self => PySem.W.bind_fn I1.kIn self tI) (by rw [← Paired.length r1, sizeLine_eq]; omega)
    (codeAny_mono (F1.run _ X.stack _ _ ⟨Value.ref (hp.objs.size + 1) :: us, []⟩ (Value.ref (hp.objs.size + 1) :: us) _ _ (fun _ _ _ => False) (hr.make _ us []) (I2.env0.make _ us []) hbs r2 hq) fun res s' hq' => ?_))
  cases res with
  | error er => exact hq'.elim
  | ok fl' =>
    cases fl' with
    | ret u =>
      obtain ⟨v, H2, os2, bare2, un2, hok2, rv, ev, d, ea, ed, hd1, q2⟩ := hq'
      subst ev
      obtain ⟨h2, g2, d2, t2, os'⟩ := s'
      exact ⟨rv, mk_end (raises_own T.ex T.ty) I1 hsz kk un2 hok2 os2 bare2 ea ed hd1 q2⟩
    | next => exact hq'.elim
    | brk => exact hq'.elim
    | cont => exact hq'.elim
/-- what is made is kept as a value -/
theorem exC_ok {P : Program} {w : World} {H : Hp} {h : Heap} {a C : Addr} {d : Option Addr} {oe : Obj} {vs : Array Value} (e : h.get? a = some oe) (z : Zc (.ref C) d oe) (hd : oe.data = .fields vs) : ObjOk P w H h a (ExC C d a) :=
  ⟨⟨oe, vs, e, z, hd⟩, ⟨oe, e⟩, fun _ _ ⟨o, v, q, r⟩ k => ⟨o, v, k o q, r⟩⟩
end
theorem RpFs.zip {Z : Kx} {B : Hp} : ∀ {fl : List Str} {vs : List V} {ds : List Dt}, RpAll Z B vs ds → RpFs Z B (fl.zip vs) (fl.zip ds)
  | [], _, _, _ => by simpa using RpFs.nil
  | _ :: _, _, _, .nil => .nil
  | f :: fl, _, _, .cons a r => .cons a (RpFs.zip r)
theorem RpFs.app {Z : Kx} {B : Hp} : ∀ {v v' : List (Str × V)} {d d' : List (Str × Dt)}, RpFs Z B v d → RpFs Z B v' d' → RpFs Z B (v ++ v') (d ++ d')
  | _, _, _, _, .nil, s => s
  | _, _, _, _, .cons a r, s => .cons a (r.app s)
theorem RpFs.rev {Z : Kx} {B : Hp} : ∀ {v : List (Str × V)} {d : List (Str × Dt)}, RpFs Z B v d → RpFs Z B v.reverse d.reverse
  | _, _, .nil => .nil
  | _, _, .cons a r => by rw [List.reverse_cons, List.reverse_cons]; exact (r.rev).app (.cons a .nil)
def mkX (x : Str) (fl : List Str) (ds : List Dt) : Wp Xn := .gd (ds.length = fl.length ∧ fl.length ≤ 1000) (.ret ⟨x, (fl.zip ds).reverse⟩)
section
variable {X : Cx} {E : XS} {Z : Kx} {e : Expr} {es : List Expr} {x : Str} {p pos pos2 : Pos} {k : Nat} {fl : List Str} {ma : Env → Wp (List Dt)}
/-- raise X(..) -/
theorem ms_raise {W : WX} (hc : X.calm = true) (tk : Takes X W) (O : OwnE X.prog X.w X.K X.mg X.base k x fl) (hr : Room (k + 1) X.A) (ha : MA X (WE W) (e :: es) ma) (hg : Gl X x := by rfl) (hdb : (x == ("__debug__" : Str)) = false := by decide)
    (he : starEach (e :: es) X.env = (false, eval e X.env) :: starEach es X.env := by rfl) (hpl : (backTo pos (starEach es X.env)).any (·.1) = false := by rfl) : MS X (WE W) (.Raise (some (.Call (.Name x p) (e :: es) [] pos)) none pos2) (fun ρ => (ma ρ).bind fun ds => (mkX x fl ds).bind fun n => .thr n) := by
  obtain ⟨t, pa, va⟩ := ha
  refine ⟨_, ps_raise hc tk (pmk_x O hr pa hg hdb he hpl), fun ρ => mn_bind (va.mn ρ) fun _ => mn_bind (mn_gd mn_ret) fun _ => mn_thr, fun B0 F ρ σ B H D s q => ?_⟩
  refine va.run B0 F ρ σ B H _ s (va.mn ρ _ _ _ _ (fun ds z vs B1 H1 g r => ?_) (fun _ z => z.sr s) q)
  obtain ⟨⟨z1, z2⟩, z⟩ := z
  refine ⟨by rw [r.len]; exact z1, z2, fun d nd => ?_⟩
  have g1 := Gr.new (o := .xd ((fl.zip vs).reverse)) g.bh nd
  have rf : RpFs (kx X) B1 ((fl.zip vs).reverse) ((fl.zip ds).reverse) := (RpFs.zip r).rev
  have z : PostXs (kx X) B0 F (WE W) ⟨x, (fl.zip ds).reverse⟩ := z
  exact z σ _ _ _ _ (s.fin.trans (g.trans g1)) ⟨rfl, .inr ⟨d, _, rfl, upd_same, rf.lg g1.b.lg⟩⟩
end
end Mv

namespace Mv
open PySem L2 PyProof.Rows
section
variable {X : Cx} {pins : List (Addr × Obj)} {σ : L2.St} {H : Hp} {s : Shared}
/-- an object that is none of the old ones, nor any that is leant on, may be tracked -/
theorem Inv.track {a : Addr} {o : HO} (I : Inv X pins σ H s) (h0 : X.s_0.heap.get? a = none) (hn : H a = none) (nL : a ≠ X.env.locals) (nC : ∀ x c, X.env.cells.lookup x = some c → c ≠ a) (nP : ∀ p ∈ X.pn ++ pins, p.1 ≠ a) (new : ObjOk X.prog X.w (upd H a o) s.heap a o) : Inv X pins σ (upd H a o) s := by
  have n0 : ∀ b u, X.s_0.heap.get? b = some u → b ≠ a := fun b u e z => by rw [z, h0] at e; cases e
  refine ⟨I.ok, I.os, I.bare, ⟨I.base.keep, I.base.slot, fun b u e n hx => by rw [upd_ne (n0 b u e)]; exact I.base.free b u e n hx, I.base.there, fun b xs e => ?_, fun b u xs e => ?_, fun b ps e => ?_⟩, I.loc, I.cell, by rw [upd_ne (Ne.symm nL)]; exact I.free, fun x c e => by rw [upd_ne (nC x c e)]; exact I.freeC x c e, fun p hp => ?_, ?_, I.len⟩
  · have := I.base.tups b xs e; rw [upd_ne (ne_of_none this hn)]; exact this
  · have := I.base.frzs b u xs e; rw [upd_ne (ne_of_none this hn)]; exact this
  · obtain ⟨m, this⟩ := I.base.tbls b ps e; exact ⟨m, by rw [upd_ne (ne_of_none this hn)]; exact this⟩
  · obtain ⟨q1, q2, q3⟩ := I.pin p hp; exact ⟨q1, by rw [upd_ne (nP p hp)]; exact q2, q3⟩
  · exact I.hok.laidN (fun _ _ q => q) hn new
end
/-- what the clause wishes of an exception of the body -/
def wCt (K : PySem.W.Frag) (c : Value) (i j : Nat) (Wout : WX) (D : Ends) : WX := fun cls d σ H =>
  ∃ b, PySem.W.exmOne K cls c = some b ∧ (b = true → ∀ a, H a = none → ∃ C, cls = .ref C ∧ D.nx (((σ.set i (some (.ref a))).set j (some (.ref a))).set i none) (upd H a (ExC C d a))) ∧ (b = false → Wout cls d σ H)
section
variable {X : Cx} {x n y : Str} {c : Value} {i j : Nat} {body : List Stmt} {np pos pos' p1 p2 p3 : Pos} {tb : WX → TS} {Wout : WX}
theorem ps_tryC (hs : X.stack = X.env :: X.outer) (hf : X.env.frame = some X.env.locals) (hN : X.N.Nodup) (hi : X.N[i]? = some n) (hln : X.env.kindOf n = some .local) (hj : X.N[j]? = some y) (hlj : Loc X.env.scope y) (hfj : X.fn y = true ∨ X.env.scope.names.lookup y = some .local) (hsw : swapsWith (.Name n p2) (some (.Name y p1)) p3.line X.env = pure false) (hdn : (n == ("__debug__" : Str)) = false) (hdc : (n == ("__classdict__" : Str)) = false) (hij : i ≠ j) (hil : i < X.N.length) (hex : X.ex = []) (hc : Names X x c) (tk : Takes X Wout)
    (hb : ∀ (W : WX) (pn : List (Addr × Obj)) (xe : Value → Shared → Prop), Takes (X.tr pn xe) W → PassesOwn (model X.prog X.w) X.A X.env xe → PSs (X.tr pn xe) body (tb W)) :
    PS X (.Try body [.ExceptHandler (some (.Name x np)) (some n) [.Assign [.Name y p1] (.Name n p2) p3] pos'] [] [] pos) (fun D σ H => tb (wCt X.K c i j Wout D) D σ H) := by
  refine ⟨fun pins s σ H D I h => ?_⟩
  have ok := I.ok
  have hfr : X.A.frames = some (X.env :: X.outer) := by rw [ok.frames, hs]
  have hloc : Loc X.env.scope n := .inl hln
  refine wpAny_Try_except ?_
  refine wpAny_mono ((hb (wCt X.K c i j Wout D) (X.pn ++ pins) (fun e s1 => wpAny (model X.prog X.w) X.A (noteFrame e X.env) (fun _ s2 => wpAny (model X.prog X.w) X.A (setFlight e none) (fun _ s3 => wpAny (model X.prog X.w) X.A (handleBy e X.env [.ExceptHandler (some (.Name x np)) (some n) [.Assign [.Name y p1] (.Name n p2) p3] pos']) (SP X pins D) X.xe s3) X.xe s2) X.xe s1) (fun u s' xx => ?_) PassesOwn.looking).run [] s σ H D (I.toTry _) h) (fun f s1 hsp => ?_) (fun e s1 he => he)
  · obtain ⟨a, B, sI, pins', σ', H', cls, d, rfl, J', nb, up, sky, na, os, ag, b, hb1, hyes, hno⟩ := xx
    have J : Inv X pins σ' H' sI := J'.ofTry ok
    have sky' : Sky B (X.env :: X.outer) a (Zc cls d) X.env.locals s'.heap := by rw [← hs]; exact sky
    show wpAny (model X.prog X.w) X.A (noteFrame (.ref a) X.env) _ _ _
    refine Sky.land Zc.steady hfr hf sky' fun h3 fl3 up3 => ?_
    have J3 : Inv X pins σ' H' { s' with heap := h3 } := J.landed nb fl3.1 (up.trans up3) os ag
    obtain ⟨oe3, vs3, he3, hz3, hd3⟩ := fl3.there
    have nfr : a ∉ frs (X.env :: X.outer) := fun hm => by
      obtain ⟨_, o', e', hnf⟩ := fl3.2.2.1.mem hm
      rw [he3] at e'; cases e'
      exact hnf _ hd3
    have nL : a ≠ X.env.locals := fun z => nfr (List.mem_filterMap.mpr ⟨X.env, List.mem_cons_self, by rw [hf, z]⟩)
    have nF : a ∉ X.fs := fun hm => by
      obtain ⟨e, he, q⟩ := List.mem_filterMap.mp hm
      exact nfr (List.mem_filterMap.mpr ⟨e, List.mem_cons_of_mem _ he, q⟩)
    have nI : sI.heap.get? a = none := by
      cases q : sI.heap.get? a with
      | none => rfl
      | some o =>
        have := nb a o q (by rw [hs]; exact nfr)
        rw [fl3.2.1] at this; cases this
    have n0 : X.s_0.heap.get? a = none := by
      cases q : X.s_0.heap.get? a with
      | none => rfl
      | some o =>
        obtain ⟨o', z⟩ := J.base.there a o q (by rw [hex]; simp)
        rw [nI] at z; cases z
    have S3 := J3.suite he3 hd3 na nL nF
    refine wpAny_handleBy_cons (codeAny_handlers_test ?_) (by intro q; cases q)
    have LT : PySem.W.Looks (model X.prog X.w) h3 (typeOf (.ref a)) cls := fun A Q E s k q => wpAny_typeOf_ref (k _ _ he3) (by rw [hz3.1]; exact q)
    have LM := PySem.W.exm_one (M := model X.prog X.w) (J3.kIn) LT hb1
    have test : ∀ {Q : Value → Shared → Prop} {E : Value → Shared → Prop}, Q c { s' with heap := h3 } → wpAny (model X.prog X.w) (X.A.mark (some (.ref a))) (eval (.Name x np) X.env) Q E { s' with heap := h3 } := fun {Q E} q => by
      obtain ⟨hg, hdbg, hm | ⟨hm, hv, hnn⟩⟩ := hc
      · exact ld_glob (X := X.suite a ((a, oe3) :: (X.pn ++ pins))) S3 hg hm q hdbg
      · exact ld_blt (X := X.suite a ((a, oe3) :: (X.pn ++ pins))) S3 hg hm hv q hnn hdbg
    refine test (LM.here ?_)
    cases b with
    | true =>
      refine codeAny_handlers_suite_as (HandSPX.lands_againZ fl3 fun h4 fl4 up4 => ?_)
      have J4 : Inv X pins σ' H' { s' with heap := h4 } := J.landed nb fl4.1 ((up.trans up3).trans up4) os ag
      obtain ⟨oe4, vs4, he4, hz4, hd4⟩ := fl4.there
      have S4 := J4.suite he4 hd4 na nL nF
      refine store_ok (X := X.suite a ((a, oe4) :: (X.pn ++ pins))) (v := .ref a) S4 hN hi hloc rfl (fun s5 S5 => ?_) (.inr hln)
      obtain ⟨C, rfl, hq⟩ := hyes rfl a na
      have σl : i < σ'.length := by rw [J.len]; exact hil
      have su : PSs (X.suite a ((a, oe4) :: (X.pn ++ pins))) [.Assign [.Name y p1] (.Name n p2) p3] _ := pss_one (ps_set (i := j) hN hj hlj (pe_var (i := i) hi (.inl hln) hdn hdc) hsw hfj)
      refine wpAny_mono (su.run [] s5 _ H' { nx := fun σ6 H6 => σ6 = ((σ'.set i (some (.ref a))).set j (some (.ref a))) ∧ H6 = H', rt := fun _ _ => False, bk := fun _ _ => False, ct := fun _ _ => False } S5 ⟨.ref a, List.getElem?_set_self σl, rfl, rfl⟩) (fun f s6 hsp => ?_) (fun _ _ z => False.elim z)
      cases f with
      | next =>
        obtain ⟨σ6, H6, S6, rfl, rfl⟩ := hsp
        refine gone_ok (X := X.suite a ((a, oe4) :: (X.pn ++ pins))) S6 hN hi hln fun s7 S7 => ⟨_, _, ?_, hq⟩
        obtain ⟨ha7, _⟩ := S7.pin (a, oe4) (List.mem_append_left _ List.mem_cons_self)
        have U7 : Inv X pins _ _ s7 := S7.unsuite ok
        refine Inv.track U7 n0 na nL (fun z cc e => ?_) (fun pp hp z => ?_) (exC_ok ha7 hz4 hd4)
        · intro z; subst z
          obtain ⟨v, o, ho, hdd⟩ := J.cell _ _ e
          rw [nI] at ho; cases ho
        · have := (J.pin pp hp).1
          rw [z, nI] at this; cases this
      | brk => obtain ⟨_, _, _, z⟩ := hsp; exact z.elim
      | cont => obtain ⟨_, _, _, z⟩ := hsp; exact z.elim
      | ret u => obtain ⟨_, _, _, _, _, z⟩ := hsp; exact z.elim
    | false =>
      show wpAny _ X.A (handleBy (.ref a) X.env []) _ _ _
      refine wpAny_handleBy_nil ?_
      obtain ⟨k1, k2, k3, oe, vs, T, oT, ts', he, hz, hd, h1, hr⟩ := id fl3
      unfold PySem.passOn
      refine wpAny_bind (wpAny_field he hd h1 ?_)
      rw [if_neg (show ¬ ((Value.ref T == Value.none) = true) from by simp)]
      have fin : wpAny (model X.prog X.w) X.A (setFlight (.ref a) X.env.frame) (fun _ s4 => wpAny (model X.prog X.w) X.A (throw (.ref a) : Sem Flow) (SP X pins D) X.xe s4) X.xe { s' with heap := h3 } := by
        rw [hf]
        refine HandSPX.setFlight_upZ fl3 fun h4 hh4 up4 => wpAny_throw (tk _ _ ?_)
        exact ⟨a, B, sI, pins, σ', H', cls, d, rfl, J, nb, (up.trans up3).trans up4, .inr (.inr (by rw [hs]; exact hh4)), na, os, ag, hno rfl⟩
      first
        | exact wpAny_bind (wpAny_pure (wpAny_bind fin))
        | exact wpAny_bind fin
  · cases f with
    | next => obtain ⟨σ', H', J', q⟩ := hsp; exact wpAny_execs_nil ⟨σ', H', J'.ofTry ok, q⟩
    | brk => obtain ⟨σ', H', J', q⟩ := hsp; exact ⟨σ', H', J'.ofTry ok, q⟩
    | cont => obtain ⟨σ', H', J', q⟩ := hsp; exact ⟨σ', H', J'.ofTry ok, q⟩
    | ret u => obtain ⟨v, σ', H', J', r, q⟩ := hsp; exact ⟨v, σ', H', J'.ofTry ok, r, q⟩
end
end Mv

namespace Mv
open PySem L2 PyProof.Rows
def PostXB (Z : Kx) (B0 F : Hp) (ρ : Env) (σ : L2.St) (W : WX) : Xn → Prop := fun x => ∀ c o B' H', SR Z B0 F ρ σ B' H' → XnOk Z x c o B' → W c o σ H'
/-- a try's body: where it raises, the names stand as at its start -/
structure EvB (Z : Kx) (W : WX) (ts : TS) (m : Env → Wp Fl) : Prop where
  mn : ∀ ρ, Mn (m ρ)
  run : ∀ B0 F ρ σ B H (D : Ends), SR Z B0 F ρ σ B H → m ρ (PostS Z B0 F D) (PostXB Z B0 F ρ σ W) → ts D σ H
def MB (X : Cx) (W : WX) (st : List Stmt) (m : Env → Wp Fl) : Prop := ∃ ts, PSs X st ts ∧ EvB (kx X) W ts m
def canS (Z : Kx) (W : WX) (m : Env → Wp Fl) : TS := fun D σ H => ∃ B0 F ρ B, SR Z B0 F ρ σ B H ∧ m ρ (PostS Z B0 F D) (PostXB Z B0 F ρ σ W)
section
variable {X : Cx} {W : WX} {e : Expr} {pos pos' : Pos} {B0 F B H : Hp} {ρ : Env} {σ : L2.St}
theorem MB.can {st : List Stmt} {m : Env → Wp Fl} (h : MB X W st m) : PSs X st (canS (kx X) W m) := by
  obtain ⟨ts, p, v⟩ := h
  exact ⟨fun pins s σ H D I ⟨B0, F, ρ, B, sr, q⟩ => p.run pins s σ H D I (v.run B0 F ρ σ B H D sr q)⟩
theorem PostXB.x {Z : Kx} {x : Xn} (q : PostXB Z B0 F ρ σ W x) (s : SR Z B0 F ρ σ B H) : PostX Z B H (WE W σ) x := fun c o B' H' g r => q c o B' H' (s.gr g) r
theorem mb_if {c : Expr} {a b : List Stmt} {mc : Env → Wp Bool} {m n : Env → Wp Fl} (hc : MT X (WE W) c mc) (h : MB X W a m) (k : MB X W b n) : MB X W [.If c a b pos] (fun ρ => wIf (mc ρ) (m ρ) (n ρ)) := by
  obtain ⟨tc, pc, vc⟩ := hc
  obtain ⟨t, p, v⟩ := h
  obtain ⟨u, q, w⟩ := k
  refine ⟨_, pss_one (ps_if pc p q), fun ρ => mn_wIf (vc.mn ρ) (v.mn ρ) (w.mn ρ), fun B0 F ρ σ B H D s q => vc.run B0 F ρ σ B H _ s (vc.mn ρ _ _ _ _ (fun b z B1 H1 g => ?_) (fun _ z => z.x s) q)⟩
  cases b with
  | true => exact iteT (v.run B0 F ρ σ B1 H1 D (s.gr g) z)
  | false => exact iteF (w.run B0 F ρ σ B1 H1 D (s.gr g) z)
end
/-- by a table: which classes the clause takes -/
def tryC (tb : List (Str × Bool)) (i j : Nat) (m : Env → Wp Fl) (ρ : Env) : Wp Fl := fun Q E => m ρ Q fun x => match tb.lookup x.c with
  | some true => Q (.nx (((ρ.set i .no).set j (.fz (.exc x.c x.fs))).set i .no))
  | some false => E x
  | none => False
def HasTb (K : PySem.W.Frag) (c : Value) (tb : List (Str × Bool)) : Prop := ∀ x b, tb.lookup x = some b → PySem.W.exmOne K (.ref (He.ga K x)) c = some b
theorem hasTb_nil {K : PySem.W.Frag} {c : Value} : HasTb K c [] := fun x b h => by simp at h
theorem hasTb_cons {K : PySem.W.Frag} {c : Value} {x : Str} {b : Bool} {tb : List (Str × Bool)} (h : PySem.W.exmOne K (.ref (He.ga K x)) c = some b) (k : HasTb K c tb) : HasTb K c ((x, b) :: tb) := fun y b' hy => by
  by_cases e : y = x
  · subst e; simp [List.lookup] at hy; subst hy; exact h
  · have e1 : (y == x) = false := by simpa using e
    simp only [List.lookup, e1] at hy
    exact k y b' hy
theorem mn_tryC {tb : List (Str × Bool)} {i j : Nat} {m : Env → Wp Fl} {ρ : Env} (h : Mn (m ρ)) : Mn (tryC tb i j m ρ) := fun Q Q' E E' a b q => h _ _ _ _ a (fun x z => by
  cases k : tb.lookup x.c with
  | none => simp only [k] at z
  | some t =>
    cases t with
    | true => simp only [k] at z ⊢; exact a _ z
    | false => simp only [k] at z ⊢; exact b _ z) q
section
variable {X : Cx} {x n y : Str} {i j : Nat} {body : List Stmt} {np pos pos' p1 p2 p3 : Pos} {Wout : WX} {m : Env → Wp Fl}
theorem ms_tryC (i j : Nat) (tb : List (Str × Bool)) (hN : X.N.Nodup) (tk : Takes X Wout) (hT : HasTb X.K (.ref (He.ga X.K x)) tb) (hm : X.mg x = some (.ref (He.ga X.K x)))
    (hb : ∀ (W : WX) (pn : List (Addr × Obj)) (xe : Value → Shared → Prop), Takes (X.tr pn xe) W → PassesOwn (model X.prog X.w) X.A X.env xe → MB (X.tr pn xe) W body m)
    (hs : X.stack = X.env :: X.outer := by rfl) (hf : X.env.frame = some X.env.locals := by rfl) (hi : X.N[i]? = some n := by rfl) (hln : X.env.kindOf n = some .local := by rfl) (hj : X.N[j]? = some y := by rfl) (hlj : Loc X.env.scope y := by first | exact Or.inl rfl | exact Or.inr rfl) (hfj : X.fn y = true ∨ X.env.scope.names.lookup y = some .local := by first | exact .inl rfl | exact .inr rfl)
    (hsw : swapsWith (.Name n p2) (some (.Name y p1)) p3.line X.env = pure false := by rfl) (hdn : (n == ("__debug__" : Str)) = false := by decide) (hdc : (n == ("__classdict__" : Str)) = false := by decide) (hij : i ≠ j := by decide) (hex : X.ex = [] := by rfl) (hg : Gl X x := by rfl) (hdb : (x == ("__debug__" : Str)) = false := by decide) :
    MS X (WE Wout) (.Try body [.ExceptHandler (some (.Name x np)) (some n) [.Assign [.Name y p1] (.Name n p2) p3] pos'] [] [] pos) (fun ρ => tryC tb i j m ρ) := by
  have mnm : ∀ ρ, Mn (m ρ) := fun ρ => by
    obtain ⟨_, _, v⟩ := hb (fun _ _ _ _ => False) X.pn (fun _ _ => False) (fun u s' ⟨a, B, sI, pins, σ, H, cls, d, e, I, nb, up, sky, na, os, ag, w⟩ => w.elim) PassesOwn.never
    exact v.mn ρ
  refine ⟨_, ps_tryC (tb := fun W => canS (kx X) W m) hs hf hN hi hln hj hlj hfj hsw hdn hdc hij (List.getElem?_eq_some_iff.mp hi).1 hex ⟨hg, hdb, .inl hm⟩ tk (fun W pn xe t p => (hb W pn xe t p).can), fun ρ => mn_tryC (mnm ρ), fun B0 F ρ σ B H D s q => ?_⟩
  refine ⟨B0, F, ρ, B, s, mnm ρ _ _ _ _ (fun _ z => z) (fun e z c o B' H' s' r => ?_) q⟩
  obtain ⟨rfl, rd⟩ := r
  cases k : tb.lookup e.c with
  | none => simp only [k] at z
  | some t =>
    refine ⟨t, hT _ _ k, fun ht a na => ⟨_, rfl, ?_⟩, fun ht => ?_⟩
    · subst ht
      simp only [k] at z
      have g := Gr.new (o := ExC (He.ga X.K e.c) o a) s'.bh na
      have s2 := s'.gr g
      have rx : Rp (kx X) (upd B' a (ExC (He.ga X.K e.c) o a)) (.ref a) (.exc e.c e.fs) := by
        rcases rd with ⟨rfl, h0⟩ | ⟨dd, vs, rfl, h1, h2⟩
        · rw [h0]; exact .exc0 upd_same
        · have ne : dd ≠ a := ne_of_none (s'.bh _ _ h1) na
          exact .exc upd_same (by rw [upd_ne ne]; exact h1) (h2.lg g.b.lg)
      exact z _ _ _ (((s2.wipe1 (i := i) (o := some (.ref a))).set rx).wipe1)
    · subst ht
      simp only [k] at z
      exact z σ _ _ _ _ s'.fin ⟨rfl, rd⟩
end
/-- e.f of an exception of one of the classes cs -/
def pyXf (cs : List Str) (f : Str) (d : Dt) : Wp Dt := match d with
  | .exc c fs => .gd (c ∈ cs) (ofO (fs.lookup f))
  | _ => .bad
theorem mn_pyXf {cs : List Str} {f : Str} {d : Dt} : Mn (pyXf cs f d) := by
  cases d <;> first | exact mn_gd (mn_ofO _) | exact mn_bad
theorem RpFs.lk {Z : Kx} {B : Hp} (f : Str) : ∀ {vs : List (Str × V)} {xs : List (Str × Dt)} {d : Dt}, RpFs Z B vs xs → xs.lookup f = some d → ∃ v, vs.lookup f = some v ∧ Rp Z B v d
  | _, _, d, .nil, h => by simp at h
  | _, _, d, .cons (k := k) a r, h => by
    by_cases e : f = k
    · subst e; simp [List.lookup] at h ⊢; subst h; exact a
    · have e1 : (f == k) = false := by simpa using e
      simp only [List.lookup, e1] at h ⊢
      exact r.lk f h
section
variable {X : Cx} {E : XS} {e : Expr} {pos p : Pos} {f : Str} {m : Env → Wp Dt}
theorem me_xfld (cs : List Str) (hT : ∀ c ∈ cs, XfC X.K (He.ga X.K c) ∧ PySem.W.findIn X.K (.ref (He.ga X.K c)) f = some none) (he : ME X E e m) (hb : attributeBase e f X.env (eval e X.env) = eval e X.env := by rfl) : ME X E (.Attribute e f pos) (fun ρ => (m ρ).bind (pyXf cs f)) := by
  obtain ⟨te, pe, ve⟩ := he
  refine ⟨fun σ H Q => te σ H fun x H1 => ∃ (c : Str) (a dd : Addr) (fs : List (Str × V)) (v : V), c ∈ cs ∧ x = .ref a ∧ H1 a = some (ExC (He.ga X.K c) (some dd) a) ∧ H1 dd = some (.xd fs) ∧ fs.lookup f = some v ∧ Q v H1, ⟨fun pins s σ H Q I h => ?_⟩, fun ρ => mn_bind (ve.mn ρ) fun _ => mn_pyXf, fun B0 F ρ σ B H Q s q => ve.run B0 F ρ σ B H _ s (ve.mn ρ _ _ _ _ (fun d k u B1 H1 g r => ?_) (fun _ z => z) q)⟩
  · refine attr_of hb (thn (pe.run pins s σ H _ I h) fun u s1 ⟨x, H1, I1, rx, c, a, dd, fs, v, hc, ex, ea, ed, l, q⟩ => ?_)
    subst ex
    obtain rfl : u = Value.ref a := rx
    obtain ⟨T, hno⟩ := hT c hc
    obtain ⟨⟨oe, vs, ho, hz, hd⟩, _, _⟩ := I1.hok a _ ea
    obtain ⟨mA, hns, hr⟩ : ObjOk X.prog X.w H1 s1.heap dd (.xd fs) := I1.hok dd _ ed
    obtain ⟨od, hod, hl⟩ := lookIn_ns hns
    obtain ⟨u, hu, ru⟩ := RelO.some_of (v := v) (o := mA f) (by rw [← l]; exact hr f)
    have J : PySem.W.InstAt s1.heap a oe (He.ga X.K c) (some od) := ⟨ho, hz.1, by unfold PySem.W.notCls; rw [hd] <;> rfl, by rw [hz.2]; exact hod⟩
    exact HandSPX.exc_get I1.kIn J T.ga T.gg T.exC (PySem.W.findObj_own T.hdC hno rfl (by rw [hl, hu])) (handed_of ru) ⟨v, H1, I1.tok _, ru, q⟩
  · cases d with
    | exc c fs =>
      obtain ⟨hc, k⟩ := k
      cases r with
      | exc h1 h2 h3 =>
        cases hl : fs.lookup f with
        | none => rw [hl] at k; exact k.elim
        | some d =>
          rw [hl] at k
          obtain ⟨v, hv, rv⟩ := h3.lk f hl
          exact ⟨c, _, _, _, v, hc, rfl, g.bh _ _ h1, g.bh _ _ h2, hv, k v B1 H1 g rv⟩
      | exc0 h1 => simp at k; exact k.elim
    | _ => exact k.elim
end
/-- what isinstance leans on of the class -/
structure XisC (K : PySem.W.Frag) (C : Addr) : Prop where
  ga : PySem.W.findIn K (.ref C) "__getattribute__" = some (some (.builtin "BaseException.__getattribute__"))
  gg : PySem.W.findIn K (.ref C) "__getattr__" = some none
  ex : PySem.W.subIn K (.ref C) (.type "BaseException") = some true
  hd : PySem.W.hasDictIn K C = true
  ca : PySem.W.findIn K (.ref C) "__class__" = some (some (.builtin "object.__class__"))
  cg : PySem.W.specialIn K (.builtin "object.__class__") "__get__" = some (some (.builtin "getset_descriptor.__get__"))
  ct : PySem.W.takesIn K (.builtin "object.__class__") = some true
  cm : PySem.W.mroIn K C (.type "object") = some true
theorem XcK.is {K : PySem.W.Frag} {C : Addr} {n i : String} (T : XcK K C n i) : XisC K C := ⟨T.ga, T.gg, T.ex, T.hd, T.ca, T.cg, T.ct, T.cm⟩
end Mv

namespace Mv
open PySem L2 PyProof.Rows
def keyP : Key → PyData
  | .inl i => .int i
  | .inr x => .str x
mutual
def pyD : Dt → PyData
  | .bl b => .bool b
  | .int i => .int i
  | .str x => .str x
  | .lst xs => .list (pyDs xs)
  | .tup xs => .tuple (pyDs xs)
  | .dct kvs => .dict (pyKv kvs)
  | _ => .none
def pyDs : List Dt → List PyData
  | [] => []
  | x :: xs => pyD x :: pyDs xs
def pyKv : List (Key × Dt) → List (PyData × PyData)
  | [] => []
  | (k, d) :: r => (keyP k, pyD d) :: pyKv r
end
mutual
def okR : Dt → Bool
  | .non => true
  | .bl _ => true
  | .int _ => true
  | .str _ => true
  | .lst xs => okRs xs
  | .tup xs => okRs xs
  | .dct kvs => okRk kvs
  | _ => false
def okRs : List Dt → Bool
  | [] => true
  | x :: xs => okR x && okRs xs
def okRk : List (Key × Dt) → Bool
  | [] => true
  | (_, d) :: r => okR d && okRk r
end
theorem key_reads {h : Heap} {k : Key} {v : Value} (e : keyIs k v = true) : Reads h v (keyP k) [] := by
  rcases keyIs_shape e with ⟨i, t, rfl, rfl⟩ | ⟨x, t, rfl, rfl⟩
  · exact Reads.int i t
  · exact Reads.str x t
theorem pairs_reads {P : Program} {w : World} {h : Heap} : ∀ {es : List DictEntry} {vs : List (Key × Value)} {ds : List PyData} {as : List Addr}, Pairs (mixKind P w) es vs → ReadsAll h (vs.map (·.2)) ds as →
    ReadsAll h (es.map (·.key)) (vs.map fun kv => keyP kv.1) [] ∧ ReadsAll h (es.map (·.val)) ds as
  | _, _, _, _, .nil, r => by cases r; exact ⟨.nil, .nil⟩
  | _, _, _, _, .cons a b c, r => by
    cases r with
    | cons r1 r2 =>
      obtain ⟨q1, q2⟩ := pairs_reads c r2
      refine ⟨?_, ?_⟩
      · have := ReadsAll.cons (key_reads a) q1
        simpa using this
      · rw [List.map_cons, b]; exact .cons r1 q2
theorem pyKv_fst : ∀ kvs : List (Key × Dt), (pyKv kvs).map (·.1) = kvs.map fun kv => keyP kv.1
  | [] => rfl
  | (k, d) :: r => by simp [pyKv, pyKv_fst r]
theorem pyKv_snd : ∀ kvs : List (Key × Dt), (pyKv kvs).map (·.2) = pyDs (kvs.map (·.2))
  | [] => rfl
  | (k, d) :: r => by simp [pyKv, pyDs, pyKv_snd r]
theorem okRk_all : ∀ kvs : List (Key × Dt), okRk kvs = true → okRs (kvs.map (·.2)) = true
  | [], _ => rfl
  | (k, d) :: r, h => by
    simp only [okRk, Bool.and_eq_true] at h
    simp [okRs, h.1, okRk_all r h.2]
section
variable {X : Cx} {pins : List (Addr × Obj)} {σ : L2.St} {H B : Hp} {s : Shared}
theorem no_sys (I : Inv X pins σ H s) (hS : (X.K.lookup sysModules).isSome = true) : H sysModules = none := by
  obtain ⟨o, ho⟩ := Option.isSome_iff_exists.mp hS
  exact (I.bs _ _ (I.ok.mod.kin _ _ ho)).2
theorem ne_sys (I : Inv X pins σ H s) (hS : (X.K.lookup sysModules).isSome = true) {a : Addr} {o : HO} (h : H a = some o) : sysModules ≠ a := fun z => by
  rw [← z, no_sys I hS] at h; cases h
theorem KV.vals {vs : List (Key × V)} {us : List (Key × Value)} (r : KV vs us) : Vals (vs.map (·.2)) (us.map (·.2)) ∧ vs.map (·.1) = us.map (·.1) := by
  induction r with
  | nil => exact ⟨.nil, rfl⟩
  | cons a _ ih => exact ⟨.cons a.2 ih.1, by simp [a.1, ih.2]⟩
/-- a dict, by its values -/
theorem dict_reads (I : Inv X pins σ H s) {a : Addr} {vs : List (Key × V)} {xs : List (Key × Dt)} (h : Rd H a (.dK vs)) (ek : vs.map (·.1) = xs.map (·.1)) (q : ∀ us, Vals (vs.map (·.2)) us → ∃ as, ReadsAll s.heap us (pyDs (xs.map (·.2))) as ∧ sysModules ∉ as) : ∃ as, Reads s.heap (.ref a) (.dict (pyKv xs)) as ∧ sysModules ∉ as := by
  obtain ⟨_, hsm, us, kv, o, es, ep, ho, ex, hd, ke, pr, nd⟩ := dk_rd I.hok h
  obtain ⟨rv, ek2⟩ := KV.vals kv
  obtain ⟨as, ra, hn⟩ := q _ rv
  obtain ⟨r1, r2⟩ := pairs_reads pr ra
  have e1 : (us.map fun kv => keyP kv.1) = xs.map fun kv => keyP kv.1 := by
    have z : (us.map (·.1)).map keyP = (xs.map (·.1)).map keyP := by rw [← ek2, ek]
    simpa [List.map_map, Function.comp_def] using z
  rw [e1, ← pyKv_fst] at r1
  rw [← pyKv_snd] at r2
  have hne : sysModules ≠ a := fun z => by rw [← z] at hsm; simp at hsm
  refine ⟨_, Reads.dict ho ex.1 hd r1 r2, ?_⟩
  simp only [List.append_nil, List.cons_append, List.nil_append, List.mem_cons, not_or]
  exact ⟨hne, hn⟩
theorem RpKv.keysE {Z : Kx} : ∀ {vs : List (Key × V)} {xs : List (Key × Dt)}, RpKv Z B vs xs → vs.map (·.1) = xs.map (·.1)
  | _, _, .nil => rfl
  | _, _, .cons _ r => by simp [r.keysE]
theorem RpKv.snd {Z : Kx} : ∀ {vs : List (Key × V)} {xs : List (Key × Dt)}, RpKv Z B vs xs → RpAll Z B (vs.map (·.2)) (xs.map (·.2))
  | _, _, .nil => .nil
  | _, _, .cons a r => .cons a r.snd
theorem Rp.rds (I : Inv X pins σ H s) (hS : (X.K.lookup sysModules).isSome = true) (e : Ex B H) {v : V} {d : Dt} (r : Rp (kx X) B v d) : okR d = true → ∀ u, RelV v u → ∃ as, Reads s.heap u (pyD d) as ∧ sysModules ∉ as := by
  refine Rp.rec (motive_1 := fun v d _ => okR d = true → ∀ u, RelV v u → ∃ as, Reads s.heap u (pyD d) as ∧ sysModules ∉ as) (motive_2 := fun vs ds _ => okRs ds = true → ∀ us, Vals vs us → ∃ as, ReadsAll s.heap us (pyDs ds) as ∧ sysModules ∉ as)
    (motive_3 := fun vs ds _ => okRk ds = true → ∀ us, Vals (vs.map (·.2)) us → ∃ as, ReadsAll s.heap us (pyDs (ds.map (·.2))) as ∧ sysModules ∉ as) (motive_4 := fun _ _ _ => True) ?_ ?_ ?_ ?_ ?_ ?_ ?_ ?_ ?_ ?_ ?_ ?_ ?_ ?_ ?_ ?_ ?_ ?_ ?_ ?_ ?_ ?_ ?_ r
  · intro _ u r; cases r; exact ⟨[], by simp only [pyD]; exact Reads.none, by simp⟩
  · intro b _ u r; cases r; exact ⟨[], by simp only [pyD]; exact Reads.bool b, by simp⟩
  · intro i _ u r; obtain ⟨t, rfl⟩ := r; exact ⟨[], by simp only [pyD]; exact Reads.int i t, by simp⟩
  · intro x _ u r; obtain ⟨t, rfl⟩ := r; exact ⟨[], by simp only [pyD]; exact Reads.str x t, by simp⟩
  · intro a vs xs h ra ih ok u r
    cases r
    have hH := e _ _ h
    obtain ⟨its, rv, ⟨o, n, ho, hc, _, hd⟩, _⟩ := I.list (xs := vs) (.inl (.inl hH))
    obtain ⟨as, hr, hn⟩ := ih (by simpa [okR] using ok) its rv
    exact ⟨_, by simp only [pyD]; exact Reads.list ho hc hd hr, by simp only [List.mem_cons, not_or]; exact ⟨ne_sys I hS hH, hn⟩⟩
  · intro a vs xs h ra ih ok u r
    cases r
    obtain ⟨its, rv, ⟨o, ho, hc, n, hd⟩, _⟩ := I.tuple (xs := vs) (e.lg.sqt h)
    obtain ⟨as, hr, hn⟩ := ih (by simpa [okR] using ok) its rv
    exact ⟨_, by simp only [pyD]; exact Reads.tuple ho hc hd hr, hn⟩
  · intro a o vs xs h ra ih ok u r
    cases r
    have hk := ih (by simpa [okR] using ok)
    simp only [pyD]
    exact dict_reads I (.inr ⟨o, e _ _ h⟩) ra.keysE hk
  · intro a dx c vs xs h ra ih ok; simp [okR] at ok
  · intro x ok; simp [okR] at ok
  · intro n ok; simp [okR] at ok
  · intro a ns h ok; simp [okR] at ok
  · intro a g n h1 h2 ok; simp [okR] at ok
  · intro a l h ok; simp [okR] at ok
  · intro a dd c vs xs h1 h2 h3 _ ok; simp [okR] at ok
  · intro a c h1 ok; simp [okR] at ok
  · intro a o vs xs h1 h2 h3 _ ok; simp [okR] at ok
  · intro a ok; simp [okR] at ok
  · intro _ us r; cases r; exact ⟨[], by simp only [pyDs]; exact .nil, by simp⟩
  · intro v vs d ds r1 r2 i1 i2 ok us r
    simp only [okRs, Bool.and_eq_true] at ok
    cases r with
    | cons ra rb =>
      obtain ⟨as, q1, n1⟩ := i1 ok.1 _ ra
      obtain ⟨bs, q2, n2⟩ := i2 ok.2 _ rb
      exact ⟨as ++ bs, by simp only [pyDs]; exact .cons q1 q2, by simp [n1, n2]⟩
  · intro _ us r; cases r; exact ⟨[], by simp only [List.map_nil, pyDs]; exact .nil, by simp⟩
  · intro k v vs d ds r1 r2 i1 i2 ok us r
    simp only [okRk, Bool.and_eq_true] at ok
    cases r with
    | cons ra rb =>
      obtain ⟨as, q1, n1⟩ := i1 ok.1 _ ra
      obtain ⟨bs, q2, n2⟩ := i2 ok.2 _ rb
      exact ⟨as ++ bs, by simp only [List.map_cons, pyDs]; exact .cons q1 q2, by simp [n1, n2]⟩
  · trivial
  · intros; trivial
theorem RpAll.rds (I : Inv X pins σ H s) (hS : (X.K.lookup sysModules).isSome = true) (e : Ex B H) : ∀ {vs : List V} {ds : List Dt}, RpAll (kx X) B vs ds → okRs ds = true → ∀ us, Vals vs us → ∃ as, ReadsAll s.heap us (pyDs ds) as ∧ sysModules ∉ as
  | _, _, .nil, _, us, r => by cases r; exact ⟨[], by simp only [pyDs]; exact .nil, by simp⟩
  | _, _, .cons a q, ok, us, r => by
    simp only [okRs, Bool.and_eq_true] at ok
    cases r with
    | cons ra rb =>
      obtain ⟨as, q1, n1⟩ := a.rds I hS e ok.1 _ ra
      obtain ⟨bs, q2, n2⟩ := RpAll.rds I hS e q ok.2 _ rb
      exact ⟨as ++ bs, by simp only [pyDs]; exact .cons q1 q2, by simp [n1, n2]⟩
theorem Rq.rds (I : Inv X pins σ H s) (hS : (X.K.lookup sysModules).isSome = true) (e : Ex B H) {v : V} {d : Dt} (r : Rq (kx X) B H v d) (ok : okR d = true) {u : Value} (ru : RelV v u) : ∃ as, Reads s.heap u (pyD d) as ∧ sysModules ∉ as := by
  cases r with
  | fz r => exact r.rds I hS e ok u ru
  | ol h ra n =>
    cases ru
    rename_i vs xs
    obtain ⟨its, rv, ⟨o, n, ho, hc, _, hd⟩, _⟩ := I.list (xs := vs) (.inl (.inl h))
    obtain ⟨as, hr, hn⟩ := ra.rds I hS e (by simpa [okR] using ok) its rv
    exact ⟨_, by simp only [pyD]; exact Reads.list ho hc hd hr, by simp only [List.mem_cons, not_or]; exact ⟨ne_sys I hS h, hn⟩⟩
  | od h ra n =>
    cases ru
    simp only [pyD]
    exact dict_reads I (.inl h) ra.keysE fun us rv => ra.snd.rds I hS e (okRk_all _ (by simpa [okR] using ok)) us rv
end
def pyReprD : List Dt → Wp Dt
  | [d] => .gd (okR d = true ∧ (pyD d).showable = true ∧ (pyD d).depth ≤ 64 ∧ (pyD d).shown.length ≤ sizeLine) (.ret (.str (pyD d).shown))
  | _ => .bad
section
variable {X : Cx} {E : XS} {e : Expr} {pos p : Pos}
def rReprD (X : Cx) : List V → Hp → VK → Prop := fun xs H Q => ∃ x B d, xs = [x] ∧ Ex B H ∧ Rq (kx X) B H x d ∧ okR d = true ∧ (pyD d).showable = true ∧ (pyD d).depth ≤ 64 ∧ (pyD d).shown.length ≤ sizeLine ∧ Q (.str (pyD d).shown) H
theorem cr_reprD (hu : X.A.units + 66 < cLine) (hgd : X.A.guards = some []) (hS : (X.K.lookup sysModules).isSome = true) : CallR X (.builtin "repr") (rReprD X) := by
  intro pins s σ H xs us Q I r h
  obtain ⟨x, B, d, rfl, hB, rq, ok, hsh, hdp, hsz, q⟩ := h
  cases r with
  | cons ru r0 =>
    cases r0
    rename_i u
    have done : ∀ (tk : Nat) (t : Tok), EP X pins σ Q (.str (pyD d).shown t) { s with toks := tk } := fun tk t => ⟨.str _, H, I.tok tk, ⟨t, rfl⟩, q⟩
    obtain ⟨as, rd, hn⟩ := rq.rds I hS hB ok ru
    cases d with
    | non => cases rq with | fz rp => cases rp; cases ru; simp only [pyD] at done; exact PySem.P.repr_of_none (done _ _)
    | bl b => cases rq with | fz rp => cases rp; cases ru; simp only [pyD] at done; exact PySem.P.repr_of_bool (by have := done (s.toks + 1) s.toks; simpa only [PyData.shown] using this)
    | int i => cases rq with | fz rp => cases rp; obtain ⟨t, rfl⟩ := ru; simp only [pyD] at done hsh; exact PySem.P.repr_of_int (by simpa [PyData.showable] using hsh) (done _ _)
    | str t => cases rq with | fz rp => cases rp; obtain ⟨t, rfl⟩ := ru; simp only [pyD] at done hsz; exact PySem.P.repr_of_str (done _ _) hsz
    | lst xs =>
      obtain ⟨a, vs, rfl, _, _⟩ := rq.lst hB
      cases ru
      exact PySem.repr_of_reads' rd hsh (fun _ => hn) hgd (by omega) (fun _ _ e => e) (fun h' t tk hk => ⟨.str _, H, I.kept hk, ⟨t, rfl⟩, q⟩) hsz
    | tup xs =>
      obtain ⟨a, vs, rfl, _, _⟩ := rq.tup hB
      cases ru
      exact PySem.repr_of_reads' rd hsh (fun _ => hn) hgd (by omega) (fun _ _ e => e) (fun h' t tk hk => ⟨.str _, H, I.kept hk, ⟨t, rfl⟩, q⟩) hsz
    | dct xs =>
      obtain ⟨a, vs, rfl, _, _⟩ := rq.dct hB
      cases ru
      exact PySem.repr_of_reads' rd hsh (fun _ => hn) hgd (by omega) (fun _ _ e => e) (fun h' t tk hk => ⟨.str _, H, I.kept hk, ⟨t, rfl⟩, q⟩) hsz
    | _ => simp [okR] at ok
theorem cd_reprD : CallD (kx X) (rReprD X) pyReprD := by
  refine ⟨fun ds => by unfold pyReprD; split <;> first | exact mn_gd mn_ret | exact mn_bad, fun ds vs B H Q Ex' e r0 q => ?_⟩
  unfold pyReprD at q
  split at q
  · obtain ⟨v, rfl, r⟩ := r0.one
    obtain ⟨⟨h0, h2, h3, h4⟩, q⟩ := q
    exact ⟨_, B, _, rfl, e, r, h0, h2, h3, h4, post_ref q e (.str _)⟩
  · exact q.elim
end
end Mv

namespace Mv
open PySem L2 PyProof.Rows
theorem xlen {C : Addr} {fl : List Str} {vs : List V} {H : Hp} {Q : VK} {E : XK} (h : spX C fl vs H Q E) : vs.length = fl.length + 1 := by
  obtain ⟨a, ws, rfl, hl, _⟩ := h
  simp [hl]
theorem xi_read1 {K : PySem.W.Frag} {C : Addr} {n i : String} {f msg p : Str} (T : XcK K C n i) (hno : PySem.W.findIn K (.ref C) f = some none) {vs : List V} {H : Hp} {Q : VK} {E : XK} (h : spX C [f] vs H Q E) :
    tSeq (tDrop (tBi K i (tCons (tVar 0) (tCons (tC (.str msg)) tNil)))) (tXs K f (tVar 0) (tVar 1)) { nx := fun _ H' => Q .non H', rt := Q } (start ["self", p] vs) H := by
  obtain ⟨a, ws, rfl, hl, ha, q⟩ := h
  match ws, hl with
  | [v], _ =>
    refine ⟨.ref a, rfl, a, C, n, [.str msg], rfl, by show 1 ≤ 1000; decide, T, ha, v, rfl, .ref a, rfl, a, C, n, i, rfl, T, hno, .inl ⟨ha, fun dx h1 h2 => ?_⟩⟩
    refine q dx _ h1 h2 (fun b n1 n2 => by rw [upd_ne n2, upd_ne n1]) upd_same ?_
    rw [upd_ne h2, upd_same]; rfl
/-- what the head says of such a class -/
structure XoK (K : PySem.W.Frag) (x : Str) : Prop where
  ex : PySem.W.excIn K (He.ga K x) He.veBase "ValueError.__new__" = true
  kp : PySem.W.keepIn K (.ref (He.ga K x)) = true
  sb : PySem.W.subIn K (.ref (He.ga K x)) (.type "BaseException") = some true
  ty : PySem.W.typeIn K (.ref (He.ga K x)) = some (.type "type")
section
variable {X : Cx} {E : XS} {x m : Str} {j} {p p2 pos pos2 : Pos}
end
theorem bioB_ok {K : PySem.W.Frag} {x : Str} {i : String} (h : bioB K x i = true) : PySem.W.specialIn K (.ref (He.ga K x)) "__getattribute__" = some (some (.builtin "type.__getattribute__")) ∧ PySem.W.readsIn K (He.ga K x) (.type "type") = true ∧ PySem.W.findCls K (.ref (He.ga K x)) (.type "type") "__init__" = some (.val (.builtin i)) := by
  simp only [bioB, Bool.and_eq_true, decide_eq_true_eq] at h
  obtain ⟨⟨h1, h2⟩, h3⟩ := h
  refine ⟨h1, h2, ?_⟩
  split at h3
  · rename_i j e; rw [e, of_decide_eq_true h3]
  · cases h3
theorem xflB_ok {K : PySem.W.Frag} {cs : List Str} {f : Str} (h : xflB K cs f = true) : ∀ c ∈ cs, XfC K (He.ga K c) ∧ PySem.W.findIn K (.ref (He.ga K c)) f = some none := fun c hc => by
  have := List.all_eq_true.mp h c hc
  simp only [Bool.and_eq_true, decide_eq_true_eq] at this
  exact ⟨xfB_ok this.1, this.2⟩
end Mv

namespace Mv
open PySem L2 PyProof.Rows
theorem takesZ {X : Cx} : Takes X (fun _ _ _ _ => False) := fun _ _ ⟨_, _, _, _, _, _, _, _, _, _, _, _, _, _, _, _, w⟩ => w.elim
theorem _root_.L2.Room.u66 {k : Nat} {A : Around} (r : Room k A) : A.units + 66 < cLine := by have := r.un; omega
end Mv

namespace Mv
open PySem L2 PyProof.Rows

theorem mn_c_is_integer (ds : List Dt) : Mn (c_is_integer ds) := by unfold c_is_integer; split <;> first | exact mn_ret | exact mn_gd mn_ret | exact mn_bad
theorem mn_c_is_name (ds : List Dt) : Mn (c_is_name ds) := by unfold c_is_name; split <;> first | exact mn_ret | exact mn_gd mn_ret | exact mn_bad
theorem mn_c_is_mark (ds : List Dt) : Mn (c_is_mark ds) := by unfold c_is_mark; split <;> first | exact mn_ret | exact mn_gd mn_ret | exact mn_bad
theorem mn_c_are_bases (ds : List Dt) : Mn (c_are_bases ds) := by unfold c_are_bases; split <;> first | exact mn_bind (mn_ofO _) fun _ => mn_ret | exact mn_bad
theorem mn_c_is_kind (ds : List Dt) : Mn (c_is_kind ds) := by unfold c_is_kind; split <;> first | exact mn_bind (mn_ofO _) fun _ => mn_ret | exact mn_bad
theorem mn_c__law_begun (ds : List Dt) : Mn (c__law_begun ds) := fun Q Q' E E' h _ ⟨L, a, b, q⟩ => ⟨L, a, b, h _ q⟩
theorem mn_c__law_next (ds : List Dt) : Mn (c__law_next ds) := mn__law_next ds
theorem mn_c__law_titles (ds : List Dt) : Mn (c__law_titles ds) := fun Q Q' E E' h _ ⟨a, q⟩ => ⟨a, fun ts t => h _ (q ts t)⟩
theorem mn_c__law_sign (ds : List Dt) : Mn (c__law_sign ds) := by unfold c__law_sign; split <;> first | exact mn_ret | exact mn_bad
theorem mn_c__law_frame (ds : List Dt) : Mn (c__law_frame ds) := fun Q Q' E E' h _ ⟨m, a, b, c, q⟩ => ⟨m, a, b, c, fun L o l k => h _ (q L o l k)⟩
theorem mn_c__law_under (ds : List Dt) : Mn (c__law_under ds) := fun Q Q' E E' h _ ⟨d, L, a, b, c, q⟩ => ⟨d, L, a, b, c, h _ q⟩
theorem mn_c__law_word (ds : List Dt) : Mn (c__law_word ds) := fun Q Q' E E' h _ ⟨l, a, q⟩ => ⟨l, a, h _ q⟩
theorem mn_c__law_marks (ds : List Dt) : Mn (c__law_marks ds) := fun Q Q' E E' h _ ⟨L, w, a, b, q⟩ => ⟨L, w, a, b, fun f hf => h _ (q f hf)⟩
theorem mn_c__law_marked (ds : List Dt) : Mn (c__law_marked ds) := fun Q Q' E E' h _ ⟨L, w, a, b, q⟩ => ⟨L, w, a, b, fun f hf => h _ (q f hf)⟩
theorem mn_c__law_layout (ds : List Dt) : Mn (c__law_layout ds) := fun Q Q' E E' h _ ⟨m, a, b, c, q⟩ => ⟨m, a, b, c, fun L o l => h _ (q L o l)⟩

def c_law (ds : List Dt) : Wp Dt := fun Q _ => ∃ ns : List Int, ds = [.scr ns] ∧ ns.length ≤ 63 ∧ Q (.bl true)
theorem law_start {K : PySem.W.Frag} {P : Program} {w : World} {H : Hp} {a : Addr} {ns : List Int} (hl : ns.length ≤ 63) (hO : Only H) (hS : SqL K H a (ns.map V.int)) : spM ⟨K, P, w⟩ 1 c_law [.ref a] H (fun v _ => v = .bl true) fun _ _ _ => False :=
  ⟨rfl, H, [.scr ns], Ex.refl H, .cons (.scr hS) .nil, ns, rfl, hl, fun v B' H' g r => by cases r; rfl⟩
theorem k_mkX1 (x f : PySem.Str) (d : Dt) (Q : Xn → Prop) (E : Xn → Prop) : mkX x [f] [d] Q E = Q ⟨x, [(f, d)]⟩ := by
  show Wp.gd _ _ Q E = _
  rw [gd_t _ ⟨rfl, by show 1 ≤ 1000; decide⟩]; rfl
theorem pyXf_ok {cs : List PySem.Str} {c f : PySem.Str} {fs : List (PySem.Str × Dt)} {d : Dt} (h1 : c ∈ cs) (h2 : fs.lookup f = some d) (Q : Dt → Prop) (E : Xn → Prop) : pyXf cs f (.exc c fs) Q E = Q d := by
  show Wp.gd _ _ Q E = _
  rw [gd_t _ h1, h2]; rfl
theorem k_isN (c : PySem.Str) (fs : List (PySem.Str × Dt)) (Q : Dt → Prop) (E : Xn → Prop) : pyIs (.exc c fs) .non Q E = Q (.bl false) := rfl
end Mv

namespace Mv
open PySem L2 PyProof.Rows
theorem k_setF {a : Addr} {c f : PySem.Str} {fs : List (PySem.Str × Fv)} {ρ : Env} {x : Sl} {v : Fv} (h1 : fs.lookup f = none) (h2 : fs.length < 1000) (h3 : slFv x = some v) (Q : Fl → Prop) (E : Xn → Prop) : setF (.oo a c fs :: ρ) 0 c f x Q E = Q (.nx (.oo a c (fs ++ [(f, v)]) :: ρ)) := by
  show (Wp.gd _ _) Q E = _
  rw [gd_t _ ⟨rfl, h1, h2⟩, h3]; rfl
theorem k_fzFA (i : Nat) (f : PySem.Str) (m : Wp Fl) (Q : Fl → Prop) (E : Xn → Prop) : fzFA i f m Q E = m (flK (fun ρ => .ret (.nx (fzF i f ρ))) Q E) E := by
  show m _ E = m _ E
  congr 1; funext r; cases r <;> rfl
theorem LayAt.mid : ∀ {pre : List Kd} {k : Kd} {rest : List Kd} {seen : List PySem.Str} {e : Int}, LayAt seen e (pre ++ k :: rest) → KdOk k ∧ k.nm ∉ seen ++ pre.map Kd.nm ∧ (∀ b ∈ k.bs, b ∈ seen ++ pre.map Kd.nm) ∧ e ≤ k.ed ∧ ∀ j ∈ pre, j.ed ≤ k.ed
  | [], k, rest, seen, e, h => ⟨h.1, by simpa using h.2.1, by simpa using h.2.2.2.1, h.2.2.1, by simp⟩
  | j :: pre, k, rest, seen, e, h => by
    obtain ⟨h1, h2, h3, h4, h5⟩ := h
    obtain ⟨a, b, c, d, f⟩ := LayAt.mid (pre := pre) h5
    simp only [List.append_assoc, List.singleton_append] at b c
    refine ⟨a, by simpa using b, by simpa using c, by omega, fun i hi => ?_⟩
    rcases List.mem_cons.mp hi with rfl | hi
    · exact d
    · exact f i hi
theorem LayOk.mid {L pre rest : List Kd} {k : Kd} (h : LayOk L) (e : L = pre ++ k :: rest) : KdOk k ∧ k.nm ∉ pre.map Kd.nm ∧ (∀ b ∈ k.bs, b ∈ pre.map Kd.nm) ∧ ∀ j ∈ pre, j.ed ≤ k.ed := by
  have := h.at_
  rw [e] at this
  obtain ⟨a, b, c, d, f⟩ := LayAt.mid this
  exact ⟨a, by simpa using b, by simpa using c, f⟩
def undP (ns : List PySem.Str) (pre : List Kd) : Tab := pre.foldl (stepU ns) []
theorem undP_snoc (ns : List PySem.Str) (pre : List Kd) (k : Kd) : undP ns (pre ++ [k]) = undP ns pre ++ [(k.nm, ns.filter fun o => decide (o ∈ ownOf (undP ns pre) k.bs))] := by
  rw [undP, List.foldl_append]; rfl
theorem snocI {α : Type} {P : List α → Prop} (h0 : P []) (h1 : ∀ l a, P l → P (l ++ [a])) (l : List α) : P l := by
  rw [← List.reverse_reverse l]
  induction l.reverse with
  | nil => exact h0
  | cons a l ih => rw [List.reverse_cons]; exact h1 _ a ih
theorem undP_keys (ns : List PySem.Str) (pre : List Kd) : (undP ns pre).map (·.1) = pre.map Kd.nm := by
  refine snocI (P := fun pre => (undP ns pre).map (·.1) = pre.map Kd.nm) rfl (fun l a ih => ?_) pre
  rw [undP_snoc]; simp [ih]
theorem lk_mem {T : Tab} {b : PySem.Str} {l : List PySem.Str} (h : T.lookup b = some l) : (b, l) ∈ T := by
  induction T with
  | nil => simp at h
  | cons r T ih =>
    rw [List.lookup_cons] at h
    cases e : (b == r.1) with
    | true =>
      rw [e] at h
      have e1 : b = r.1 := by simpa using e
      have e2 : r.2 = l := by simpa using h
      rw [e1, ← e2]; exact List.mem_cons_self
    | false => rw [e] at h; exact List.mem_cons_of_mem _ (ih h)
theorem lk_some {T : Tab} {b : PySem.Str} (h : b ∈ T.map (·.1)) : (T.lookup b).isSome = true := by
  induction T with
  | nil => simp at h
  | cons r T ih =>
    rw [List.lookup_cons]
    cases e : (b == r.1) with
    | true => rfl
    | false =>
      have e1 : b ≠ r.1 := by simpa using e
      rcases List.mem_cons.mp h with h | h
      · exact absurd h e1
      · exact ih h
theorem undP_row (ns : List PySem.Str) (pre : List Kd) : ∀ r ∈ undP ns pre, r.2 ⊆ ns ∧ r.2.length ≤ ns.length := by
  refine snocI (P := fun pre => ∀ r ∈ undP ns pre, r.2 ⊆ ns ∧ r.2.length ≤ ns.length) (fun r hr => by cases hr) (fun l a ih => ?_) pre
  · intro r hr
    rw [undP_snoc] at hr
    rcases List.mem_append.mp hr with hr | hr
    · exact ih r hr
    · rw [List.mem_singleton] at hr
      subst hr
      exact ⟨fun x hx => (List.mem_filter.mp hx).1, List.length_filter_le _ _⟩
theorem put_tab {T : Tab} {x : PySem.Str} {l : List PySem.Str} (h : x ∉ T.map (·.1)) : putD (tabD T) (.inr x) (.tup (l.map Dt.str)) = tabD (T ++ [(x, l)]) := put_mapT strT T x l h
theorem lk_last {T : Tab} {x : PySem.Str} {l : List PySem.Str} (h : x ∉ T.map (·.1)) : (T ++ [(x, l)]).lookup x = some l := by
  induction T with
  | nil => simp [List.lookup]
  | cons r T ih =>
    simp only [List.map_cons, List.mem_cons, not_or] at h
    have e : (x == r.1) = false := by simpa using h.1
    rw [List.cons_append, List.lookup_cons, e]
    exact ih h.2
def rtsP (L : List Kd) (T : Tab) : Tab := T.map fun r => (r.1, r.2.filter (isRoot L))
theorem eq_nilT {bs : List PySem.Str} (h : ∀ b ∈ bs, nameB b = true) (Q : Dt → Prop) (E : Xn → Prop) : pyEq (.tup (bs.map Dt.str)) (.tup []) Q E = Q (.bl bs.isEmpty) := by
  have h1 : Pl (.tup (bs.map Dt.str)) := (Pl.tup (n := 0) (by decide) fun x hx => by
    obtain ⟨b, hb, rfl⟩ := List.mem_map.mp hx
    exact pl0_str (let_ok (nameB_size (h b hb)).2.2)).1
  have h2 : Pl (.tup []) := (Pl.tup (n := 0) (by decide) fun x hx => by cases hx).1
  rw [pyEq_pl h1 h2]
  show Q (.bl _) = _
  congr 2
  cases bs with
  | nil => exact eqD_self h2
  | cons b bs => exact Bool.eq_false_iff.mpr fun z => by cases (eqD_iff h1 h2).mp z
section
variable {a : Addr} {ρ : Env} {d e : Dt} {k l : Fv} {kvs : List (Key × Dt)} {p q r s : Fv} (Q : Fl → Prop) (E : Xn → Prop)
theorem sf_plan : setF (.oo a "Chart" [] :: ρ) 0 "Chart" "plan" (.fz d) Q E = Q (.nx (.oo a "Chart" [("plan", .fz d)] :: ρ)) := k_setF rfl (by simp) rfl Q E
theorem sf_kinds : setF (.oo a "Chart" [("plan", p)] :: ρ) 0 "Chart" "kinds" (.fz d) Q E = Q (.nx (.oo a "Chart" [("plan", p), ("kinds", .fz d)] :: ρ)) := k_setF rfl (by simp) rfl Q E
theorem sf_under : setF (.oo a "Chart" [("plan", p), ("kinds", q)] :: ρ) 0 "Chart" "under" (.od kvs) Q E = Q (.nx (.oo a "Chart" [("plan", p), ("kinds", q), ("under", .od kvs)] :: ρ)) := k_setF rfl (by simp) rfl Q E
theorem sf_roots : setF (.oo a "Chart" [("plan", p), ("kinds", q), ("under", r)] :: ρ) 0 "Chart" "roots" (.od kvs) Q E = Q (.nx (.oo a "Chart" [("plan", p), ("kinds", q), ("under", r), ("roots", .od kvs)] :: ρ)) := k_setF rfl (by simp) rfl Q E
theorem sf_final : setF (.oo a "Chart" [("plan", p), ("kinds", q), ("under", r), ("roots", s)] :: ρ) 0 "Chart" "final" (.fz d) Q E = Q (.nx (.oo a "Chart" [("plan", p), ("kinds", q), ("under", r), ("roots", s), ("final", .fz d)] :: ρ)) := k_setF rfl (by simp) rfl Q E
end
theorem k_dck {i : Nat} {ρ : Env} {L : List Kd} (nd : (L.map Kd.nm).Nodup) (hl : L.length ≤ sizeLine) (hi : i < ρ.length) (Q : List (Key × Dt) → Prop) (E : Xn → Prop) : dcompL (fun ρ => Wp.ret true) (fun ρ => (gR ρ i).bind fun x => (Wp.ret (Dt.int 0)).bind fun y => pyIx x y) (fun ρ => gF ρ i) (aN i) ρ (L.map Kd.d) [] Q E = Q (kindsD L) := by
  have := dc_kinds (ρ := ρ) (i := i) L nd hl hi
  exact congrFun (congrFun this Q) E
theorem k_dct {i : Nat} {ρ : Env} {l : List PySem.Str} (hl : l.length ≤ sizeLine) (hi : i < ρ.length) (Q : List (Key × Dt) → Prop) (E : Xn → Prop) : dcompL (fun ρ => Wp.ret true) (fun ρ => gF ρ i) (fun ρ => Wp.ret (Dt.bl true)) (aN i) ρ (l.map Dt.str) [] Q E = Q (seenD (uni [] l)) := by
  have := dc_true (ρ := ρ) (i := i) l hl hi
  exact congrFun (congrFun this Q) E
theorem k_negI (i : Int) (Q : Dt → Prop) (E : Xn → Prop) : pyNeg (.int i) Q E = Q (.int (-i)) := rfl
theorem le_ChartE (x : Addr) (ds : List Dt) (Q : Dt → Prop) (E E2 : Xn → Prop) (h : c_Chart ds Q E) : fnWpI 11 "Chart" mb_Chart___init__ x ds Q E2 := by
  obtain ⟨L, rfl, hL, h⟩ := h
  have sl : sizeLine = 16777216 := by decide
  have nd := hL.nodup
  have l2 := hL.l2
  simp only [fnWpI, mb_Chart___init__, List.map_cons, List.map_nil, List.replicate, List.length_cons, List.length_nil, Nat.reduceSub, Nat.reduceAdd, List.cons_append, List.nil_append, EV]
  refine ⟨L, rfl, hL, ?_⟩
  simp only [EV, sf_plan, layD]
  rw [k_dck nd (by omega) (by simp)]
  obtain ⟨M, z, hM⟩ : ∃ M z, L = M ++ [z] := ⟨L.dropLast, L.getLast (by intro e; have := hL.l1; rw [e] at this; simp at this), (List.dropLast_concat_getLast _).symm⟩
  have hz : atI (L.map Kd.d) (-1) = some z.d := by rw [hM, List.map_append, List.map_cons, List.map_nil]; exact L2.atI_last _ _
  simp only [EV, sf_kinds, sf_under, sf_roots, k_negI, hz, sf_final, k_fzFA]
  have kd := fun k hk => LayAt.kinds hL.at_ k hk
  refine k_for Kd.d (l := L) (fun pre ρ => ∃ s2 s3 s4 s5 s6 s7 s8 : Sl, ρ = [objF x L (undP (L.map Kd.nm) pre) (rtsP L (undP (L.map Kd.nm) pre)) z.ed, .fz (layD L), s2, s3, s4, s5, s6, s7, s8, .no, .no]) ⟨_, _, _, _, _, _, _, rfl⟩ ?_ ?_
  · rintro pre k rest ρ K e ⟨s2, s3, s4, s5, s6, s7, s8, rfl⟩ hK
    obtain ⟨ok, hnm, hbs, _⟩ := hL.mid e
    simp only [lb_Chart___init___1, EV]
    rw [k_dct (by have := ok.bl; omega) (by simp)]
    rw [uni_nil k.bs [] (by simpa using ok.bd)]
    obtain ⟨s8', hu⟩ := under_loop (x := x) (L := L) (T := undP (L.map Kd.nm) pre) (R := rtsP L (undP (L.map Kd.nm) pre)) (e := z.ed) (a1 := .fz (layD L)) (a2 := .fz (.str k.nm)) (a3 := .fz (.int k.ed)) (a4 := .fz (.tup (k.bs.map Dt.str))) (a5 := .fz (.str k.lt)) (a6 := .fz (.str k.mr)) (s9 := .no) (s10 := .no) (fun b l hbl => by have := (undP_row _ _ _ (lk_mem hbl)).2; simp at this; omega) k.bs k.bs s8 (fun b hb => lk_some (by rw [undP_keys]; exact hbs b hb)) (by have := ok.bl; omega)
    rw [List.nil_append, hu]
    have hown : k.bs.foldl (fun acc b => uni acc (uni [] (rowT (undP (L.map Kd.nm) pre) b))) k.bs = ownOf (undP (L.map Kd.nm) pre) k.bs := rfl
    rw [hown]
    have ek : (kindsD L).map (fun kv => keyDt kv.1) = (L.map Kd.nm).map Dt.str := by simp [kindsD, keyDt]
    have hT : k.nm ∉ (undP (L.map Kd.nm) pre).map (·.1) := by rw [undP_keys]; exact hnm
    have hl : pre.length < 24 := by have := congrArg List.length e; simp at this; omega
    have hlT : (undP (L.map Kd.nm) pre).length = pre.length := by have := congrArg List.length (undP_keys (L.map Kd.nm) pre); simpa using this
    simp only [EV, o_kindsF, ek]
    refine k_comp Dt.str (fun o => decide (o ∈ ownOf (undP (L.map Kd.nm) pre) k.bs)) Dt.str (l := L.map Kd.nm) (by simp; omega) (fun o ho K1 K0 h1 h0 => ?_) ?_
    · simp only [EV, look_seen]
      by_cases hp : o ∈ ownOf (undP (L.map Kd.nm) pre) k.bs
      · rw [if_pos (by simpa using hp)]; exact h1 (by simpa using hp)
      · rw [if_neg (by simpa using hp)]; exact h0 (by simpa using hp)
    simp only [EV, o_underD, List.nil_append]
    refine ⟨by simp only [tabD, List.length_map]; omega, ?_⟩
    rw [o_setU (put_tab hT), ← undP_snoc]
    simp only [EV, o_under]
    have hr : lookD (tabD (undP (L.map Kd.nm) (pre ++ [k]))) (.inr k.nm) = some (strT ((L.map Kd.nm).filter fun o => decide (o ∈ ownOf (undP (L.map Kd.nm) pre) k.bs))) := by
      rw [undP_snoc, look_tab, lk_last hT]; rfl
    rw [hr]
    simp only [EV, strT]
    refine k_comp Dt.str (isRoot L) Dt.str (by have := List.length_filter_le (fun o => decide (o ∈ ownOf (undP (L.map Kd.nm) pre) k.bs)) (L.map Kd.nm); simp at this ⊢; omega) (fun o ho K1 K0 h1 h0 => ?_) ?_
    · obtain ⟨j, hj, rfl⟩ := List.mem_map.mp (List.mem_filter.mp ho).1
      have ir : isRoot L j.nm = j.bs.isEmpty := by unfold isRoot; rw [find_nm nd hj]
      simp only [EV, o_kinds, look_kinds nd hj, eq_nilT (kd j hj).bn]
      rw [ir] at h1 h0
      cases hb : j.bs.isEmpty with
      | true => exact h1 hb
      | false => exact h0 hb
    simp only [EV, o_rootsD, List.nil_append]
    refine ⟨by simp only [tabD, rtsP, List.length_map]; omega, ?_⟩
    rw [o_setR (put_tab (by rw [rtsP, List.map_map]; exact hT))]
    have e2 : rtsP L (undP (L.map Kd.nm) pre) ++ [(k.nm, List.filter (isRoot L) (List.filter (fun o => decide (o ∈ ownOf (undP (L.map Kd.nm) pre) k.bs)) (L.map Kd.nm)))] = rtsP L (undP (L.map Kd.nm) (pre ++ [k])) := by
      rw [undP_snoc]
      simp only [rtsP, List.map_append, List.map_cons, List.map_nil]
    rw [e2]
    exact hK _ ⟨_, _, _, _, _, _, _, rfl⟩
  · rintro ρ ⟨s2, s3, s4, s5, s6, s7, s8, rfl⟩
    have hf : (L.getLast?.map Kd.ed).getD 0 = z.ed := by rw [hM]; simp
    rw [chartD, hf] at h
    exact ⟨⟨rfl, rfl⟩, h⟩
end Mv

namespace Mv
open PySem L2 PyProof.Rows
section
variable {L : List Kd} (Q : Dt → Prop) (E : Xn → Prop)
theorem ch_plan : pyFld "Chart" "plan" (chartD L) Q E = Q (layD L) := by
  show (Wp.gd _ _) Q E = _
  rw [gd_t _ rfl]; rfl
theorem ch_kinds : pyFld "Chart" "kinds" (chartD L) Q E = Q (.dct (kindsD L)) := by
  show (Wp.gd _ _) Q E = _
  rw [gd_t _ rfl]; rfl
theorem ch_under : pyFld "Chart" "under" (chartD L) Q E = Q (.dct (tabD (unders L))) := by
  show (Wp.gd _ _) Q E = _
  rw [gd_t _ rfl]; rfl
theorem ch_meth {m : PySem.Str} {mf : List Dt → Wp Dt} {ms : Wp (List Dt)} (h : m ∉ (["plan", "kinds", "under", "roots", "final"] : List PySem.Str)) : pyMeth "Chart" m mf (chartD L) ms Q E = ms (fun ds => mf (chartD L :: ds) Q E) E := by
  show (Wp.gd _ _) Q E = _
  rw [gd_t]
  · rfl
  · refine ⟨rfl, ?_⟩
    simp only [List.mem_cons, List.not_mem_nil, or_false, not_or] at h
    simp only [List.lookup, show ∀ y : PySem.Str, (m == y) = decide (m = y) from fun y => by rfl, h, decide_false]
end
def watchedL (L : List Kd) (k : Kd) : List PySem.Str := (L.filter fun j => decide (j.ed < k.ed) && inS j.lt k.mr).map Kd.nm
def c_Chart_watched (ds : List Dt) : Wp Dt := fun Q _ => ∃ L k, ds = [chartD L, .str k.nm] ∧ LayOk L ∧ k ∈ L ∧ Q (strT (watchedL L k))
theorem mn_c_Chart_watched (ds : List Dt) : Mn (c_Chart_watched ds) := fun Q Q' E E' h _ ⟨L, k, a, b, c, q⟩ => ⟨L, k, a, b, c, h _ q⟩
def mb_Chart_watched : Env → Wp Fl := fun ρ =>
    (Wp.fl (Wp.bind (Wp.bind (Wp.bind (Wp.bind (Wp.bind (gF ρ 0) (pyFld "Chart" "kinds")) fun x => Wp.bind (gR ρ 1) fun y => pyIx x y) fun x => Wp.bind (Wp.ret (Dt.int 1)) fun y => pyIx x y) fun d => .ret (Sl.fz d)) fun u => Wp.bind (Wp.bind (Wp.bind (Wp.bind (Wp.bind (gF ρ 0) (pyFld "Chart" "kinds")) fun x => Wp.bind (gR ρ 1) fun y => pyIx x y) fun x => Wp.bind (Wp.ret (Dt.int 4)) fun y => pyIx x y) fun d => .ret (Sl.fz d)) fun v => .ret (Fl.nx ((ρ.set 2 u).set 3 v))) fun ρ =>
    (Wp.bind (Wp.bind (Wp.bind (Wp.bind (Wp.bind (Wp.bind (Wp.bind (gF ρ 0) (pyFld "Chart" "plan")) itA) fun xs => Wp.bind (Wp.calm (compL (fun ρ => (wAnd (Wp.bind (Wp.bind (Wp.bind (gR ρ 4) fun x => Wp.bind (Wp.ret (Dt.int 1)) fun y => pyIx x y) fun x => Wp.bind (gR ρ 2) fun y => pyLt x y) asB) (Wp.bind (Wp.bind (Wp.bind (gR ρ 4) fun x => Wp.bind (Wp.ret (Dt.int 3)) fun y => pyIx x y) fun x => Wp.bind (gR ρ 3) fun y => pyIn x y) asB))) (fun ρ => (Wp.bind (gR ρ 4) fun x => Wp.bind (Wp.ret (Dt.int 0)) fun y => pyIx x y)) (aN 4) (wipeE ρ [4]) xs [])) fun ys => .ret (Nw.l ys)) fun n => .ret n.dt) fun x => Wp.bind (Wp.ret []) fun xs => .ret (x :: xs)) pyTuple) fun d => .ret (Fl.rt d)))
theorem le_Chart_watched (ds : List Dt) (Q : Dt → Prop) (E : Xn → Prop) (h : c_Chart_watched ds Q E) : fnWp 5 mb_Chart_watched ds Q fun _ => False := by
  obtain ⟨L, k, rfl, hL, hk, h⟩ := h
  have sl : sizeLine = 16777216 := by decide
  have l2 := hL.l2
  simp only [fnWp_def, mb_Chart_watched, List.map_cons, List.map_nil, List.replicate, List.length_cons, List.length_nil, Nat.reduceSub, Nat.reduceAdd, List.cons_append, List.nil_append, EV, ch_kinds, ch_plan, look_kinds hL.nodup hk, layD]
  refine k_comp Kd.d (fun j => decide (j.ed < k.ed) && inS j.lt k.mr) (fun j => .str j.nm) (by simp; omega) (fun j hj K1 K0 h1 h0 => ?_) ?_
  · simp only [EV]
    by_cases a : j.ed < k.ed
    · simp only [a, decide_true, Bool.true_and, if_true] at h1 h0 ⊢
      cases b : inS j.lt k.mr with
      | true => exact h1 b
      | false => exact h0 b
    · simp only [a, decide_false, Bool.false_and, if_false] at h1 h0 ⊢
      exact h0 trivial
  simp only [EV, List.nil_append]
  have e : (L.filter fun j => decide (j.ed < k.ed) && inS j.lt k.mr).map (fun j => Dt.str j.nm) = (watchedL L k).map Dt.str := by rw [watchedL, List.map_map]; rfl
  rw [e]; exact h
end Mv


namespace Mv
open PySem L2 PyProof.Rows
mutual
theorem sh_pyD : ∀ d : Dt, shB d = true → pyD d = py d ∧ okR d = true
  | .non, _ => ⟨by simp [pyD, py], rfl⟩
  | .bl _, _ => ⟨by simp [pyD, py], rfl⟩
  | .int _, _ => ⟨by simp [pyD, py], rfl⟩
  | .str _, _ => ⟨by simp [pyD, py], rfl⟩
  | .lst xs, h => by
    obtain ⟨a, b⟩ := sh_pyDs xs (by simpa [shB] using h)
    exact ⟨by simp [pyD, py, a], by simpa [okR] using b⟩
  | .tup xs, h => by
    obtain ⟨a, b⟩ := sh_pyDs xs (by simpa [shB] using h)
    exact ⟨by simp [pyD, py, a], by simpa [okR] using b⟩
  | .dct _, h => by simp [shB] at h
  | .scr _, h => by simp [shB] at h
  | .drw, h => by simp [shB] at h
  | .ty _, h => by simp [shB] at h
  | .glo _, h => by simp [shB] at h
  | .obj _ _, h => by simp [shB] at h
  | .set _, h => by simp [shB] at h
  | .exc _ _, h => by simp [shB] at h
  | .ftp _, h => by simp [shB] at h
theorem sh_pyDs : ∀ xs : List Dt, shAll xs = true → pyDs xs = pyAll xs ∧ okRs xs = true
  | [], _ => ⟨by simp [pyDs, pyAll], rfl⟩
  | x :: xs, h => by
    simp only [shAll, Bool.and_eq_true] at h
    obtain ⟨a, b⟩ := sh_pyD x h.1
    obtain ⟨c, d⟩ := sh_pyDs xs h.2
    exact ⟨by simp [pyDs, pyAll, a, c], by simp [okRs, b, d]⟩
end
theorem k_reprS {d : Dt} {n w : Nat} (h : Sh d n w) (hn : n ≤ 64) (hw : w ≤ 16777216) (Q : Dt → Prop) (E : Xn → Prop) : pyReprD [d] Q E = Q (.str (shown d)) := by
  obtain ⟨h1, h2, h3⟩ := sh_ok d h.ok
  obtain ⟨e, o⟩ := sh_pyD d h.ok
  have sl : sizeLine = 16777216 := by decide
  have h4 := h.wt
  show Wp.gd _ _ Q E = _
  rw [e, gd_t _ ⟨o, h2, Nat.le_trans h.dp hn, by omega⟩]
  rfl
theorem reprS_lay {L : List Kd} (ok : LayOk L) (Q : Dt → Prop) (E : Xn → Prop) : pyReprD [layD L] Q E = Q (.str (shown (layD L))) := k_reprS (lay_sh ok) (by decide) (by decide) Q E
theorem k_itLay (L : List Kd) (Q : List Dt → Prop) (E : Xn → Prop) : itA (layD L) Q E = Q (L.map Kd.d) := rfl
theorem nm_inj {L : List Kd} (nd : (L.map Kd.nm).Nodup) {j k : Kd} (hj : j ∈ L) (hk : k ∈ L) (e : j.nm = k.nm) : j = k := by
  have a := find_nm nd hj
  have b := find_nm nd hk
  rw [e] at a
  exact Option.some.inj (a.symm.trans b)
theorem LayOk.first {L : List Kd} (ok : LayOk L) : ∃ k R, L = k :: R := by
  cases L with
  | nil => have := ok.l1; simp at this
  | cons k R => exact ⟨k, R, rfl⟩
theorem filter_snoc {α : Type} (p : α → Bool) (l : List α) (a : α) : (l ++ [a]).filter p = if p a = true then l.filter p ++ [a] else l.filter p := by
  rw [List.filter_append]
  cases h : p a <;> simp [List.filter, h]
end Mv


namespace Mv
open PySem L2 PyProof.Rows
section
variable {X : Cx} {Z : Kx} {E : XS} {e : Expr} {body : List Stmt} {pos : Pos}
end
section
variable {prog : Program} {w : World} {A : Around} {E : Value → Shared → Prop} {s : Shared}
end
theorem RpAll.app2 {Z : Kx} {B : Hp} : ∀ {vs ws : List V} {xs ys : List Dt}, RpAll Z B vs xs → RpAll Z B ws ys → RpAll Z B (vs ++ ws) (xs ++ ys)
  | _, _, _, _, .nil, r => r
  | _, _, _, _, .cons a r, q => .cons a (r.app2 q)
theorem RpAll.rev {Z : Kx} {B : Hp} : ∀ {vs : List V} {xs : List Dt}, RpAll Z B vs xs → RpAll Z B vs.reverse xs.reverse
  | _, _, .nil => .nil
  | _, _, .cons a r => by
    rw [List.reverse_cons, List.reverse_cons]
    exact r.rev.app2 (.cons a .nil)
section
variable {X : Cx} {E : XS} {e : Expr} {pos p1 p2 p3 : Pos} {k : Nat}
end
end Mv


namespace Mv
open PySem L2 PyProof.Rows
def pairD : Dt → Option (Key × Dt)
  | .tup [k, v] => (keyD k).map fun k => (k, v)
  | _ => none
def pairsD : List Dt → Option (List (Key × Dt))
  | [] => some []
  | x :: xs => (pairD x).bind fun p => (pairsD xs).map (p :: ·)
def pyDict : List Dt → Wp Nw
  | [.dct kvs] => .ret (.d kvs)
  | [.lst xs] => (ofO (pairsD xs)).bind fun kvs => .ret (.d (mergeD [] kvs))
  | _ => .bad
section
variable {X : Cx} {Z : Kx} {B H : Hp} {E : XS} {e e2 o : Expr} {pos apos : Pos}
theorem pairD_at {v : V} {x : Dt} {p : Key × Dt} (hE : Ex B H) (r : Rp Z B v x) (h : pairD x = some p) : ∃ a w, v = .ref a ∧ SqT Z.K H a [kV p.1, w] ∧ Rp Z B w p.2 := by
  unfold pairD at h
  split at h
  · rename_i k d
    obtain ⟨a, vs, rfl, ha, ra⟩ := (Rq.fz (H := H) r).tup hE
    cases ra with
    | cons r1 r2 =>
      cases r2 with
      | cons r3 r4 =>
        cases r4
        obtain ⟨k', hk, rfl⟩ := Option.map_eq_some_iff.mp h
        have e1 := Rq.key (H := H) (.fz r1) hk
        subst e1
        exact ⟨_, _, rfl, ha, r3⟩
  · cases h
theorem pairsD_at : ∀ {vs : List V} {xs : List Dt} {kvs : List (Key × Dt)}, RpAll Z B vs xs → pairsD xs = some kvs → Ex B H → ∃ (ps : List Addr) (ws : List (Key × V)), vs = ps.map V.ref ∧ Paired (fun p kv => SqT Z.K H p [kV kv.1, kv.2]) ps ws ∧ RpKv Z B ws kvs
  | _, _, kvs, .nil, h, _ => by cases h; exact ⟨[], [], rfl, .nil, .nil⟩
  | _, _, kvs, .cons a r, h, hE => by
    obtain ⟨p, h1, h2⟩ := Option.bind_eq_some_iff.mp h
    obtain ⟨kvs', h3, rfl⟩ := Option.map_eq_some_iff.mp h2
    obtain ⟨ps, ws, rfl, hp, hr⟩ := pairsD_at r h3 hE
    obtain ⟨q, w, rfl, hq, rw'⟩ := pairD_at hE a h1
    exact ⟨q :: ps, (p.1, w) :: ws, rfl, .cons hq hp, .cons rw' hr⟩
theorem cr_dict (hc : X.calm = true) : CallR X (.type "dict") (fun xs H Q => (∃ (a : Addr) (kvs : List (Key × V)), xs = [.ref a] ∧ Rd H a (.dK kvs) ∧ ∀ p, H p = none → Q (.ref p) (upd H p (.dK kvs))) ∨ ∃ (a : Addr) (ps : List Addr) (kvs : List (Key × V)), xs = [.ref a] ∧ SqL X.K H a (ps.map V.ref) ∧ Paired (fun p kv => SqT X.K H p [kV kv.1, kv.2]) ps kvs ∧ ∀ p, H p = none → Q (.ref p) (upd H p (.dK (mergeK [] kvs)))) := CallR.or call_dictD (call_dictP hc)
theorem cn_dict : CallN Z (fun xs H Q => (∃ (a : Addr) (kvs : List (Key × V)), xs = [.ref a] ∧ Rd H a (.dK kvs) ∧ ∀ p, H p = none → Q (.ref p) (upd H p (.dK kvs))) ∨ ∃ (a : Addr) (ps : List Addr) (kvs : List (Key × V)), xs = [.ref a] ∧ SqL Z.K H a (ps.map V.ref) ∧ Paired (fun p kv => SqT Z.K H p [kV kv.1, kv.2]) ps kvs ∧ ∀ p, H p = none → Q (.ref p) (upd H p (.dK (mergeK [] kvs)))) pyDict := by
  refine ⟨fun ds => by unfold pyDict; split <;> first | exact mn_ret | exact mn_bind (mn_ofO _) fun _ => mn_ret | exact mn_bad, fun ds vs B H Q Ex' e r0 q => ?_⟩
  unfold pyDict at q
  split at q
  · obtain ⟨v, rfl, r⟩ := r0.one
    obtain ⟨a, vs, rfl, ha, ra⟩ := r.dct e
    exact .inl ⟨a, vs, rfl, ha, fun l n => q l _ (Gr.tmp e n) n (.d upd_same ra (e.no n))⟩
  · rename_i xs
    obtain ⟨v, rfl, r⟩ := r0.one
    obtain ⟨a, vs, rfl, ha, ra⟩ := r.lst e
    cases hp : pairsD xs with
    | none => rw [hp] at q; exact q.elim
    | some kvs =>
      rw [hp] at q
      obtain ⟨ps, ws, rfl, h1, h2⟩ := pairsD_at ra hp e
      exact .inr ⟨a, ps, ws, rfl, .inl (.inl ha), h1, fun l n => q l _ (Gr.tmp e n) n (.d upd_same (RpKv.merge h2 .nil) (e.no n))⟩
  · exact q.elim
end
end Mv


namespace Mv
open PySem L2 PyProof.Rows
section
variable {X : Cx} {E : XS} {tg it kx' vx : Expr} {ifs : List Expr} {scope : Scope} {own : List (Str × Nat)} {pos py spos : Pos} {y : Str}
end
end Mv


namespace Mv
open PySem L2 PyProof.Rows
theorem undP_all (L : List Kd) : unders L = undP (L.map Kd.nm) L := rfl
theorem undP_app (ns : List PySem.Str) (pre rest : List Kd) : ∃ T, undP ns (pre ++ rest) = undP ns pre ++ T := by
  induction rest generalizing pre with
  | nil => exact ⟨[], by simp⟩
  | cons k rest ih =>
    have e : pre ++ k :: rest = (pre ++ [k]) ++ rest := by simp
    obtain ⟨T, hT⟩ := ih (pre ++ [k])
    rw [e, hT, undP_snoc]
    exact ⟨_ :: T, by rw [List.append_assoc]; rfl⟩
theorem lk_app {T T' : Tab} {x : PySem.Str} {l : List PySem.Str} (h : T.lookup x = some l) : (T ++ T').lookup x = some l := by
  induction T with
  | nil => simp at h
  | cons r T ih =>
    rw [List.cons_append, List.lookup_cons]
    rw [List.lookup_cons] at h
    cases e : (x == r.1) with
    | true => rw [e] at h; exact h
    | false => rw [e] at h; exact ih h
theorem row_app {T T' : Tab} {x : PySem.Str} (h : x ∈ T.map (·.1)) : rowT (T ++ T') x = rowT T x := by
  obtain ⟨l, hl⟩ := Option.isSome_iff_exists.mp (lk_some h)
  simp only [rowT, lk_app hl, hl]
theorem under_at {L : List Kd} (ok : LayOk L) {pre rest : List Kd} {k : Kd} (e : L = pre ++ k :: rest) : under L k.nm = (L.map Kd.nm).filter fun o => decide (o ∈ ownOf (undP (L.map Kd.nm) pre) k.bs) := by
  have hm := ok.mid e
  have e1 : L = (pre ++ [k]) ++ rest := by rw [e]; simp
  obtain ⟨T, hT⟩ := undP_app (L.map Kd.nm) (pre ++ [k]) rest
  have e2 : undP (L.map Kd.nm) L = undP (L.map Kd.nm) (pre ++ [k]) ++ T := by rw [← hT, ← e1]
  rw [under, undP_all, e2, row_app (by rw [undP_keys]; simp), undP_snoc, rowT, lk_last (by rw [undP_keys]; exact hm.2.1)]
  rfl
theorem under_ns {L : List Kd} (x : PySem.Str) : ∀ o ∈ under L x, o ∈ L.map Kd.nm := by
  intro o ho
  rw [under, rowT] at ho
  cases h : (unders L).lookup x with
  | none => rw [h] at ho; simp at ho
  | some l =>
    rw [h] at ho
    exact (undP_row (L.map Kd.nm) L _ (lk_mem h)).1 ho
theorem under_nodup {L : List Kd} (ok : LayOk L) {k : Kd} (hk : k ∈ L) : (under L k.nm).Nodup := by
  obtain ⟨pre, rest, e⟩ := List.append_of_mem hk
  rw [under_at ok e]
  exact ok.nodup.filter _
theorem look_under {L : List Kd} {k : Kd} (hk : k ∈ L) : lookD (tabD (unders L)) (.inr k.nm) = some (strT (under L k.nm)) := by
  rw [look_tab]
  obtain ⟨l, hl⟩ := Option.isSome_iff_exists.mp (lk_some (T := unders L) (b := k.nm) (by rw [undP_all, undP_keys]; exact List.mem_map_of_mem hk))
  rw [under, rowT, hl]; rfl
theorem lookU {L : List Kd} {k : Kd} (hk : k ∈ L) : lookD (mapT lstT (unders L)) (.inr k.nm) = some (lstT (under L k.nm)) := by
  rw [look_mapT]
  obtain ⟨l, hl⟩ := Option.isSome_iff_exists.mp (lk_some (T := unders L) (b := k.nm) (by rw [undP_all, undP_keys]; exact List.mem_map_of_mem hk))
  rw [under, rowT, hl]; rfl
structure Cl (L : List Kd) (S : List PySem.Str) : Prop where
  un : ∀ x ∈ S, ∀ o ∈ under L x, o ∈ S
  lt : ∀ k ∈ L, ∀ j ∈ L, k.nm ∈ S → j.lt = k.lt → j.nm ∈ S
def Clo (L : List Kd) (W : List PySem.Str) (o : PySem.Str) : Prop := ∀ S : List PySem.Str, (∀ x ∈ W, x ∈ S) → Cl L S → o ∈ S
noncomputable instance cloDec (L : List Kd) (W : List PySem.Str) (o : PySem.Str) : Decidable (Clo L W o) := Classical.propDecidable _
end Mv


namespace Mv
open PySem L2 PyProof.Rows
/-- a row of names, a list or a tuple -/
inductive IsRow : Dt → List PySem.Str → Prop
  | t (l : List PySem.Str) : IsRow (strT l) l
  | l (l : List PySem.Str) : IsRow (lstT l) l
theorem IsRow.it {d : Dt} {l : List PySem.Str} (h : IsRow d l) (Q : List Dt → Prop) (E : Xn → Prop) : itA d Q E = Q (l.map Dt.str) := by cases h <;> rfl
theorem IsRow.len {d : Dt} {l : List PySem.Str} (h : IsRow d l) (Q : Dt → Prop) (E : Xn → Prop) : pyLenT [d] Q E = Q (.int l.length) := by
  cases h <;> (show Q (.int (l.map Dt.str).length) = _; rw [List.length_map])
theorem IsRow.in {d : Dt} {l : List PySem.Str} (h : IsRow d l) (x : PySem.Str) (Q : Dt → Prop) (E : Xn → Prop) : pyIn (.str x) d Q E = Q (.bl (decide (x ∈ l))) := by
  cases h
  · exact k_inT x l Q E
  · exact k_inL x l Q E
theorem IsRow.notIn {d : Dt} {l : List PySem.Str} (h : IsRow d l) (x : PySem.Str) (Q : Dt → Prop) (E : Xn → Prop) : pyNotIn (.str x) d Q E = Q (.bl (!decide (x ∈ l))) := by
  cases h
  · exact k_ninT x l Q E
  · exact k_ninL x l Q E
theorem kinds_keys (L : List Kd) : (kindsD L).map (fun kv => keyDt kv.1) = (L.map Kd.nm).map Dt.str := by simp [kindsD, keyDt]
theorem nodup_len {l ns : List PySem.Str} (h : l.Nodup) (hs : ∀ x ∈ l, x ∈ ns) : l.length ≤ ns.length := by
  induction l generalizing ns with
  | nil => simp
  | cons x l ih =>
    obtain ⟨hx, hn⟩ := List.nodup_cons.mp h
    have hxs := hs x (by simp)
    have := ih (ns := ns.erase x) hn fun y hy => by
      have ne : y ≠ x := fun e => hx (by rw [← e]; exact hy)
      exact (List.mem_erase_of_ne ne).mpr (hs y (by simp [hy]))
    rw [List.length_erase_of_mem hxs] at this
    have : 0 < ns.length := List.length_pos_of_mem hxs
    simp only [List.length_cons]; omega
end Mv


namespace Mv
open PySem L2 PyProof.Rows
open PpSet PySem.Spec PySem.Froz
section
variable {P : Program} {w : World} {A : Around} {E : Value → Shared → Prop} {s : Shared} {a : Addr} {l : List PySem.Str} {k : PySem.Str} {u : Tok}
end
section
variable {X : Cx}
section
variable {elt tg it : Expr} {ifs : List Expr} {scope : Scope} {own : List (PySem.Str × Nat)} {pos py spos : Pos} {wi : TI} {g : TG} {tt : TT} {te : TE} {y : PySem.Str}
end
end
end Mv


namespace Mv
open PySem L2 PyProof.Rows
section
variable {X : Cx} {Z : Kx} {E : XS} {tg it : Expr} {pos : Pos}
end
end Mv


namespace Mv
open PySem L2 PyProof.Rows
section
variable {gb : Bool} {P : Program} {w : World} {K : PySem.W.Frag} {mg : Str → Option Value} {base : Heap} {k : Nat} {f : Addr} {fd : FuncData} {N ps : List Str} {x qual : Str} {params : Arguments} {body : List Stmt} {scope : Scope} {dvs : List V} {kws : List (Str × V)}
theorem fn_iX (c : Str) {n : Nat} {mb : Env → Wp Fl} {mf : List Dt → Wp Dt} (F : FunD K x qual params body scope dvs kws f fd) (S : FnScope N ps scope) (hn : ps.length = n + 1)
    (hle : ∀ (x : Addr) (ds : List Dt), ds.length = n → ∀ Q E, mf ds Q E → fnWpI N.length c mb x ds Q E)
    (hb : ∀ (cdv : Value) (A : Around) (out : List PySem.Env) (s : Shared) (H : Hp) (E : XK), Gd gb A → Room k (A.deeper (PyProof.Rows.envOfC qual scope s.heap.objs.size f cdv)) → MSs (cxOf (L2.CX P w) P w K mg base N qual scope f cdv A out s H E) (fun _ => E) body mb) :
    FnG gb P w K mg base (L2.CX P w) (k + 1) f fd ps (spI ⟨K, P, w⟩ c n mf) := by
  refine okG F S (fun vs H Q E h => h.1.trans hn.symm) fun cdv A out s H vs Q E hg hr h => ?_
  obtain ⟨hl, x, dx, H1, B, ds, us, rfl, hx, hdx, hne, rfl, hB, r, q⟩ := h
  obtain ⟨ts, pss, v⟩ := hb cdv A out s _ E hg hr
  refine ⟨ts, pss, ?_⟩
  have hd : ds.length = n := by rw [← r.len]; simpa using hl
  have keep : ∀ a o, H1 a = some o → (upd (upd H1 dx (.own x)) x (.ins (He.ga K c) dx [])) a = some o := fun a o e => by
    rw [upd_ne (ne_of_none e hx), upd_ne (ne_of_none e hdx)]; exact e
  have st0 : SR ⟨K, P, w⟩ B H1 (.oo x c [] :: ds.map Sl.fz) (some (.ref x) :: us.map some) B (upd (upd H1 dx (.own x)) x (.ins (He.ga K c) dx [])) := by
    refine ⟨.refl _, fun a o e => keep a o (hB a o e), fun a o n e => ⟨keep a o e, n⟩, [x], ?_, by simp, fun a ha => ?_⟩
    · exact SlAll.cons (fp := [x]) (.oo upd_same .nil) (all_fz r)
    · rw [List.mem_singleton] at ha; subst ha; exact ⟨hB.no hx, hx⟩
  have st := st0.more (N.length - (ds.length + 1))
  have e : L2.start N (.ref x :: us) = (some (.ref x) :: us.map some) ++ List.replicate (N.length - (ds.length + 1)) none := by
    unfold L2.start
    rw [List.length_cons, r.len]; rfl
  rw [e]
  refine v.run B H1 _ _ B _ _ st (v.mn _ _ _ _ _ (fun fl z => ?_) (fun _ z _ => z) (hle x ds hd _ _ q))
  cases fl with
  | nx ρ' =>
    intro σ' B' H' s'
    have z : finI x c (.nx ρ') (PostI ⟨K, P, w⟩ B H1 x Q) _ := z
    unfold finI at z
    dsimp only at z
    cases e0 : ρ'[(0 : Nat)]? with
    | none => rw [e0] at z; exact z.elim
    | some sl =>
      rw [e0] at z
      cases sl with
      | oo a c' fs =>
        obtain ⟨⟨rfl, rfl⟩, z⟩ := z
        cases ha : allFz fs with
        | none => rw [ha] at z; exact z.elim
        | some dd =>
          rw [ha] at z
          obtain ⟨dx', vs', m, g1, g2, g3, g4, g5⟩ := s'.getO e0
          exact z _ _ (s'.fin.frz hx g2 g5) (.obj upd_same ((g3.allFz ha).lg (Ex.put (.refl _) g5).lg))
      | _ => exact z.elim
  | rt d => exact z.elim
  | bk _ => exact z.elim
  | ct _ => exact z.elim
  | rs _ _ => exact z.elim
end
end Mv


namespace Mv
open PySem L2 PyProof.Rows
theorem k_fcons (body : Dt → Env → Wp Fl) (x : Dt) (xs : List Dt) (ρ : Env) (Q : Fl → Prop) (E : Xn → Prop) : forL body (x :: xs) ρ Q E = body x ρ (lpK (fun ρ' => forL body xs ρ' Q E) Q) E := by
  show body x ρ _ E = _
  congr 1
  funext f
  cases f <;> rfl
theorem k_allB0 (l : List Bool) (Q : Dt → Prop) (E : Xn → Prop) : pyAllB [.lst (l.map Dt.bl)] Q E = Q (.bl (l.all id)) := by
  have : blsOf (l.map Dt.bl) = some l := by
    have := blsOf_f id l
    simpa using this
  show ofO (blsOf (l.map Dt.bl)) _ E = _
  rw [this]; rfl
/-- the first kind that is none, behind some names and an edition -/
inductive LayBad : List PySem.Str → Int → Nat → List Dt → Nat → Prop
  | odd {seen : List PySem.Str} {e : Int} {i : Nat} {p : Dt} {ps : List Dt} (h : kindD p = some false) : LayBad seen e i (p :: ps) i
  | turn {seen : List PySem.Str} {e : Int} {i : Nat} {k : Kd} {ps : List Dt} (hk : KdOk k) (h : k.nm ∈ seen ∨ k.ed < e ∨ ∃ b ∈ k.bs, b ∉ seen) : LayBad seen e i (k.d :: ps) i
  | go {seen : List PySem.Str} {e : Int} {i j : Nat} {k : Kd} {ps : List Dt} (hk : KdOk k) (h1 : k.nm ∉ seen) (h2 : e ≤ k.ed) (h3 : ∀ b ∈ k.bs, b ∈ seen) (h : LayBad (seen ++ [k.nm]) k.ed (i + 1) ps j) : LayBad seen e i (k.d :: ps) j
inductive BadPl : Dt → Dt → Prop
  | kind {d : Dt} {t : Ty7} (h : ty7 d = some t) (ht : t ≠ .tup) : BadPl d (.tup [])
  | nil : BadPl (.tup []) (.tup [])
  | long {xs : List Dt} (h : 24 < xs.length) : BadPl (.tup xs) (.tup [])
  | atp {xs : List Dt} {j : Nat} (h : LayBad [] 1 0 xs j) (h1 : xs.length ≤ 24) : BadPl (.tup xs) (.tup [.int j])
theorem BadPl.odd {d : Dt} {r : List Dt} (h : kindD d = some false) (hr : r.length < 24) : BadPl (.tup (d :: r)) (.tup [.int 0]) := .atp (.odd h) (by simp; omega)
def c_need_layoutX (ds : List Dt) : Wp Dt := fun Q E => (∃ L, ds = [layD L] ∧ LayOk L ∧ Q (layD L)) ∨ ∃ d e, ds = [d] ∧ BadPl d e ∧ E ⟨"BadLayout", [("place", e)]⟩
theorem mn_c_need_layoutX (ds : List Dt) : Mn (c_need_layoutX ds) := fun Q Q' E E' h h' z => z.imp (fun ⟨L, a, b, q⟩ => ⟨L, a, b, h _ q⟩) fun ⟨d, e, a, b, q⟩ => ⟨d, e, a, b, h' _ q⟩
def lb_need_layoutX_0 : Dt → Env → Wp Fl := fun x ρ => Wp.bind ((aTup (aCons (aN 3) (aCons (aN 4) aNil))) x ρ) fun ρ =>
    (Wp.fl (wIf (wOr (wNot (Wp.bind (Wp.bind (Wp.bind (gF ρ 4) fun x => Wp.bind (Wp.ret []) fun xs => .ret (x :: xs)) c_is_kind) asB)) (wOr (Wp.bind (Wp.bind (Wp.bind (gR ρ 4) fun x => Wp.bind (Wp.ret (Dt.int 0)) fun y => pyIx x y) fun x => Wp.bind (gR ρ 1) fun y => pyIn x y) asB) (Wp.bind (Wp.bind (Wp.bind (gR ρ 4) fun x => Wp.bind (Wp.ret (Dt.int 1)) fun y => pyIx x y) fun x => Wp.bind (gR ρ 2) fun y => pyLt x y) asB))) ((Wp.bind (Wp.bind (Wp.bind (Wp.bind (gF ρ 3) fun x => Wp.bind (Wp.ret []) fun xs => .ret (x :: xs)) fun xs => .ret (Dt.tup xs)) fun x => Wp.bind (Wp.ret []) fun xs => .ret (x :: xs)) fun ds => (mkX "BadLayout" ["place"] ds).bind fun n => .thr n)) ((Wp.ret (Fl.nx ρ)))) fun ρ =>
    (Wp.fl (wIf (wNot (Wp.bind (Wp.bind (Wp.bind (Wp.bind (Wp.bind (Wp.bind (Wp.bind (gR ρ 4) fun x => Wp.bind (Wp.ret (Dt.int 2)) fun y => pyIx x y) itA) fun xs => Wp.bind (Wp.calm (compL (fun ρ => (Wp.ret true)) (fun ρ => (Wp.bind (gR ρ 5) fun x => Wp.bind (gR ρ 1) fun y => pyIn x y)) (aN 5) (wipeE ρ [5]) xs [])) fun ys => .ret (Nw.l ys)) fun n => .ret n.dt) fun x => Wp.bind (Wp.ret []) fun xs => .ret (x :: xs)) pyAllB) asB)) ((Wp.bind (Wp.bind (Wp.bind (Wp.bind (gF ρ 3) fun x => Wp.bind (Wp.ret []) fun xs => .ret (x :: xs)) fun xs => .ret (Dt.tup xs)) fun x => Wp.bind (Wp.ret []) fun xs => .ret (x :: xs)) fun ds => (mkX "BadLayout" ["place"] ds).bind fun n => .thr n)) ((Wp.ret (Fl.nx ρ)))) fun ρ =>
    (Wp.fl (Wp.bind (Wp.ret (Dt.bl true)) fun d => Wp.bind (gD ρ 1) fun kvs => Wp.bind (Wp.bind (gR ρ 4) fun x => Wp.bind (Wp.ret (Dt.int 0)) fun y => pyIx x y) fun k => Wp.bind (ofO (keyD k)) fun k => .gd (kvs.length < sizeLine) (.ret (Fl.nx (ρ.set 1 (.od (putD kvs k d)))))) fun ρ =>
    (Wp.bind (Wp.bind (Wp.bind (gR ρ 4) fun x => Wp.bind (Wp.ret (Dt.int 1)) fun y => pyIx x y) fun d => .ret (Sl.fz d)) fun x => .ret (Fl.nx (ρ.set 2 x))))))
def mb_need_layoutX : Env → Wp Fl := fun ρ =>
    (Wp.fl (wIf (wOr (wNot (Wp.bind (Wp.bind (Wp.bind (gR ρ 0) fun x => Wp.bind (Wp.bind (Wp.ret (Dt.ty "tuple")) fun x => Wp.bind (Wp.ret []) fun xs => .ret (x :: xs)) fun xs => .ret (x :: xs)) pyIsi) asB)) (wNot (Wp.bind (vChain pyLe pyLe (Wp.ret (Dt.int 1)) (Wp.bind (Wp.bind (gR ρ 0) fun x => Wp.bind (Wp.ret []) fun xs => .ret (x :: xs)) pyLenT) (Wp.ret (Dt.int 24))) asB))) ((Wp.bind (Wp.bind (Wp.bind (Wp.ret []) fun xs => .ret (Dt.tup xs)) fun x => Wp.bind (Wp.ret []) fun xs => .ret (x :: xs)) fun ds => (mkX "BadLayout" ["place"] ds).bind fun n => .thr n)) ((Wp.ret (Fl.nx ρ)))) fun ρ =>
    (Wp.fl (Wp.bind (Wp.bind (Wp.ret (Nw.d [])) fun d => .ret d.sl) fun u => Wp.bind (Wp.bind (Wp.ret (Dt.int 1)) fun d => .ret (Sl.fz d)) fun v => .ret (Fl.nx ((ρ.set 1 u).set 2 v))) fun ρ =>
    (Wp.fl (Wp.bind (Wp.bind (gF ρ 0) itE) fun xs => forL lb_need_layoutX_0 xs ρ) fun ρ =>
    (Wp.bind (gF ρ 0) fun d => .ret (Fl.rt d)))))
theorem needX_loop : ∀ (L : List Kd) (seen : List PySem.Str) (e : Int) (D : Dt) (i : Nat) (s3 s4 s5 : Sl), LayAt seen e L → seen.length + L.length ≤ 24 →
    ∃ e' s3' s4' s5', forL lb_need_layoutX_0 (enumD i (L.map Kd.d)) [.fz D, .od (seenD seen), .fz (.int e), s3, s4, s5] = .ret (.nx [.fz D, .od (seenD (seen ++ L.map Kd.nm)), .fz (.int e'), s3', s4', s5'])
  | [], seen, e, D, i, s3, s4, s5, _, _ => ⟨e, s3, s4, s5, by simp [enumD, forL]⟩
  | k :: L, seen, e, D, i, s3, s4, s5, h, hl => by
    obtain ⟨h1, h2, h3, h4, h5⟩ := h
    simp only [List.length_cons] at hl
    obtain ⟨e', s3', s4', s5', ih⟩ := needX_loop L (seen ++ [k.nm]) k.ed D (i + 1) (.fz (.int i)) (.fz k.d) s5 h5 (by simp; omega)
    refine ⟨e', s3', s4', s5', ?_⟩
    have hs : decide (k.nm ∈ seen) = false := decide_eq_false h2
    have he : decide (k.ed < e) = false := decide_eq_false (by omega)
    have hb := h1.bl
    have sl : sizeLine = 16777216 := by decide
    have hc := all_seen (ρ := [.fz D, .od (seenD seen), .fz (.int e), .fz (.int i), .fz k.d, .no]) (i := 5) k.bs seen (by omega) (by simp) rfl (by decide) h4
    have hk := c_is_kind_eq (kindD_ok h1)
    have hz : (seenD seen).length < sizeLine := by simp [seenD]; omega
    have hx := look_seen seen k.nm
    rw [hs] at hx
    obtain ⟨x0, x1, x2, _, _⟩ := ix5 (.str k.nm) (.int k.ed) (.tup (k.bs.map Dt.str)) (.str k.lt) (.str k.mr)
    have y0 : pyIx k.d (.int 0) = .ret (.str k.nm) := x0
    have y1 : pyIx k.d (.int 1) = .ret (.int k.ed) := x1
    have y2 : pyIx k.d (.int 2) = .ret (.tup (k.bs.map Dt.str)) := x2
    rw [List.map_cons, enumD, forL]
    simp only [lb_need_layoutX_0, aTup, aCons, aN, aNil, List.set, gR_0, gF_0, gR_0d, gR_s, gF_s, gD_0, gD_s, b_ret, b_bind, b_gd, hk, b_asB, wNot_r, Bool.not_true, wOr_f, y0, y1, y2, pyIn_dS, keyD_S, hx, pyLt_I, he, wIf_f, fl_nx, fl_bind, fl_gd, itA_tup, wipeE, hc, b_calm, Nw.dt, pyAllB, blsOf_f, ofO_s, gd_t _ hz, put_seen h2, alltrue]
    rw [ih]
    simp
theorem needX_bad : ∀ {ps : List Dt} {seen : List PySem.Str} {e : Int} {i j : Nat}, LayBad seen e i ps j → seen.length + ps.length ≤ 24 → ∀ (D : Dt) (s3 s4 s5 : Sl) (Q : Fl → Prop) (E : Xn → Prop), E ⟨"BadLayout", [("place", .tup [.int j])]⟩ →
    forL lb_need_layoutX_0 (enumD i ps) [.fz D, .od (seenD seen), .fz (.int e), s3, s4, s5] Q E := by
  intro ps seen e i j h
  have sl : sizeLine = 16777216 := by decide
  induction h with
  | odd hk =>
    intro _ D s3 s4 s5 Q E q
    rw [enumD, k_fcons]
    simp only [lb_need_layoutX_0, EV, c_is_kind, hk, Bool.not_false, if_true, k_mkX1]
    exact q
  | @turn seen e i k ps hk h =>
    intro _ D s3 s4 s5 Q E q
    have hb := hk.bl
    have kd := kindD_ok hk
    rw [enumD, k_fcons]
    simp only [lb_need_layoutX_0, EV, c_is_kind, kd, Bool.not_true, Bool.false_eq_true, if_false, look_seen, k_mkX1]
    by_cases c1 : k.nm ∈ seen
    · simp only [c1, if_true]; exact q
    · simp only [c1, if_false]
      by_cases c2 : k.ed < e
      · simp only [c2, if_true]; exact q
      · simp only [c2, if_false]
        refine k_comp1 Dt.str (fun b => Dt.bl (decide (b ∈ seen))) (l := k.bs) (by omega) (fun b hb K1 hK => ?_) ?_
        · simp only [EV, look_seen]; exact hK
        · have e1 : k.bs.map (fun b => Dt.bl (decide (b ∈ seen))) = (k.bs.map fun b => decide (b ∈ seen)).map Dt.bl := by simp
          rw [e1]
          try simp only [EV]
          rw [k_allB0]
          have e2 : (k.bs.map fun b => decide (b ∈ seen)).all id = false := by
            rcases h with h | h | ⟨b, hb, hn⟩
            · exact absurd h c1
            · exact absurd h c2
            · rw [List.all_eq_false]
              exact ⟨decide (b ∈ seen), List.mem_map_of_mem hb, by simp [hn]⟩
          rw [e2]
          simp only [EV, Bool.not_false, if_true, k_mkX1]
          exact q
  | @go seen e i j k ps hk h1 h2 h3 h ih =>
    intro hl D s3 s4 s5 Q E q
    have hb := hk.bl
    have kd := kindD_ok hk
    simp only [List.length_cons] at hl
    have hz : (seenD seen).length < sizeLine := by simp [seenD]; omega
    rw [enumD, k_fcons]
    simp only [lb_need_layoutX_0, EV, c_is_kind, kd, Bool.not_true, Bool.false_eq_true, if_false, look_seen, k_mkX1, h1]
    have c2 : ¬ k.ed < e := by omega
    simp only [c2, if_false]
    refine k_comp1 Dt.str (fun b => Dt.bl true) (l := k.bs) (by omega) (fun b hb K1 hK => ?_) ?_
    · simp only [EV, look_seen, h3 b hb, decide_true]; exact hK
    · have e1 : k.bs.map (fun b => Dt.bl true) = (k.bs.map fun b => true).map Dt.bl := by simp
      rw [e1]
      try simp only [EV]
      rw [k_allB0]
      have e2 : (k.bs.map fun b => true).all id = true := by simp
      rw [e2]
      simp only [EV, Bool.not_true, Bool.false_eq_true, if_false, put_seen h1]
      exact ⟨hz, ih (by simp; omega) D _ _ _ Q E q⟩
theorem isiT_no {d : Dt} {t : Ty7} (h : ty7 d = some t) (ht : t ≠ .tup) (Q : Dt → Prop) (E : Xn → Prop) : pyIsi [d, .ty "tuple"] Q E = Q (.bl false) := by
  cases d with
  | tup xs => exact absurd (Option.some.inj h.symm) ht
  | _ => first | rfl | simp [ty7] at h
theorem le_need_layoutX (ds : List Dt) (Q : Dt → Prop) (E : Xn → Prop) (h : c_need_layoutX ds Q E) : fnWp 6 mb_need_layoutX ds Q E := by
  rcases h with ⟨L, rfl, ok, h⟩ | ⟨d, e, rfl, hb, h⟩
  · have l1 := ok.l1
    have l2 := ok.l2
    obtain ⟨e', s3', s4', s5', lp⟩ := needX_loop L [] 1 (layD L) 0 .no .no .no ok.at_ (by simpa using l2)
    have a1 : decide ((1 : Int) ≤ ((L.map Kd.d).length : Int)) = true := decide_eq_true (by rw [List.length_map]; omega)
    have a2 : decide (((L.map Kd.d).length : Int) ≤ 24) = true := decide_eq_true (by rw [List.length_map]; omega)
    have lenT : pyLenT [layD L] = .ret (.int (L.map Kd.d).length) := rfl
    have isT : pyIsi [layD L, .ty "tuple"] = .ret (.bl true) := rfl
    have itT : itE (layD L) = .ret (enumD 0 (L.map Kd.d)) := rfl
    have sd : seenD [] = [] := rfl
    rw [sd] at lp
    simp only [fnWp_def, mb_need_layoutX, List.map, List.replicate, List.length_cons, List.length_nil, Nat.reduceSub, Nat.reduceAdd, List.cons_append, List.nil_append, gR_0, gF_0, gR_s, gF_s, b_ret, b_bind, isT, b_asB, wNot_r, Bool.not_true, wOr_f, vChain, lenT, pyLe, a1, a2, if_true, wIf_f, fl_nx, fl_bind, List.set, Nw.sl, itT, lp, finW_rt, ret_q]
    exact h
  · simp only [fnWp_def, mb_need_layoutX, List.map_cons, List.map_nil, List.replicate, List.length_cons, List.length_nil, Nat.reduceSub, Nat.reduceAdd, List.cons_append, List.nil_append, EV]
    cases hb with
    | kind ht hn =>
      simp only [isiT_no ht hn, EV, Bool.not_false, if_true, k_mkX1]
      exact h
    | nil =>
      rw [show pyIsi [.tup [], .ty "tuple"] = .ret (.bl true) from rfl]
      simp only [EV, Bool.not_true, Bool.false_eq_true, if_false, List.length_nil, k_mkX1]
      exact h
    | @long xs hx =>
      rw [show pyIsi [.tup xs, .ty "tuple"] = .ret (.bl true) from rfl]
      simp only [EV, Bool.not_true, Bool.false_eq_true, if_false, k_mkX1]
      rw [if_pos (by omega), if_neg (by omega)]
      exact h
    | @atp xs j hx h1 =>
      have h0 : 1 ≤ xs.length := by
        cases hx <;> simp
      rw [show pyIsi [.tup xs, .ty "tuple"] = .ret (.bl true) from rfl]
      simp only [EV, Bool.not_true, Bool.false_eq_true, if_false, k_mkX1]
      rw [if_pos (by omega), if_pos (by omega)]
      exact needX_bad hx (by simpa using h1) _ _ _ _ _ _ h
end Mv


namespace Mv
open PySem L2 PyProof.Rows
def c_ChartX (ds : List Dt) : Wp Dt := fun Q E => (∃ L, ds = [layD L] ∧ LayOk L ∧ Q (chartD L)) ∨ ∃ d e, ds = [d] ∧ BadPl d e ∧ E ⟨"BadLayout", [("place", e)]⟩
theorem mn_c_ChartX (ds : List Dt) : Mn (c_ChartX ds) := fun Q Q' E E' h h' z => z.imp (fun ⟨L, a, b, q⟩ => ⟨L, a, b, h _ q⟩) fun ⟨d, e, a, b, q⟩ => ⟨d, e, a, b, h' _ q⟩
def lb_Chart___init__X_0 : Dt → Env → Wp Fl := fun x ρ => Wp.bind ((aN 8) x ρ) fun ρ =>
    (Wp.bind (gD ρ 7) fun kvs => Wp.bind (Wp.bind (Wp.bind (Wp.bind (Wp.bind (Wp.bind (gFR ρ 0 "Chart" "under") fun x => Wp.bind (gR ρ 8) fun y => pyIx x y) itA) fun xs => Wp.bind (Wp.calm (dcompL (fun ρ => (Wp.ret true)) (fun ρ => (gF ρ 10)) (fun ρ => (Wp.ret (Dt.bl true))) (aN 10) (wipeE ρ [10]) xs [])) fun ys => .ret (Nw.d ys)) fun n => .ret n.dt) asD) fun more => .gd (kvs.length + more.length ≤ sizeLine) (.ret (Fl.nx (ρ.set 7 (.od (mergeD kvs more))))))
def lb_Chart___init__X_1 : Dt → Env → Wp Fl := fun x ρ => Wp.bind ((aTup (aCons (aN 2) (aCons (aN 3) (aCons (aN 4) (aCons (aN 5) (aCons (aN 6) aNil)))))) x ρ) fun ρ =>
    (Wp.fl (Wp.bind (Wp.bind (Wp.bind (Wp.bind (gF ρ 4) itA) fun xs => Wp.bind (Wp.calm (dcompL (fun ρ => (Wp.ret true)) (fun ρ => (gF ρ 8)) (fun ρ => (Wp.ret (Dt.bl true))) (aN 8) (wipeE ρ [8]) xs [])) fun ys => .ret (Nw.d ys)) fun d => .ret d.sl) fun x => .ret (Fl.nx (ρ.set 7 x))) fun ρ =>
    (Wp.fl (Wp.bind (Wp.bind (gF ρ 4) itA) fun xs => forL lb_Chart___init__X_0 xs ρ) fun ρ =>
    (Wp.fl (Wp.bind (Wp.bind (Wp.bind (Wp.bind (Wp.bind (Wp.bind (gFF ρ 0 "Chart" "kinds") itA) fun xs => Wp.bind (Wp.calm (compL (fun ρ => (Wp.bind (Wp.bind (gR ρ 10) fun x => Wp.bind (gR ρ 7) fun y => pyIn x y) asB)) (fun ρ => (gF ρ 10)) (aN 10) (wipeE ρ [10]) xs [])) fun ys => .ret (Nw.l ys)) fun n => .ret n.dt) fun x => Wp.bind (Wp.ret []) fun xs => .ret (x :: xs)) pyTuple) fun d => Wp.bind (gFD ρ 0 "Chart" "under") fun kvs => Wp.bind (gF ρ 2) fun k => Wp.bind (ofO (keyD k)) fun k => .gd (kvs.length < sizeLine) (.ret (Fl.nx (fdset ρ 0 "under" (putD kvs k d))))) fun ρ =>
    (Wp.bind (Wp.bind (Wp.bind (Wp.bind (Wp.bind (Wp.bind (Wp.bind (gFR ρ 0 "Chart" "under") fun x => Wp.bind (gR ρ 2) fun y => pyIx x y) itA) fun xs => Wp.bind (Wp.calm (compL (fun ρ => (Wp.bind (Wp.bind (Wp.bind (Wp.bind (gFR ρ 0 "Chart" "kinds") fun x => Wp.bind (gR ρ 10) fun y => pyIx x y) fun x => Wp.bind (Wp.ret (Dt.int 2)) fun y => pyIx x y) fun x => Wp.bind (Wp.bind (Wp.ret []) fun xs => .ret (Dt.tup xs)) fun y => pyEq x y) asB)) (fun ρ => (gF ρ 10)) (aN 10) (wipeE ρ [10]) xs [])) fun ys => .ret (Nw.l ys)) fun n => .ret n.dt) fun x => Wp.bind (Wp.ret []) fun xs => .ret (x :: xs)) pyTuple) fun d => Wp.bind (gFD ρ 0 "Chart" "roots") fun kvs => Wp.bind (gF ρ 2) fun k => Wp.bind (ofO (keyD k)) fun k => .gd (kvs.length < sizeLine) (.ret (Fl.nx (fdset ρ 0 "roots" (putD kvs k d))))))))
def mb_Chart___init__X : Env → Wp Fl := fun ρ =>
    (Wp.fl (Wp.bind (Wp.bind (Wp.bind (Wp.bind (gF ρ 1) fun x => Wp.bind (Wp.ret []) fun xs => .ret (x :: xs)) c_need_layoutX) fun d => .ret (Sl.fz d)) fun x => setF ρ 0 "Chart" "plan" x) fun ρ =>
    (Wp.fl (Wp.bind (Wp.bind (Wp.bind (Wp.bind (Wp.bind (gF ρ 1) itA) fun xs => Wp.bind (Wp.calm (dcompL (fun ρ => (Wp.ret true)) (fun ρ => (Wp.bind (gR ρ 9) fun x => Wp.bind (Wp.ret (Dt.int 0)) fun y => pyIx x y)) (fun ρ => (gF ρ 9)) (aN 9) (wipeE ρ [9]) xs [])) fun ys => .ret (Nw.d ys)) fun n => .ret n.dt) fun d => .ret (Sl.fz d)) fun x => setF ρ 0 "Chart" "kinds" x) fun ρ =>
    (Wp.fl (Wp.bind (Wp.bind (Wp.ret (Nw.d [])) fun d => .ret d.sl) fun x => setF ρ 0 "Chart" "under" x) fun ρ =>
    (Wp.fl (Wp.bind (Wp.bind (Wp.ret (Nw.d [])) fun d => .ret d.sl) fun x => setF ρ 0 "Chart" "roots" x) fun ρ =>
    (Wp.fl (Wp.bind (Wp.bind (Wp.bind (Wp.bind (gR ρ 1) fun x => Wp.bind (Wp.bind (Wp.ret (Dt.int 1)) pyNeg) fun y => pyIx x y) fun x => Wp.bind (Wp.ret (Dt.int 1)) fun y => pyIx x y) fun d => .ret (Sl.fz d)) fun x => setF ρ 0 "Chart" "final" x) fun ρ =>
    (fzFA 0 "roots" (fzFA 0 "under" (Wp.bind (Wp.bind (gF ρ 1) itA) fun xs => forL lb_Chart___init__X_1 xs ρ))))))))
theorem le_ChartX (x : Addr) (ds : List Dt) (Q : Dt → Prop) (E : Xn → Prop) (h : c_ChartX ds Q E) : fnWpI 11 "Chart" mb_Chart___init__X x ds Q E := by
  rcases h with ⟨L, rfl, hL, h⟩ | ⟨d, e, rfl, hb, h⟩
  · have key := le_ChartE x [layD L] Q E E ⟨L, rfl, hL, h⟩
    simp only [fnWpI, mb_Chart___init__, mb_Chart___init__X, List.map_cons, List.map_nil, List.replicate, List.length_cons, List.length_nil, Nat.reduceSub, Nat.reduceAdd, List.cons_append, List.nil_append, EV] at key ⊢
    obtain ⟨L', e, hL', key⟩ := key
    refine .inl ⟨L, rfl, hL, ?_⟩
    have e' : layD L' = layD L := by simpa using e.symm
    rw [e'] at key
    exact key
  · simp only [fnWpI, mb_Chart___init__X, List.map_cons, List.map_nil, List.replicate, List.length_cons, List.length_nil, Nat.reduceSub, Nat.reduceAdd, List.cons_append, List.nil_append, EV]
    exact .inr ⟨d, e, rfl, hb, h⟩
end Mv


namespace Mv
open PySem L2 PyProof.Rows
def kwOf (L : List Kd) : List (PySem.Str × Kd) := L.map fun k => (k.nm, k)
def seenT (L : List Kd) : Dt := .dct (mapT (fun k => lstT (watchedL L k)) (kwOf L))
def datesT (L : List Kd) : Dt := .dct (mapT (fun k => Dt.int k.ed) (kwOf L))
theorem kw_look {L : List Kd} (nd : (L.map Kd.nm).Nodup) {k : Kd} (hk : k ∈ L) : (kwOf L).lookup k.nm = some k := by
  induction L with
  | nil => cases hk
  | cons j L ih =>
    obtain ⟨h1, h2⟩ := List.nodup_cons.mp nd
    rw [kwOf, List.map_cons, List.lookup_cons]
    rcases List.mem_cons.mp hk with rfl | hk
    · simp
    · have ne : (k.nm == j.nm) = false := by
        rw [beq_eq_false_iff_ne]; intro e; exact h1 (e ▸ List.mem_map_of_mem hk)
      rw [ne]; exact ih h2 hk
theorem look_seenT {L : List Kd} (ok : LayOk L) {k : Kd} (hk : k ∈ L) : lookD (mapT (fun k => lstT (watchedL L k)) (kwOf L)) (.inr k.nm) = some (lstT (watchedL L k)) := by rw [look_mapT, kw_look ok.nodup hk]; rfl
theorem look_datesT {L : List Kd} (ok : LayOk L) {k : Kd} (hk : k ∈ L) : lookD (mapT (fun k => Dt.int k.ed) (kwOf L)) (.inr k.nm) = some (.int k.ed) := by rw [look_mapT, kw_look ok.nodup hk]; rfl
def c__law_seen (ds : List Dt) : Wp Dt := fun Q _ => ∃ L, ds = [layD L] ∧ LayOk L ∧ Q (seenT L)
def c__law_dates (ds : List Dt) : Wp Dt := fun Q _ => ∃ L, ds = [layD L] ∧ LayOk L ∧ Q (datesT L)
theorem mn_c__law_seen (ds : List Dt) : Mn (c__law_seen ds) := fun Q Q' E E' h _ ⟨L, a, b, q⟩ => ⟨L, a, b, h _ q⟩
theorem mn_c__law_dates (ds : List Dt) : Mn (c__law_dates ds) := fun Q Q' E E' h _ ⟨L, a, b, q⟩ => ⟨L, a, b, h _ q⟩
def lb__law_seen_0 : Dt → Env → Wp Fl := fun x ρ => Wp.bind ((aTup (aCons (aN 2) (aCons (aN 3) (aCons (aN 4) (aCons (aN 5) (aCons (aN 6) aNil)))))) x ρ) fun ρ =>
    (Wp.bind (Wp.bind (Wp.bind (Wp.bind (gF ρ 0) itA) fun xs => Wp.bind (Wp.calm (compL (fun ρ => (wAnd (Wp.bind (Wp.bind (Wp.bind (gR ρ 7) fun x => Wp.bind (Wp.ret (Dt.int 1)) fun y => pyIx x y) fun x => Wp.bind (gR ρ 3) fun y => pyLt x y) asB) (Wp.bind (Wp.bind (Wp.bind (gR ρ 7) fun x => Wp.bind (Wp.ret (Dt.int 3)) fun y => pyIx x y) fun x => Wp.bind (gR ρ 6) fun y => pyIn x y) asB))) (fun ρ => (Wp.bind (gR ρ 7) fun x => Wp.bind (Wp.ret (Dt.int 0)) fun y => pyIx x y)) (aN 7) (wipeE ρ [7]) xs [])) fun ys => .ret (Nw.l ys)) fun n => .ret n.dt) fun d => Wp.bind (gD ρ 1) fun kvs => Wp.bind (gF ρ 2) fun k => Wp.bind (ofO (keyD k)) fun k => .gd (kvs.length < sizeLine) (.ret (Fl.nx (ρ.set 1 (.od (putD kvs k d))))))
def mb__law_seen : Env → Wp Fl := fun ρ =>
    (Wp.fl (Wp.bind (Wp.bind (Wp.ret (Nw.d [])) fun d => .ret d.sl) fun x => .ret (Fl.nx (ρ.set 1 x))) fun ρ =>
    (Wp.fl (Wp.bind (Wp.bind (gF ρ 0) itA) fun xs => forL lb__law_seen_0 xs ρ) fun ρ =>
    ((fun ρ => (Wp.bind (gF ρ 1) fun d => .ret (Fl.rt d))) (fzS 1 ρ))))
def mb__law_dates : Env → Wp Fl := fun ρ =>
    (Wp.bind (Wp.bind (Wp.bind (Wp.bind (Wp.bind (Wp.bind (Wp.bind (gF ρ 0) itA) fun xs => Wp.bind (Wp.calm (compL (fun ρ => (Wp.ret true)) (fun ρ => (Wp.bind (Wp.bind (Wp.bind (gR ρ 1) fun x => Wp.bind (Wp.ret (Dt.int 0)) fun y => pyIx x y) fun x => Wp.bind (Wp.bind (Wp.bind (gR ρ 1) fun x => Wp.bind (Wp.ret (Dt.int 1)) fun y => pyIx x y) fun x => Wp.bind (Wp.ret []) fun xs => .ret (x :: xs)) fun xs => .ret (x :: xs)) fun xs => .ret (Dt.tup xs))) (aN 1) (wipeE ρ [1]) xs [])) fun ys => .ret (Nw.l ys)) fun n => .ret n.dt) fun x => Wp.bind (Wp.ret []) fun xs => .ret (x :: xs)) pyDict) fun n => .ret n.dt) fun d => .ret (Fl.rt d))
theorem le__law_seen (ds : List Dt) (Q : Dt → Prop) (E : Xn → Prop) (h : c__law_seen ds Q E) : fnWp 8 mb__law_seen ds Q fun _ => False := by
  obtain ⟨L, rfl, hL, h⟩ := h
  have sl : sizeLine = 16777216 := by decide
  have l2 := hL.l2
  simp only [fnWp_def, mb__law_seen, List.map_cons, List.map_nil, List.replicate, List.length_cons, List.length_nil, Nat.reduceSub, Nat.reduceAdd, List.cons_append, List.nil_append, EV, k_itLay]
  refine k_for Kd.d (l := L) (fun pre ρ => ∃ s2 s3 s4 s5 s6 : Sl, ρ = [.fz (layD L), .od (mapT (fun k => lstT (watchedL L k)) (kwOf pre)), s2, s3, s4, s5, s6, .no]) ⟨_, _, _, _, _, rfl⟩ ?_ ?_
  · rintro pre k rest ρ K e ⟨s2, s3, s4, s5, s6, rfl⟩ hK
    have hm := hL.mid e
    have hp : pre.length < 24 := by have := congrArg List.length e; simp at this; omega
    simp only [lb__law_seen_0, EV, k_itLay]
    refine k_comp Kd.d (fun j => decide (j.ed < k.ed) && inS j.lt k.mr) (fun j => .str j.nm) (by simp; omega) (fun j hj K1 K0 h1 h0 => ?_) ?_
    · simp only [EV]
      by_cases a : j.ed < k.ed
      · simp only [a, decide_true, Bool.true_and, if_true] at h1 h0 ⊢
        cases b : inS j.lt k.mr with
        | true => exact h1 b
        | false => exact h0 b
      · simp only [a, decide_false, Bool.false_and, if_false] at h1 h0 ⊢
        exact h0 trivial
    have e1 : [] ++ (L.filter fun j => decide (j.ed < k.ed) && inS j.lt k.mr).map (fun j => Dt.str j.nm) = (watchedL L k).map Dt.str := by rw [watchedL, List.map_map]; rfl
    rw [e1]
    have e2 := put_mapT (fun k => lstT (watchedL L k)) (kwOf pre) k.nm k (by simpa [kwOf] using hm.2.1)
    have e3 : kwOf pre ++ [(k.nm, k)] = kwOf (pre ++ [k]) := by simp [kwOf]
    rw [e3] at e2
    refine ⟨by simp only [mapT, kwOf, List.length_map]; omega, ?_⟩
    rw [show Dt.lst ((watchedL L k).map Dt.str) = lstT (watchedL L k) from rfl, e2]
    exact hK _ ⟨_, _, _, _, _, rfl⟩
  · rintro ρ ⟨s2, s3, s4, s5, s6, rfl⟩
    simp only [EV, fzS]
    exact h
theorem pairs_ok : ∀ (L : List Kd), pairsD (L.map fun k => Dt.tup [.str k.nm, .int k.ed]) = some (L.map fun k => (.inr k.nm, Dt.int k.ed))
  | [] => rfl
  | k :: L => by rw [List.map_cons, pairsD, pairs_ok L]; rfl
theorem merge_new : ∀ (L M : List Kd), ((M ++ L).map Kd.nm).Nodup → mergeD (mapT (fun k => Dt.int k.ed) (kwOf M)) (L.map fun k => (.inr k.nm, Dt.int k.ed)) = mapT (fun k => Dt.int k.ed) (kwOf (M ++ L))
  | [], M, _ => by simp [mergeD]
  | k :: L, M, nd => by
    have hn : k.nm ∉ (kwOf M).map (·.1) := by
      simp only [List.map_append, List.map_cons, List.nodup_append] at nd
      intro z
      exact nd.2.2 k.nm (by simpa [kwOf] using z) k.nm (by simp) rfl
    have e1 := put_mapT (fun k => Dt.int k.ed) (kwOf M) k.nm k hn
    have e3 : kwOf M ++ [(k.nm, k)] = kwOf (M ++ [k]) := by simp [kwOf]
    rw [e3] at e1
    have ih := merge_new L (M ++ [k]) (by simpa using nd)
    rw [List.map_cons]
    show mergeD (putD _ _ _) _ = _
    rw [e1, ih]; simp
theorem le__law_dates (ds : List Dt) (Q : Dt → Prop) (E : Xn → Prop) (h : c__law_dates ds Q E) : fnWp 2 mb__law_dates ds Q fun _ => False := by
  obtain ⟨L, rfl, hL, h⟩ := h
  have sl : sizeLine = 16777216 := by decide
  have l2 := hL.l2
  simp only [fnWp_def, mb__law_dates, List.map_cons, List.map_nil, List.replicate, List.length_cons, List.length_nil, Nat.reduceSub, Nat.reduceAdd, List.cons_append, List.nil_append, EV, k_itLay]
  refine k_comp1 Kd.d (fun k => Dt.tup [.str k.nm, .int k.ed]) (l := L) (by omega) (fun k hk K1 k1 => by simp only [EV]; exact k1) ?_
  show (ofO (pairsD _)).bind _ _ _
  rw [pairs_ok]
  have e := merge_new L [] (by simpa using hL.nodup)
  show Q (.dct (mergeD [] _))
  have e0 : mapT (fun k => Dt.int k.ed) (kwOf []) = [] := rfl
  rw [e0] at e
  rw [e]
  exact h
end Mv


namespace Mv
open PySem L2 PyProof.Rows
def mustB (L : List Kd) (k o : Kd) : Bool := decide (o.nm ∈ under L k.nm) || (L.any fun j => decide (j.nm ∈ under L k.nm) && decide (o.nm ∈ watchedL L j))
def gapB (L : List Kd) (k o : Kd) : Bool := mustB L k o && (decide (o.ed < k.ed) && !decide (o.nm ∈ watchedL L k))
def gapsK (L : List Kd) (k : Kd) : List (Kd × Kd) := (L.filter (gapB L k)).map fun o => (k, o)
def gapsL (L : List Kd) : List (Kd × Kd) := L.flatMap (gapsK L)
def pairT (p : Kd × Kd) : Dt := .tup [.str p.1.nm, .str p.2.nm]
def c__law_gaps (ds : List Dt) : Wp Dt := fun Q _ => ∃ L, ds = [layD L] ∧ LayOk L ∧ Q (.lst ((gapsL L).map pairT))
theorem mn_c__law_gaps (ds : List Dt) : Mn (c__law_gaps ds) := fun Q Q' E E' h _ ⟨L, a, b, q⟩ => ⟨L, a, b, h _ q⟩
def lb__law_gaps_0 : Dt → Env → Wp Fl := fun x ρ => Wp.bind ((aN 8) x ρ) fun ρ =>
    (Wp.bind (Wp.bind (vOr (gF ρ 7) (Wp.bind (gR ρ 6) fun x => Wp.bind (Wp.bind (gR ρ 2) fun x => Wp.bind (gR ρ 8) fun y => pyIx x y) fun y => pyIn x y)) fun d => .ret (Sl.fz d)) fun x => .ret (Fl.nx (ρ.set 7 x)))
def lb__law_gaps_1 : Dt → Env → Wp Fl := fun x ρ => Wp.bind ((aN 6) x ρ) fun ρ =>
    (Wp.fl (Wp.bind (Wp.bind (Wp.bind (gR ρ 6) fun x => Wp.bind (Wp.bind (gR ρ 1) fun x => Wp.bind (gR ρ 5) fun y => pyIx x y) fun y => pyIn x y) fun d => .ret (Sl.fz d)) fun x => .ret (Fl.nx (ρ.set 7 x))) fun ρ =>
    (Wp.fl (Wp.bind (Wp.bind (Wp.bind (gR ρ 1) fun x => Wp.bind (gR ρ 5) fun y => pyIx x y) itA) fun xs => forL lb__law_gaps_0 xs ρ) fun ρ =>
    (wIf (wAnd (Wp.bind (gF ρ 7) asB) (wAnd (Wp.bind (Wp.bind (Wp.bind (gR ρ 3) fun x => Wp.bind (gR ρ 6) fun y => pyIx x y) fun x => Wp.bind (Wp.bind (gR ρ 3) fun x => Wp.bind (gR ρ 5) fun y => pyIx x y) fun y => pyLt x y) asB) (Wp.bind (Wp.bind (gR ρ 6) fun x => Wp.bind (Wp.bind (gR ρ 2) fun x => Wp.bind (gR ρ 5) fun y => pyIx x y) fun y => pyNotIn x y) asB))) ((Wp.bind (gL ρ 4) fun xs => Wp.bind (Wp.bind (Wp.bind (gF ρ 5) fun x => Wp.bind (Wp.bind (gF ρ 6) fun x => Wp.bind (Wp.ret []) fun xs => .ret (x :: xs)) fun xs => .ret (x :: xs)) fun xs => .ret (Dt.tup xs)) fun d => .gd (xs.length < sizeLine) (.ret (Fl.nx (ρ.set 4 (.ol (xs ++ [d]))))))) ((Wp.ret (Fl.nx ρ))))))
def lb__law_gaps_2 : Dt → Env → Wp Fl := fun x ρ => Wp.bind ((aN 5) x ρ) fun ρ =>
    (Wp.bind (Wp.bind (gF ρ 3) itA) fun xs => forL lb__law_gaps_1 xs ρ)
def mb__law_gaps : Env → Wp Fl := fun ρ =>
    (Wp.fl (Wp.bind (Wp.bind (Wp.bind (Wp.bind (gF ρ 0) fun x => Wp.bind (Wp.ret []) fun xs => .ret (x :: xs)) c__law_under) fun d => .ret (Sl.fz d)) fun u => Wp.bind (Wp.bind (Wp.bind (Wp.bind (gF ρ 0) fun x => Wp.bind (Wp.ret []) fun xs => .ret (x :: xs)) c__law_seen) fun d => .ret (Sl.fz d)) fun v => .ret (Fl.nx ((ρ.set 1 u).set 2 v))) fun ρ =>
    (Wp.fl (Wp.bind (Wp.bind (Wp.bind (Wp.bind (gF ρ 0) fun x => Wp.bind (Wp.ret []) fun xs => .ret (x :: xs)) c__law_dates) fun d => .ret (Sl.fz d)) fun u => Wp.bind (Wp.bind (Wp.bind (Wp.ret []) fun xs => .ret (Nw.l xs)) fun d => .ret d.sl) fun v => .ret (Fl.nx ((ρ.set 3 u).set 4 v))) fun ρ =>
    (Wp.fl (Wp.bind (Wp.bind (gF ρ 3) itA) fun xs => forL lb__law_gaps_2 xs ρ) fun ρ =>
    ((fun ρ => (Wp.bind (gF ρ 4) fun d => .ret (Fl.rt d))) (fzS 4 ρ)))))
theorem kw_keysK (L : List Kd) (f : Kd → Dt) : (mapT f (kwOf L)).map (fun kv => keyDt kv.1) = L.map fun k => Dt.str k.nm := by
  simp [mapT, kwOf, keyDt]
theorem any_pre {L : List Kd} (ok : LayOk L) {k o : Kd} (hk : k ∈ L) : (under L k.nm).any (fun b => L.any fun j => decide (j.nm = b) && decide (o.nm ∈ watchedL L j)) = L.any fun j => decide (j.nm ∈ under L k.nm) && decide (o.nm ∈ watchedL L j) := by
  rw [Bool.eq_iff_iff]
  simp only [List.any_eq_true, Bool.and_eq_true, decide_eq_true_eq]
  constructor
  · rintro ⟨b, hb, j, hj, rfl, z⟩; exact ⟨j, hj, hb, z⟩
  · rintro ⟨j, hj, hb, z⟩; exact ⟨j.nm, hb, j, hj, rfl, z⟩
theorem gaps_len {L : List Kd} (l2 : L.length ≤ 24) : ∀ pre : List Kd, (pre.flatMap (gapsK L)).length ≤ 24 * pre.length
  | [] => by simp
  | j :: pre => by
    have h1 := List.length_filter_le (gapB L j) L
    have h2 : (gapsK L j).length = (L.filter (gapB L j)).length := by simp [gapsK]
    have h3 := gaps_len l2 pre
    rw [List.flatMap_cons, List.length_append, List.length_cons, h2]
    omega
theorem le__law_gaps (ds : List Dt) (Q : Dt → Prop) (E : Xn → Prop) (h : c__law_gaps ds Q E) : fnWp 9 mb__law_gaps ds Q fun _ => False := by
  obtain ⟨L, rfl, hL, h⟩ := h
  have sl : sizeLine = 16777216 := by decide
  have l2 := hL.l2
  simp only [fnWp_def, mb__law_gaps, List.map_cons, List.map_nil, List.replicate, List.length_cons, List.length_nil, Nat.reduceSub, Nat.reduceAdd, List.cons_append, List.nil_append, EV]
  refine ⟨_, L, rfl, .t L, hL, ?_⟩
  simp only [EV]
  refine ⟨L, rfl, hL, ?_⟩
  simp only [EV]
  refine ⟨L, rfl, hL, ?_⟩
  simp only [EV, datesT, kw_keysK, lawU, seenT]
  refine k_for (fun k : Kd => Dt.str k.nm) (l := L) (fun pre ρ => ∃ (ps : List (Kd × Kd)) (s5 s6 s7 s8 : Sl), ps = pre.flatMap (gapsK L) ∧ ρ = [.fz (layD L), .fz (.dct (mapT lstT (unders L))), .fz (.dct (mapT (fun k => lstT (watchedL L k)) (kwOf L))), .fz (.dct (mapT (fun k => Dt.int k.ed) (kwOf L))), .ol (ps.map pairT), s5, s6, s7, s8]) ⟨[], _, _, _, _, rfl, rfl⟩ ?_ ?_
  · rintro pre k rest ρ K e ⟨ps, s5, s6, s7, s8, hps, rfl⟩ hK
    have hk : k ∈ L := by rw [e]; simp
    have hp : pre.length < 24 := by have := congrArg List.length e; simp at this; omega
    have hpl : ps.length ≤ 24 * pre.length := by rw [hps]; exact gaps_len l2 pre
    simp only [lb__law_gaps_2, EV, kw_keysK]
    refine k_for (fun o : Kd => Dt.str o.nm) (l := L) (fun pre2 ρ => ∃ (s6 s7 s8 : Sl), ρ = [.fz (layD L), .fz (.dct (mapT lstT (unders L))), .fz (.dct (mapT (fun k => lstT (watchedL L k)) (kwOf L))), .fz (.dct (mapT (fun k => Dt.int k.ed) (kwOf L))), .ol ((ps ++ (pre2.filter (gapB L k)).map fun o => (k, o)).map pairT), .fz (.str k.nm), s6, s7, s8]) ⟨s6, s7, s8, by simp⟩ ?_ ?_
    · rintro pre2 o rest2 ρ K2 e2 ⟨s6, s7, s8, rfl⟩ hK2
      have ho : o ∈ L := by rw [e2]; simp
      have hp2 : pre2.length < 24 := by have := congrArg List.length e2; simp at this; omega
      have hfl := List.length_filter_le (gapB L k) pre2
      simp only [lb__law_gaps_1, EV, lookU hk, (IsRow.l (under L k.nm)).in, (IsRow.l (under L k.nm)).it]
      refine k_for Dt.str (l := under L k.nm) (fun pre3 ρ => ∃ (s8 : Sl), ρ = [.fz (layD L), .fz (.dct (mapT lstT (unders L))), .fz (.dct (mapT (fun k => lstT (watchedL L k)) (kwOf L))), .fz (.dct (mapT (fun k => Dt.int k.ed) (kwOf L))), .ol ((ps ++ (pre2.filter (gapB L k)).map fun o => (k, o)).map pairT), .fz (.str k.nm), .fz (.str o.nm), .fz (.bl (decide (o.nm ∈ under L k.nm) || pre3.any fun b => L.any fun j => decide (j.nm = b) && decide (o.nm ∈ watchedL L j))), s8]) ⟨s8, by simp⟩ ?_ ?_
      · rintro pre3 b rest3 ρ K3 e3 ⟨s8, rfl⟩ hK3
        have hb : b ∈ under L k.nm := by rw [e3]; simp
        obtain ⟨j, hj, rfl⟩ := List.mem_map.mp (under_ns _ _ hb)
        have hjj : (L.any fun i => decide (i.nm = j.nm) && decide (o.nm ∈ watchedL L i)) = decide (o.nm ∈ watchedL L j) := by
          rw [Bool.eq_iff_iff]
          simp only [List.any_eq_true, Bool.and_eq_true, decide_eq_true_eq]
          constructor
          · rintro ⟨i, hi, ei, z⟩
            have : i = j := nm_inj hL.nodup hi hj ei
            subst this; exact z
          · intro z; exact ⟨j, hj, rfl, z⟩
        have hK3 := hK3 [.fz (layD L), .fz (.dct (mapT lstT (unders L))), .fz (.dct (mapT (fun k => lstT (watchedL L k)) (kwOf L))), .fz (.dct (mapT (fun k => Dt.int k.ed) (kwOf L))), .ol ((ps ++ (pre2.filter (gapB L k)).map fun o => (k, o)).map pairT), .fz (.str k.nm), .fz (.str o.nm), .fz (.bl (decide (o.nm ∈ under L k.nm) || (pre3 ++ [j.nm]).any fun b => L.any fun j => decide (j.nm = b) && decide (o.nm ∈ watchedL L j))), .fz (.str j.nm)] ⟨_, rfl⟩
        simp only [List.any_append, List.any_cons, List.any_nil, Bool.or_false, hjj] at hK3
        simp only [lb__law_gaps_0, EV, look_seenT hL hj, (IsRow.l (watchedL L j)).in]
        cases c : (decide (o.nm ∈ under L k.nm) || pre3.any fun b => L.any fun j => decide (j.nm = b) && decide (o.nm ∈ watchedL L j)) with
        | true =>
          rw [← Bool.or_assoc, c, Bool.true_or] at hK3
          simp only [if_true, EV]
          exact hK3
        | false =>
          rw [← Bool.or_assoc, c, Bool.false_or] at hK3
          simp only [Bool.false_eq_true, if_false, EV]
          exact hK3
      · rintro ρ ⟨s8, rfl⟩
        have em : (decide (o.nm ∈ under L k.nm) || (under L k.nm).any fun b => L.any fun j => decide (j.nm = b) && decide (o.nm ∈ watchedL L j)) = mustB L k o := by rw [any_pre hL hk]; rfl
        rw [em]
        have hK2 := hK2 [.fz (layD L), .fz (.dct (mapT lstT (unders L))), .fz (.dct (mapT (fun k => lstT (watchedL L k)) (kwOf L))), .fz (.dct (mapT (fun k => Dt.int k.ed) (kwOf L))), .ol ((ps ++ ((pre2 ++ [o]).filter (gapB L k)).map fun o => (k, o)).map pairT), .fz (.str k.nm), .fz (.str o.nm), .fz (.bl (mustB L k o)), s8] ⟨_, _, _, rfl⟩
        simp only [filter_snoc] at hK2
        simp only [EV, look_datesT hL ho, look_datesT hL hk, look_seenT hL hk, (IsRow.l (watchedL L k)).notIn]
        have hg : gapB L k o = (mustB L k o && (decide (o.ed < k.ed) && !decide (o.nm ∈ watchedL L k))) := rfl
        cases c1 : mustB L k o with
        | false =>
          rw [c1] at hK2 hg
          rw [hg] at hK2
          simp only [Bool.false_and, Bool.false_eq_true, if_false] at hK2 ⊢
          exact hK2
        | true =>
          rw [c1] at hK2 hg
          rw [hg] at hK2
          simp only [Bool.true_and, if_true] at hK2 ⊢
          by_cases c2 : o.ed < k.ed
          · simp only [c2, decide_true, Bool.true_and, if_true] at hK2 ⊢
            by_cases c3 : o.nm ∈ watchedL L k
            · simp only [c3, decide_true, Bool.not_true, Bool.false_eq_true, if_false, if_true] at hK2 ⊢
              exact hK2
            · simp only [c3, decide_false, Bool.not_false, if_true, if_false, List.map_append, List.map_cons, List.map_nil] at hK2 ⊢
              refine ⟨by simp; omega, ?_⟩
              rw [← List.append_assoc] at hK2
              exact hK2
          · simp only [c2, decide_false, Bool.false_and, Bool.false_eq_true, if_false] at hK2 ⊢
            exact hK2
    · rintro ρ ⟨s6, s7, s8, rfl⟩
      simp only [EV]
      exact hK _ ⟨ps ++ gapsK L k, _, _, _, _, by rw [hps, List.flatMap_append]; simp, rfl⟩
  · rintro ρ ⟨ps, s5, s6, s7, s8, hps, rfl⟩
    simp only [EV, fzS, hps]
    exact h
end Mv


namespace Mv
open PySem L2 PyProof.Rows
section
variable {X : Cx} {E : XS} {Z : Kx} {o : Expr} {p pos apos mpos : Pos} {td : TE}
theorem RpKv.vals {B : Hp} : ∀ {vs : List (Key × V)} {xs : List (Key × Dt)}, RpKv Z B vs xs → RpAll Z B (vs.map (·.2)) (xs.map (·.2))
  | _, _, .nil => .nil
  | _, _, .cons a r => .cons a (RpKv.vals r)
end
end Mv

namespace Mv
open PySem L2 PyProof.Rows
inductive HitsV (K : PySem.W.Frag) (H : Hp) (ls : List (Key × V)) : List (Key × V) → Bool → Prop
  | nil : HitsV K H ls [] true
  | miss {k : Key} {v : V} {r : List (Key × V)} : valV ls k = none → HitsV K H ls ((k, v) :: r) false
  | hit {k : Key} {v u : V} {d e : PyData} {r : List (Key × V)} {b : Bool} : valV ls k = some u → Dp K H v d → Dp K H u e → SeqAt.shaped d = true → SeqAt.shaped e = true → HitsV K H ls r b → HitsV K H ls ((k, v) :: r) (PyData.eqv d e && b)
section
variable {X : Cx} {pins : List (Addr × Obj)} {σ : L2.St} {H : Hp} {s : Shared}
end
section
variable {X : Cx} {Z : Kx} {B : Hp}
end
end Mv

namespace Mv
open PySem L2
section
variable {X : Cx} {E : XS} {Z : Kx}
end
end Mv

namespace Mv
open PySem L2 PyProof.Rows GenW
section
variable {M : Model} {A : Around} {R : GenEnd} {Y : Protocol} {n : Nat} {s0 : Shared} {c : Code} {fs : List Frame} {s : Shared} {env : PySem.Env} {K : Flow → Sem PySem.Fin} {J : Value → Sem PySem.Fin} {gd : Bool → Bool} {lv : List Value → List Value}
/-- a loop's answer, back in the frame that began it -/
def backK (env : PySem.Env) (K : Flow → Sem PySem.Fin) (J : Value → Sem PySem.Fin) (gd : Bool → Bool) (lv : List Value → List Value) : Result → Sem PySem.Fin :=
  fun r => ((match r with | .ok f => (.pure f : Sem Flow) | .error e => .raise e).onRaise (cameBack env)).wrap K J gd lv
theorem sg_For {tg it : Expr} {body els : List Stmt} {pos : Pos} (hs : ∀ x, foldedSetIterable it env x = pure x)
    (h : wpAny M (A.over c fs) (eval it env) (fun x s1 => wpAny M (A.over c fs) (pyIter x) (fun iv s2 => ∀ p, Seg M A R Y n s0 (.forLoop tg iv body els env) (M.den (.forLoop tg iv body els env)) (.ret (backK env K J gd lv) none (gd false) (lv []) c p [] :: fs) s2) (fun e s' => Seg M A R Y n s0 c (J e) fs s') s1)
      (fun e s' => Seg M A R Y n s0 c (J e) fs s') s) : Seg M A R Y n s0 c ((exec (.For tg it body els pos) env).wrap K J gd lv) fs s := by
  rw [exec_For]
  show Seg M A R Y n s0 c (.at pos fun _ => Sem.wrap K J gd lv (eval it env >>= fun v => foldedSetIterable it env v >>= fun x => standAt it.pos >>= fun _ => holding [x] (pyIter x) >>= fun iv => runOwn (.forLoop tg iv body els env) env)) fs s
  refine seg_at ?_
  rw [Sem.bind_eq_wrap', Sem.wrap_wrap]
  refine seg_wrap (wpAny_mono h (fun x s1 h1 => ?_) fun _ _ z => z)
  rw [hs x]
  show Seg M A R Y n s0 c (.at it.pos fun _ => Sem.wrap K J gd lv (holding [x] (pyIter x) >>= fun iv => runOwn (.forLoop tg iv body els env) env)) fs s1
  refine seg_at ?_
  rw [Sem.bind_eq_wrap', Sem.wrap_wrap]
  refine seg_wrap (wpAny_holding (wpAny_mono h1 (fun iv s2 h2 => ?_) fun _ _ z => z))
  exact seg_call h2
end
section
variable {prog : Program} {w : World} {A : Around} {R : GenEnd} {Y : Protocol} {n : Nat} {s0 : Shared} {fs : List Frame} {s : Shared} {env : PySem.Env}
def noteK (env : PySem.Env) (e : Value) : Sem PySem.Fin := (do noteFrame e env; theTreesLotGoes e : Sem Unit).wrap (fun _ => .raise e) .raise id id
theorem noteK_eq (env : PySem.Env) (e : Value) : ((do noteFrame e env; theTreesLotGoes e : Sem Unit).bind fun _ => (.raise e : Sem PySem.Fin)) = noteK env e := Sem.bind_eq_wrap _ _
def turnK (tg : Expr) (iv : Value) (body els : List Stmt) (env : PySem.Env) : Flow → Sem PySem.Fin
  | .next => .pure (.again (.forLoop tg iv body els env))
  | .cont => .pure (.again (.forLoop tg iv body els env))
  | .brk => .pure (.done .next)
  | .ret v => .pure (.done (.ret v))
theorem sg_forLoop {tg : Expr} {iv : Value} {body els : List Stmt}
    (h : wpAny (model prog w) (A.over (.forLoop tg iv body els env) fs) (pyNext iv) (fun r s1 => match r with
        | none => Seg (model prog w) A R Y n s0 (.block els env) ((model prog w).den (.block els env)) fs s1
        | some v => wpAny (model prog w) (A.over (.forLoop tg iv body els env) fs) (letOwnedTupleGo tg iv v) (fun _ s2 =>
            wpAny (model prog w) (A.over (.forLoop tg iv body els env) fs) (assign tg env v) (fun _ s3 =>
              Seg (model prog w) A R Y n s0 (.forLoop tg iv body els env) ((execs body env).wrap (turnK tg iv body els env) (noteK env) id id) fs s3)
              (fun e s' => Seg (model prog w) A R Y n s0 (.forLoop tg iv body els env) (noteK env e) fs s') s2)
            (fun e s' => Seg (model prog w) A R Y n s0 (.forLoop tg iv body els env) (noteK env e) fs s') s1)
      (fun e s' => Seg (model prog w) A R Y n s0 (.forLoop tg iv body els env) (noteK env e) fs s') s) :
    Seg (model prog w) A R Y n s0 (.forLoop tg iv body els env) ((model prog w).den (.forLoop tg iv body els env)) fs s := by
  show Seg _ A R Y n s0 _ ((forTurn tg iv body els env).onRaise (fun x => do noteFrame x env; theTreesLotGoes x)) fs s
  rw [Sem.onRaise_eq_wrap]
  rw [Sem.wrap_congr (forTurn tg iv body els env) id id (K' := Sem.pure) (H' := noteK env) (fun _ => rfl) (fun e => noteK_eq env e)]
  unfold forTurn
  rw [Sem.bind_eq_wrap', Sem.wrap_wrap]
  refine seg_wrap (wpAny_standAt ?_)
  rw [Sem.bind_eq_wrap', Sem.wrap_wrap]
  refine seg_wrap (wpAny_onRaise (wpAny_mono h (fun r s1 h1 => ?_) fun _ _ z => wpAny_standAt z))
  cases r with
  | none => exact seg_again rfl h1
  | some v =>
    show Seg _ A R Y n s0 _ (Sem.wrap _ _ _ _ (letOwnedTupleGo tg iv v >>= _)) fs s1
    rw [Sem.bind_eq_wrap', Sem.wrap_wrap]
    refine seg_wrap (wpAny_mono h1 (fun _ s2 h2 => ?_) fun _ _ z => z)
    show Seg _ A R Y n s0 _ (Sem.wrap _ _ _ _ (assign tg env v >>= _)) fs s2
    rw [Sem.bind_eq_wrap', Sem.wrap_wrap]
    refine seg_wrap (wpAny_mono h2 (fun _ s3 h3 => ?_) fun _ _ z => z)
    show Seg _ A R Y n s0 _ (Sem.wrap _ _ _ _ (execs body env >>= _)) fs s3
    rw [Sem.bind_eq_wrap', Sem.wrap_wrap]
    rw [Sem.wrap_congr (execs body env) _ _ (K' := turnK tg iv body els env) (H := fun e => Sem.wrap Sem.pure (noteK env) id id (Sem.raise e)) (H' := noteK env) (fun f => by cases f <;> rfl) (fun e => rfl)]
    exact h3
theorem sg_block0 (h : Seg (model prog w) A R Y n s0 (.block [] env) (leafOf (.ok .next)) fs s) : Seg (model prog w) A R Y n s0 (.block [] env) ((model prog w).den (.block [] env)) fs s := h
end
section
variable {X : Cx} {st : Stmt} {rest : List Stmt} {pos : Pos}
def tGIf (tc : TT) (ta tb : TGn) : TGn := fun D ys σ H => tc σ H fun b H1 => if b = true then ta D ys σ H1 else tb D ys σ H1
theorem gs_if {test : Expr} {a b : List Stmt} {tc : TT} {ta tb : TGn} (hc : PT X test tc) (ha : GSs X a ta) (hb : GSs X b tb) : GS X (.If test a b pos) (tGIf tc ta tb) := by
  refine ⟨fun A S ip R n ys s0 c fs K J gd lv s σ H D g hn k hI ht => ?_⟩
  obtain ⟨acc, cc, r, I⟩ := hI
  show Seg _ A R _ n s0 c (.at pos fun _ => Sem.wrap K J gd lv (isTrue test X.env (eval test X.env) >>= fun b' => if b' = true then execs a X.env else execs b X.env)) fs s
  refine seg_at ?_
  rw [Sem.bind_eq_wrap', Sem.wrap_wrap]
  refine seg_wrap ?_
  rw [g.over]
  refine wpAny_mono (hc.run _ s σ H _ I ht) (fun b' s' hb' => ?_) fun x s' hx => k.exc n s0 x s' hx
  obtain ⟨H2, I2, q2⟩ := hb'
  cases b' with
  | true => exact ha.run A S ip R n ys s0 c fs K J gd lv s' σ H2 D g hn k ⟨acc, cc, r, I2⟩ q2
  | false => exact hb.run A S ip R n ys s0 c fs K J gd lv s' σ H2 D g hn k ⟨acc, cc, r, I2⟩ q2
def tGFor (wi : TI) (g : TG) (tb : TGn) : TGn := fun D ys σ H => wi σ H fun J H1 => ∃ W : Nat → Nat → List V → L2.St → Hp → Prop, (∃ m, W 0 m ys σ H1) ∧ ∀ i m ys σ H, W i m ys σ H →
  (J.stop i H ∧ D.nx ys σ H) ∨ (J.go i H ∧ ∃ N : List V → L2.St → Hp → Prop, (∀ ys' σ' H', N ys' σ' H' → ∃ m', m' < m ∧ W (i + 1) m' ys' σ' H') ∧ ∀ x H', J.yld i H x H' → g x σ H' fun σ2 H2 => tb { D with nx := N, ct := N, bk := D.nx } ys σ2 H2)
/-- more iterators of the generator's own -/
theorem gc_more {S : Addr} {ip ip2 : List (Addr × Obj)} {A : Around} {c : Code} {fs : List Frame} {gd : Bool → Bool} (g : GC X S ip A c fs gd) (h : ∀ p ∈ ip2, p.1 ≠ S) : GC X S (ip ++ ip2) A c fs gd :=
  ⟨g.pn, fun p hp => (List.mem_append.mp hp).elim (g.ip p) (h p), g.apart, g.over, g.split, g.guard, g.gd⟩
theorem gs_for {tg it : Expr} {body : List Stmt} {wi : TI} {gt : TG} {tb : TGn} (hp : PassesOwn (model X.prog X.w) X.A X.env X.xe) (hc : X.calm = true) (hi : PI X tg it wi) (hg : PG X tg gt) (hb : GSs X body tb)
    (hs : ∀ x, foldedSetIterable it X.env x = pure x := by intro _; rfl) : GS X (.For tg it body [] pos) (tGFor wi gt tb) := by
  refine ⟨fun A S ip R n ys s0 c fs K J gd lv s σ H D g hn k hI ht => ?_⟩
  obtain ⟨acc0, cc0, r0, I0⟩ := hI
  refine sg_For hs ?_
  rw [g.over]
  refine wpAny_mono (hi.run _ s σ H _ I0 ht) (fun x s1 h1 => wpAny_mono h1 (fun iv s2 h2 => ?_) fun x s' hx => k.exc n s0 x s' hx) fun x s' hx => k.exc n s0 x s' hx
  obtain ⟨ia, fp, tn, Jt, H2, rfl, I2, T, st2, f2, W, ⟨m0, w0⟩, turn⟩ := h2
  intro p
  have stat : ∀ {acc : Array Value} {cc : Nat} {H' : Hp}, (∀ b ∈ fp, H' b = none) → ∀ b ∈ fp, FpOk X ((S, lstObj acc cc) :: ip) H' b := fun {acc cc H'} hn b hb => by
    obtain ⟨_, q1, q2, q3, q4, q5⟩ := f2 b hb
    refine ⟨hn b hb, q1, q2, q3, q4, fun p hp => ?_⟩
    rcases List.mem_append.mp hp with z | z
    · exact q5 p (List.mem_append_left _ z)
    · rcases List.mem_cons.mp z with z | z
      · subst z; exact q5 (S, lstObj acc0 cc0) (List.mem_append_right _ List.mem_cons_self)
      · exact q5 p (List.mem_append_right _ (List.mem_cons_of_mem _ z))
  have notS : ∀ b ∈ fp, b ≠ S := fun b hb z => (f2 b hb).2.2.2.2.2 (S, lstObj acc0 cc0) (List.mem_append_right _ List.mem_cons_self) z.symm
  have gl : GC X S ip A (.forLoop tg (.ref ia) body [] X.env) (.ret (backK X.env K J gd lv) none (gd false) (lv []) c p [] :: fs) id := gc_loop (k := backK X.env K J gd lv) (l := lv []) (kp := []) (p := p) g rfl rfl
  have ee : ∀ (n : Nat) (s0 : Shared) (e : Value) (s' : Shared), X.xe e s' → Seg (model X.prog X.w) A R (GY X S) n s0 (.forLoop tg (.ref ia) body [] X.env) (noteK X.env e) (.ret (backK X.env K J gd lv) none (gd false) (lv []) c p [] :: fs) s' := fun n s0 e s' hx => by
    refine seg_wrap ?_
    rw [gl.over]
    refine wpAny_bind (wpAny_mono (hp e s' hx) (fun _ s'' hcb => wpAny_theTreesLotGoes ?_) fun y s'' hcb => ?_)
    · exact seg_leaf (.error e) (seg_cameBack g k hcb)
    · exact seg_leaf (.error y) (seg_cameBack g k hcb)
  have loop : ∀ (m i n : Nat) (ys : List V) (s0 s : Shared) (σ : L2.St) (H : Hp), n + ys.length = sizeLine → W i m ys σ H → GI X S ip ys σ H s → tn i s.heap → (∀ b ∈ fp, H b = none) →
      Seg (model X.prog X.w) A R (GY X S) n s0 (.forLoop tg (.ref ia) body [] X.env) ((model X.prog X.w).den (.forLoop tg (.ref ia) body [] X.env)) (.ret (backK X.env K J gd lv) none (gd false) (lv []) c p [] :: fs) s := by
    intro m
    induction m using Nat.strongRecOn with
    | ind m ih =>
      intro i n ys s0 s σ H hn w hI st fr
      obtain ⟨acc, cc, r, I⟩ := hI
      refine sg_forLoop ?_
      rw [gl.over]
      rcases turn i m ys σ H w with ⟨stop, qn⟩ | ⟨go, N, hN, step⟩
      · refine wpAny_mono (T.done X rfl rfl rfl hc i _ s σ H X.xe I (stat fr) st stop) (fun r' s4 h4 => ?_) fun x s' hx => ee n s0 x s' hx
        obtain ⟨rfl, I4⟩ := h4
        exact sg_block0 (seg_leaf (.ok .next) (k.ok n ys s0 s4 .next hn ⟨σ, H, ⟨acc, cc, r, I4⟩, qn⟩))
      · refine wpAny_mono (T.item X rfl rfl rfl hc i _ s σ H X.xe I (stat fr) st go) (fun r' s4 h4 => ?_) fun x s' hx => ee n s0 x s' hx
        obtain ⟨u, rfl, h4⟩ := h4
        refine wpAny_mono h4 (fun _ s5 h5 => ?_) fun x s' hx => ee n s0 x s' hx
        obtain ⟨x, H5, I5, r5, y5, st5, fr5⟩ := h5
        have I5' := I5.pinned (stat fr5) (T.obj _ _ st5)
        refine wpAny_mono (hg.run _ s5 σ H5 x u _ I5' r5 (step x H5 y5)) (fun _ s6 h6 => ?_) fun x s' hx => ee n s0 x s' hx
        obtain ⟨σ6, H6, I6, q6⟩ := h6
        have again : ∀ {n' : Nat} {ys' : List V} {s0' s7 : Shared} {σ7 : L2.St} {H7 : Hp}, n' + ys'.length = sizeLine → GI X S (ip ++ pinsAt fp s5.heap) ys' σ7 H7 s7 → N ys' σ7 H7 →
            Seg (model X.prog X.w) A R (GY X S) n' s0' (.forLoop tg (.ref ia) body [] X.env) ((model X.prog X.w).den (.forLoop tg (.ref ia) body [] X.env)) (.ret (backK X.env K J gd lv) none (gd false) (lv []) c p [] :: fs) s7 := fun {n' ys' s0' s7 σ7 H7} hn' I7 n7 => by
          obtain ⟨m', hm, w7⟩ := hN ys' σ7 H7 n7
          obtain ⟨acc7, cc7, r7, J7⟩ := I7
          have pin7 : ∀ b ∈ fp, ∀ o, s5.heap.get? b = some o → s7.heap.get? b = some o ∧ H7 b = none := fun b hb o e => by
            have q := J7.pin (b, o) (List.mem_append_right _ (List.mem_cons_of_mem _ (List.mem_append_right _ (mem_pinsAt hb e))))
            exact ⟨q.1, q.2.1⟩
          refine ih m' hm (i + 1) n' ys' s0' s7 σ7 H7 hn' w7 ⟨acc7, cc7, r7, J7.pins_of fun q hq => J7.pin q (List.mem_append_right _ ?_)⟩ (T.keep _ _ _ st5 fun b hb o e => (pin7 b hb o e).1) fun b hb => ?_
          · rcases List.mem_cons.mp hq with z | z
            · subst z; exact List.mem_cons_self
            · exact List.mem_cons_of_mem _ (List.mem_append_left _ z)
          · obtain ⟨o, e, _⟩ := T.obj _ _ st5 b hb
            exact (pin7 b hb o e).2
        have back : ∀ {ys' : List V} {s7 : Shared} {σ7 : L2.St} {H7 : Hp}, GI X S (ip ++ pinsAt fp s5.heap) ys' σ7 H7 s7 → GI X S ip ys' σ7 H7 s7 := fun {ys' s7 σ7 H7} I7 => by
          obtain ⟨acc7, cc7, r7, J7⟩ := I7
          refine ⟨acc7, cc7, r7, J7.pins_of fun q hq => J7.pin q (List.mem_append_right _ ?_)⟩
          rcases List.mem_cons.mp hq with z | z
          · subst z; exact List.mem_cons_self
          · exact List.mem_cons_of_mem _ (List.mem_append_left _ z)
        refine hb.run A S (ip ++ pinsAt fp s5.heap) R n ys s0 _ _ _ _ id id s6 σ6 H6 { D with nx := N, ct := N, bk := D.nx } (gc_more gl fun q hq => notS _ (of_pinsAt hq).1) hn ⟨fun n' ys' s0' s7 f hn' hs' => ?_, fun n' s0' x s7 hx => ee n' s0' x s7 hx⟩ ⟨acc, cc, r, I6⟩ q6
        cases f with
        | next => obtain ⟨σ7, H7, I7, n7⟩ := hs'; exact seg_again rfl (again hn' I7 n7)
        | cont => obtain ⟨σ7, H7, I7, n7⟩ := hs'; exact seg_again rfl (again hn' I7 n7)
        | brk => obtain ⟨σ7, H7, I7, q7⟩ := hs'; exact seg_leaf (.ok .next) (k.ok n' ys' s0' s7 .next hn' ⟨σ7, H7, back I7, q7⟩)
        | ret v => obtain ⟨v7, σ7, H7, I7, rv, q7⟩ := hs'; exact seg_leaf (.ok (.ret v)) (k.ok n' ys' s0' s7 (.ret v) hn' ⟨v7, σ7, H7, back I7, rv, q7⟩)
  exact loop m0 0 n ys s0 s2 σ H2 hn w0 ⟨acc0, cc0, r0, I2⟩ st2 fun b hb => (f2 b hb).1
end
end Mv

namespace Mv
open PySem L2 PyProof.Rows GenW
abbrev GFl := List Dt × Fl
def PostG (Z : Kx) (B0 F : Hp) (D : GEnds) : GFl → Prop
  | (ys, .nx ρ) => ∀ us σ B H, SR Z B0 F ρ σ B H → RpAll Z B us ys → D.nx us σ H
  | (ys, .rt d) => ∀ us v B H, Gr B0 F B H → RpAll Z B us ys → Rp Z B v d → D.rt us v H
  | (ys, .bk ρ) => ∀ us σ B H, SR Z B0 F ρ σ B H → RpAll Z B us ys → D.bk us σ H
  | (ys, .ct ρ) => ∀ us σ B H, SR Z B0 F ρ σ B H → RpAll Z B us ys → D.ct us σ H
  | (ys, .rs d S) => False
structure EvY (Z : Kx) (E : XS) (t : TGn) (m : List Dt → Env → Wp GFl) : Prop where
  mn : ∀ ys ρ, Mn (m ys ρ)
  run : ∀ B0 F ρ σ B H (D : GEnds) us ys, SR Z B0 F ρ σ B H → RpAll Z B us ys → m ys ρ (PostG Z B0 F D) (PostXs Z B0 F E) → t D us σ H
def MY (X : Cx) (E : XS) (st : Stmt) (m : List Dt → Env → Wp GFl) : Prop := ∃ t, GS X st t ∧ EvY (kx X) E t m
def MYs (X : Cx) (E : XS) (st : List Stmt) (m : List Dt → Env → Wp GFl) : Prop := ∃ t, GSs X st t ∧ EvY (kx X) E t m
def gPl (ys : List Dt) (m : Wp Fl) : Wp GFl := m.bind fun f => .ret (ys, f)
def gYl (ys : List Dt) (ρ : Env) (m : Wp Dt) : Wp GFl := .gd (ys.length < sizeLine) (m.bind fun d => .ret (ys ++ [d], .nx ρ))
def gThen (m : Wp GFl) (n : List Dt → Env → Wp GFl) : Wp GFl := m.bind fun x => match x with
  | (ys, .nx ρ) => n ys ρ
  | (ys, .rt d) => .ret (ys, .rt d)
  | (ys, .bk ρ) => .ret (ys, .bk ρ)
  | (ys, .ct ρ) => .ret (ys, .ct ρ)
  | (ys, .rs d S) => .bad
def gIf (c : Wp Bool) (a b : Wp GFl) : Wp GFl := c.bind fun k => if k = true then a else b
def gforL (body : Dt → List Dt → Env → Wp GFl) : List Dt → List Dt → Env → Wp GFl
  | [], ys, ρ => .ret (ys, .nx ρ)
  | x :: xs, ys, ρ => (body x ys ρ).bind fun f => match f with
    | (ys', .nx ρ') => gforL body xs ys' ρ'
    | (ys', .ct ρ') => gforL body xs ys' ρ'
    | (ys', .bk ρ') => .ret (ys', .nx ρ')
    | (ys', .rt d) => .ret (ys', .rt d)
    | (ys', .rs d S) => .bad
theorem mn_gThen {m : Wp GFl} {n : List Dt → Env → Wp GFl} (h : Mn m) (k : ∀ ys ρ, Mn (n ys ρ)) : Mn (gThen m n) := mn_bind h fun x => by
  obtain ⟨ys, f⟩ := x
  cases f <;> first | exact k _ _ | exact mn_ret | exact mn_bad
theorem mn_gIf {c : Wp Bool} {a b : Wp GFl} (h : Mn c) (ha : Mn a) (hb : Mn b) : Mn (gIf c a b) := mn_bind h fun x => by
  cases x with
  | true => simpa using ha
  | false => simpa using hb
theorem mn_gforL {body : Dt → List Dt → Env → Wp GFl} (h : ∀ x ys ρ, Mn (body x ys ρ)) : ∀ (xs ys : List Dt) (ρ : Env), Mn (gforL body xs ys ρ)
  | [], ys, ρ => mn_ret
  | x :: xs, ys, ρ => mn_bind (h x ys ρ) fun f => by
    obtain ⟨ys', f⟩ := f
    cases f <;> first | exact mn_gforL h xs _ _ | exact mn_ret | exact mn_bad
section
variable {X : Cx} {Z : Kx} {E : XS} {e : Expr} {st : Stmt} {rest : List Stmt} {pos yp : Pos}
theorem my_plain {m : Env → Wp Fl} (h : MS X E st m) : MY X E st (fun ys ρ => gPl ys (m ρ)) := by
  obtain ⟨t, p, v⟩ := h
  refine ⟨_, gs_ps p, fun ys ρ => mn_bind (v.mn ρ) fun _ => mn_ret, fun B0 F ρ σ B H D us ys s r q => ?_⟩
  obtain ⟨F', s0, bg, back⟩ := s.root
  refine v.run B F' ρ σ B H (D.at us) s0 (v.mn ρ _ _ _ _ (fun f z => ?_) (fun x z τ c o B' H' g r => z τ c o B' H' (bg _ _ g) r) q)
  cases f with
  | nx ρ' => exact fun σ' B' H' s' => z us σ' B' H' (back _ _ _ _ s') (r.ex s'.ex)
  | rt d => exact fun u B' H' g rd => z us u B' H' (bg _ _ g) (r.ex g.b) rd
  | bk ρ' => exact fun σ' B' H' s' => z us σ' B' H' (back _ _ _ _ s') (r.ex s'.ex)
  | ct ρ' => exact fun σ' B' H' s' => z us σ' B' H' (back _ _ _ _ s') (r.ex s'.ex)
  | rs d S => exact z.elim
theorem my_yield {m : Env → Wp Dt} (h : ME X E e m) (hco : X.env.scope.isCoroutine = false := by rfl) (hi : interactive X.env = false := by rfl) : MY X E (.Expr (.Yield (some e) yp) pos) (fun ys ρ => gYl ys ρ (m ρ)) := by
  obtain ⟨t, p, v⟩ := h
  refine ⟨_, gs_yield p hco hi, fun ys ρ => mn_gd (mn_bind (v.mn ρ) fun _ => mn_ret), fun B0 F ρ σ B H D us ys s r q => ⟨by rw [r.len]; exact q.1, ?_⟩⟩
  exact v.run B0 F ρ σ B H _ s (v.mn ρ _ _ _ _ (fun d z u B' H' g rd => z (us ++ [u]) σ B' H' (s.gr g) ((r.ex g.b).app (.one rd))) (fun _ z => z.sr s) q.2)
theorem mys_nil : MYs X E [] (fun ys ρ => .ret (ys, .nx ρ)) := ⟨_, gss_nil, fun _ _ => mn_ret, fun B0 F ρ σ B H D us ys s r q => q us σ B H s r⟩
theorem mys_cons {m n : List Dt → Env → Wp GFl} (h : MY X E st m) (k : MYs X E rest n) : MYs X E (st :: rest) (fun ys ρ => gThen (m ys ρ) n) := by
  obtain ⟨t, p, v⟩ := h
  obtain ⟨t2, p2, v2⟩ := k
  refine ⟨_, gss_cons p p2, fun ys ρ => mn_gThen (v.mn ys ρ) v2.mn, fun B0 F ρ σ B H D us ys s r q => ?_⟩
  refine v.run B0 F ρ σ B H _ us ys s r (v.mn ys ρ _ _ _ _ (fun x z => ?_) (fun _ z => z) q)
  obtain ⟨ys', f⟩ := x
  cases f with
  | nx ρ' => exact fun us' σ' B' H' s' r' => v2.run B0 F ρ' σ' B' H' D us' ys' s' r' z
  | rt d => exact z
  | bk ρ' => exact z
  | ct ρ' => exact z
  | rs d S => exact z.elim
theorem my_if {c : Expr} {a b : List Stmt} {mc : Env → Wp Bool} {m n : List Dt → Env → Wp GFl} (hc : MT X E c mc) (h : MYs X E a m) (k : MYs X E b n) : MY X E (.If c a b pos) (fun ys ρ => gIf (mc ρ) (m ys ρ) (n ys ρ)) := by
  obtain ⟨tc, pc, vc⟩ := hc
  obtain ⟨t, p, v⟩ := h
  obtain ⟨t2, p2, v2⟩ := k
  refine ⟨_, gs_if pc p p2, fun ys ρ => mn_gIf (vc.mn ρ) (v.mn ys ρ) (v2.mn ys ρ), fun B0 F ρ σ B H D us ys s r q => ?_⟩
  refine vc.run B0 F ρ σ B H _ s (vc.mn ρ _ _ _ _ (fun b z B1 H1 g => ?_) (fun _ z => z.sr s) q)
  cases b with
  | true => exact iteT (v.run B0 F ρ σ B1 H1 D us ys (s.gr g) (r.ex g.b) z)
  | false => exact iteF (v2.run B0 F ρ σ B1 H1 D us ys (s.gr g) (r.ex g.b) z)
/-- a walk in a generator -/
theorem gfor_it {J : It} {n : Nat} {G : Hp → Prop} {Y : Nat → Hp → V → Hp → Prop} (w : Walk J n G Y) {g : TG} {tb : TGn} {D : GEnds} {us : List V} {σ : L2.St} {H : Hp} (Pv : Nat → List V → L2.St → Hp → Prop) (h0 : Pv 0 us σ H) (hG : ∀ i us σ H, i ≤ n → Pv i us σ H → G H)
    (hs : ∀ i x us σ H H', i < n → Pv i us σ H → Y i H x H' → g x σ H' fun σ2 H2 => tb { D with nx := Pv (i + 1), ct := Pv (i + 1), bk := D.nx } us σ2 H2) (hd : ∀ us σ H, Pv n us σ H → D.nx us σ H) :
    ∃ W : Nat → Nat → List V → L2.St → Hp → Prop, (∃ m, W 0 m us σ H) ∧ ∀ i m us σ H, W i m us σ H →
      (J.stop i H ∧ D.nx us σ H) ∨ (J.go i H ∧ ∃ N : List V → L2.St → Hp → Prop, (∀ us' σ' H', N us' σ' H' → ∃ m', m' < m ∧ W (i + 1) m' us' σ' H') ∧ ∀ x H', J.yld i H x H' → g x σ H' fun σ2 H2 => tb { D with nx := N, ct := N, bk := D.nx } us σ2 H2) := by
  refine ⟨fun i m us σ H => m = n - i ∧ i ≤ n ∧ Pv i us σ H, ⟨n, by simp, Nat.zero_le _, h0⟩, ?_⟩
  rintro i m us σ H ⟨rfl, hi, p⟩
  have q := hG i us σ H hi p
  rcases Nat.lt_or_ge i n with hlt | hge
  · exact .inr ⟨w.goes i H hlt q, Pv (i + 1), fun us' σ' H' p' => ⟨n - (i + 1), by omega, rfl, hlt, p'⟩, fun x H' y => hs i x us σ H H' hlt p (w.yields i H x H' hlt q y)⟩
  · obtain rfl : i = n := by omega
    exact .inl ⟨w.stops H q, hd us σ H p⟩
theorem my_for {tg it : Expr} {body : List Stmt} {mi : Env → Wp (List Dt)} {mg : Dt → Env → Wp Env} {mb : List Dt → Env → Wp GFl} (hp : PassesOwn (model X.prog X.w) X.A X.env X.xe) (hc : X.calm = true) (hi : MI X E tg it mi) (hg : MG X tg mg) (hb : MYs X E body mb)
    (hs : ∀ x, foldedSetIterable it X.env x = pure x := by intro _; rfl) : MY X E (.For tg it body [] pos) (fun ys ρ => (mi ρ).bind fun xs => gforL (fun x ys ρ => (mg x ρ).bind (mb ys)) xs ys ρ) := by
  obtain ⟨wi, pi, vi⟩ := hi
  obtain ⟨gt, pg, vg⟩ := hg
  obtain ⟨tb, pb, vb⟩ := hb
  have hM : ∀ x ys ρ, Mn ((mg x ρ).bind (mb ys)) := fun x ys ρ => mn_bind (vg.mn x ρ) (vb.mn ys)
  refine ⟨_, gs_for hp hc pi pg pb hs, fun ys ρ => mn_bind (vi.mn ρ) fun xs => mn_gforL hM xs ys ρ, fun B0 F ρ σ B H D us ys s r q => ?_⟩
  refine vi.run B0 F ρ σ B H _ s (vi.mn ρ _ _ _ _ (fun xs z J B1 H1 g1 w => ?_) (fun _ z => z.sr s) q)
  obtain ⟨G, Y, w, hG, hY⟩ := w
  obtain ⟨F', s0, bg, back⟩ := (s.gr g1).root
  refine gfor_it w (fun i us' σ' H' => ∃ ρ' B' ys', SR (kx X) B1 F' ρ' σ' B' H' ∧ RpAll (kx X) B' us' ys' ∧ gforL (fun x ys ρ => (mg x ρ).bind (mb ys)) (xs.drop i) ys' ρ' (PostG (kx X) B0 F D) (PostXs (kx X) B0 F E)) ⟨ρ, B1, ys, s0, r.ex g1.b, z⟩ (fun i us' σ' H' _ ⟨ρ', B', _, s', _, _⟩ => hG B' H' s'.ex s'.bh) ?_ ?_
  · rintro i x us' σ' H' H'' hlt ⟨ρ', B', ys', s', r', z'⟩ y
    obtain ⟨B2, d, hd, g2, r2⟩ := hY i H' x H'' B' hlt s'.ex s'.bh y
    have ed : xs.drop i = d :: xs.drop (i + 1) := by
      rw [List.drop_eq_getElem_cons hlt]
      congr 1
      rw [List.getElem?_eq_getElem hlt] at hd
      exact Option.some.inj hd
    rw [ed] at z'
    have s2 := s'.gr g2
    have r3 := r'.ex g2.b
    refine vg.run B1 F' ρ' σ' B2 H'' x d _ _ s2 r2 (vg.mn d ρ' _ _ _ _ (fun ρ2 z2 σ2 s3 => ?_) (fun _ z => z) z')
    refine vb.run B1 F' ρ2 σ2 B2 H'' _ us' ys' s3 r3 (vb.mn ys' ρ2 _ _ _ _ (fun f z3 => ?_) (fun x z τ c o B' H' g r => z τ c o B' H' (bg _ _ g) r) z2)
    obtain ⟨ys3, f⟩ := f
    cases f with
    | nx ρ3 => exact fun us5 σ5 B5 H5 s5 r5 => ⟨ρ3, B5, ys3, s5, r5, z3⟩
    | ct ρ3 => exact fun us5 σ5 B5 H5 s5 r5 => ⟨ρ3, B5, ys3, s5, r5, z3⟩
    | bk ρ3 => exact fun us5 σ5 B5 H5 s5 r5 => z3 us5 σ5 B5 H5 (back _ _ _ _ s5) r5
    | rt d3 => exact fun us5 v5 B5 H5 g5 r5 rd => z3 us5 v5 B5 H5 (bg _ _ g5) r5 rd
    | rs d3 S3 => exact z3.elim
  · rintro us' σ' H' ⟨ρ', B', ys', s', r', z'⟩
    rw [List.drop_length] at z'
    exact z' us' σ' B' H' (back _ _ _ _ s') r'
end
end Mv

namespace Mv
open PySem L2 PyProof.Rows GenW
def spY (Z : Kx) (n : Nat) (mf : List Dt → Wp (List Dt)) : SpG := fun vs H Q E => vs.length = n ∧ ∃ B ds, Ex B H ∧ RpAll Z B vs ds ∧ mf ds (fun ys => ∀ us B' H', Gr B H B' H' → RpAll Z B' us ys → Q us H') (PostX Z B H E)
def finY : GFl → Wp (List Dt)
  | (ys, .nx _) => .ret ys
  | (ys, .rt .non) => .ret ys
  | _ => .bad
def gnWp (n : Nat) (mb : List Dt → Env → Wp GFl) (ds : List Dt) : Wp (List Dt) := (mb [] (ds.map Sl.fz ++ List.replicate (n - ds.length) .no)).bind finY
section
variable {P : Program} {w : World} {K : PySem.W.Frag} {mg : Str → Option Value} {base : Heap} {k : Nat} {f : Addr} {fd : FuncData} {N ps : List Str} {x qual : Str} {params : Arguments} {body : List Stmt} {scope : Scope} {dvs : List V} {kws : List (Str × V)}
theorem fn_y {mb : List Dt → Env → Wp GFl} {mf : List Dt → Wp (List Dt)} (F : FunD K x qual params body scope dvs kws f fd) (S : GScope N ps scope)
    (hle : ∀ ds : List Dt, ds.length = ps.length → ∀ Q E, mf ds Q E → gnWp N.length mb ds Q E)
    (hb : ∀ (cdv : Value) (A : Around) (out : List PySem.Env) (s : Shared) (H : Hp) (E : XK) (pn : List (Addr × Obj)), Room k (A.deeper (envOfC qual scope s.heap.objs.size f cdv)) → MYs (gcxOf P w K mg base N qual scope f cdv A out s H E pn) (fun _ => E) body mb) :
    GFn P w K mg base (k + 1) f fd ps (spY ⟨K, P, w⟩ ps.length mf) := by
  obtain ⟨oc, od, dV, kV, doc, pm, an, cdv, ct, osl, rfl, look, hcd, _, _⟩ := F.ex
  refine gfn_of look hcd S (fun vs H Q E h => h.1) fun A out s H vs Q E pn hr h => ?_
  obtain ⟨hl, B, ds, hB, r, q⟩ := h
  obtain ⟨t, pt, v⟩ := hb cdv A out s H E pn hr
  refine ⟨t, pt, ?_⟩
  have hd : ds.length = ps.length := by rw [← r.len]; exact hl
  have st := (SR.start hB r).more (N.length - ds.length)
  have e : L2.start N vs = vs.map some ++ List.replicate (N.length - ds.length) none := by unfold L2.start; rw [r.len]
  rw [e]
  refine v.run B H _ _ B H _ [] [] st .nil (v.mn _ _ _ _ _ _ (fun fl z => ?_) (fun _ z _ => z) (hle ds hd _ _ q))
  obtain ⟨ys, fl⟩ := fl
  cases fl with
  | nx ρ' => exact fun us σ' B' H' s' r' => z us B' H' s'.fin r'
  | rt d =>
    cases d with
    | non => exact fun us u B' H' g r' rd => ⟨by cases rd; rfl, z us B' H' g r'⟩
    | _ => exact z.elim
  | bk _ => exact z.elim
  | ct _ => exact z.elim
  | rs _ _ => exact z.elim
end
def OwnY (P : Program) (w : World) (K : PySem.W.Frag) (mg : Str → Option Value) (base : Heap) (k : Nat) (x : Str) (n : Nat) (m : List Dt → Wp (List Dt)) : Prop :=
  (∀ ds, Mn (m ds)) ∧ ∃ f fd ps, GFn P w K mg base k f fd ps (spY ⟨K, P, w⟩ n m) ∧ mg x = some (.ref f) ∧ PySem.W.keepIn K (.ref f) = true ∧ Binds K fd ps []
section
variable {X : Cx} {E : XS} {k n : Nat} {x : Str} {e : Expr} {es : List Expr} {p p' pos pos' : Pos}
theorem cx_never {P : Program} {w : World} {outer : List PySem.Env} {H : Hp} {s s' : Shared} {e : Value} (h : L2.CX P w outer H s E0 e s') : False := by
  obtain ⟨a, B, H', cls, d, rfl, fl, _, _, _, _, _, hW⟩ := h
  exact hW
theorem mn_listY {m : List Dt → Wp (List Dt)} {ma : Env → Wp (List Dt)} (O : OwnY X.prog X.w X.K X.mg X.base k x n m) (hr : Room (k + 3) X.A) (hgl : Gl X "list") (hl : X.mg "list" = none) (ha : MAn X E (e :: es) n ma) (hg : Gl X x := by rfl) (hdb : (x == ("__debug__" : Str)) = false := by decide)
    (he : starEach (e :: es) X.env = (false, eval e X.env) :: starEach es X.env := by rfl) (hpl : (backTo pos' (starEach es X.env)).any (·.1) = false := by rfl)
    (he2 : starEach [Expr.Call (.Name x p') (e :: es) [] pos'] X.env = (false, eval (.Call (.Name x p') (e :: es) [] pos') X.env) :: starEach [] X.env := by rfl) :
    MN X E (.Call (.Name "list" p) [.Call (.Name x p') (e :: es) [] pos'] [] pos) (fun ρ => (ma ρ).bind fun ds => (Wp.calm (m ds)).bind fun ys => .ret (.l ys)) := by
  obtain ⟨hM, f, fd, ps, F, hm, hk, hb⟩ := O
  obtain ⟨⟨t, pa, va⟩, ln⟩ := ha
  refine ⟨_, pe_listG (E := E0) (pgen_call (dvs := []) (ds := []) F (hr.mono (by omega)) hg hm hk hb .nil pa hdb he hpl) (fun pins σ H s e s' I h => (cx_never h).elim) (fun _ _ _ h => h.elim) hr hgl hl (by decide +kernel) (by decide) (by decide) he2, fun ρ => mn_bind (va.mn ρ) fun ds => mn_bind (mn_calm (hM ds)) fun _ => mn_ret, fun B0 F ρ σ B H Q s q => ?_⟩
  refine va.run B0 F ρ σ B H _ s (va.mn ρ _ _ _ _ (fun ds z vs B1 H1 g r => ?_) (fun _ z => z) (ln.len ρ _ _ q))
  refine ⟨by rw [List.append_nil, r.len]; exact z.1, B1, ds, g.bh, by rw [List.append_nil]; exact r, hM ds _ _ _ _ (fun ys z us B' H' g' r' p hp => ?_) (fun _ z => z.elim) z.2⟩
  exact z p B' _ ((g.trans g').trans (Gr.tmp g'.bh hp)) ((g.trans g').no s.bh hp) (.l upd_same r' (g'.bh.no hp))
end
section
variable {X : Cx} {E : XS} {e : Expr} {pos apos cpos : Pos}
theorem list_extT (l : Addr) (items : Array Value) (n : Nat) (b : Addr) (items2 : Array Value) (n2 : Nat) (d : Option Addr) (sl : Array (Option Value)) (hs0 : ¬(!items.isEmpty && Builtin.List.listTooLong (items.size + items2.size)) = true) (hs1 : items.size ≤ sizeLine) (hs2 : items.size + items2.size ≤ sizeLine + 1) :
    Meets (Builtin.«list.extend» ⟨[.ref l, .ref b], []⟩) (fun _ R s => s.heap.get? l = some (lstObj items n) ∧ s.heap.get? b = some ⟨.type "tuple", d, .seq items2 n2, sl⟩ ∧ R (.ok (.ret Value.none)) { s with heap := s.heap.update l (Obj.mapSeq fun x => x ++ items2) }) :=
  .of_wp fun prog w A R s h => by
    obtain ⟨hp, g, d, tk, os⟩ := s
    obtain ⟨hl, hb, h⟩ := h
    have f1 := AutoSeq1.idx_int
    have f2 := AutoSeq1.sub_tuple_tuple
    have f3 := AutoSeq1.sub_list_list
    have f4 := AutoSeq1.sub_tuple_list
    have f5 := AutoSeq1.sub_list_tuple
    have hz' : (items ++ items2).size ≤ sizeLine + 1 := by rw [Array.size_append]; exact hs2
    wp_walk using (wpAny_updateSeq hl rfl (hz := hs1) (_hz' := hz')), AutoSeq1.wpAny_loadPart' hl, AutoSeq1.wpAny_loadPart' hb
    exact ⟨_, rfl, h⟩
def rExtT (K : PySem.W.Frag) : V → List V → Hp → VK → Prop := fun x vs H Q => ∃ l b xs zs, x = .ref l ∧ vs = [.ref b] ∧ H l = some (.lst xs) ∧ SqT K H b zs ∧ xs.length + zs.length ≤ sizeLine ∧ Q .non (upd H l (.lst (xs ++ zs)))
theorem mt_extT : MtM X "list.extend" (rExtT X.K) := by
  intro pins s σ H x vs v us Q I rx rv h
  obtain ⟨l, b, xs, zs, rfl, rfl, hH, hB, hz, q⟩ := h
  cases rx
  obtain ⟨u, rfl, ru⟩ := rv.one
  cases ru
  obtain ⟨z, its, n, r, hl, e⟩ := I.lstM hH
  obtain ⟨its2, r2, ⟨ot, e2, c2, n2, d2⟩, hz2⟩ := I.tuple hB
  have hl2 := r2.length
  obtain ⟨oc, od, odt, osl⟩ := ot
  dsimp only at c2 d2
  subst c2
  subst d2
  have hsz : its.toArray.size + its2.toArray.size ≤ sizeLine := by simp only [List.size_toArray]; omega
  have hlong : ¬ (!its.toArray.isEmpty && Builtin.List.listTooLong (its.toArray.size + its2.toArray.size)) = true := by
    rw [notLongL hsz, Bool.and_false]; simp
  refine call_meets F.slot_list_extend ⟨_, e, rfl⟩ F.entry_list_extend (F.args_list_extend_2 _ _) (list_extT l its.toArray n b its2.toArray n2 od osl hlong (by simp only [List.size_toArray]; omega) (by omega)) ⟨e, e2, ?_⟩
  refine ⟨.non, _, I.lset (its' := its ++ its2) hH e (by simp) (r.append r2) ?_, rfl, q⟩
  simp only [List.length_append]; omega
def asT (d : Dt) : Wp (List Dt) := match d with
  | .tup xs => .ret xs
  | _ => .bad
theorem mn_asT (d : Dt) : Mn (asT d) := by cases d <;> first | exact mn_ret | exact mn_bad
theorem ms_extend (i : Nat) {x : Str} {xp : Pos} {m : Env → Wp Dt} (he : ME X E e m) (hN : X.N[i]? = some x := by rfl) (hv : Vis X.env.scope x := by first | exact Or.inl rfl | exact Or.inr (Or.inl rfl) | exact Or.inr (Or.inr rfl)) (hd : (x == ("__debug__" : Str)) = false := by decide) (hcd : (x == ("__classdict__" : Str)) = false := by decide)
    (hst : starEach (e :: []) X.env = (false, eval e X.env) :: starEach [] X.env := by rfl)
    (hbase : attributeBase (.Name x xp) "extend" X.env (eval (.Name x xp) X.env) = eval (.Name x xp) X.env := by rfl)
    (hfew : ((backTo cpos (starEach (e :: []) X.env)).all (fun x => !x.1) && (backToKw cpos (keywordEach [] X.env)).all (fun x => x.1.isSome)
      && decide ((e :: []).length + ([] : List Keyword).length + (if ([] : List Keyword).isEmpty then 0 else 1) < 30)) = true := by rfl)
    (hline : (apos.endLine == cpos.line) = true := by rfl)
    (hs : swapsWith (.Call (.Attribute (.Name x xp) "extend" apos) [e] [] cpos) none pos.line X.env = pure false := by rfl) :
    MS X E (.Expr (.Call (.Attribute (.Name x xp) "extend" apos) [e] [] cpos) pos) (fun ρ => (gL ρ i).bind fun xs => ((m ρ).bind asT).bind fun ds => .gd (xs.length + ds.length ≤ sizeLine) (.ret (.nx (ρ.set i (.ol (xs ++ ds)))))) := by
  obtain ⟨t, p, v⟩ := he
  refine ⟨_, ps_expr (pe_bm PySem.F.plainAttrs_list PySem.F.slot_list_extend PySem.F.type_list_extend mt_extT (pe_var hN hv hd hcd) (pa_cons p pa_nil hst) hbase hfew hline hst rfl) hs, fun ρ => mn_bind mn_gL fun _ => mn_bind (mn_bind (v.mn ρ) mn_asT) fun d => mn_gd mn_ret, fun B0 F ρ σ B H D s q => ?_⟩
  obtain ⟨xs, ei, q⟩ := gL_at q
  obtain ⟨a, vs, ea, ha, ra, nb⟩ := s.getL ei
  refine ⟨_, ea, .inl ⟨rfl, vs, .inl (.inl ha)⟩, v.run B0 F ρ σ B H _ s (v.mn ρ _ _ _ _ (fun d z u B1 H1 g r => ?_) (fun _ z => z.sr s) q)⟩
  have s1 := s.gr g
  obtain ⟨h1, n1⟩ := g.h a _ nb ha
  cases d with
  | tup ds =>
    cases r with
    | tup sq rt => exact ⟨a, _, vs, _, rfl, rfl, h1, g.bh.lg.sqt sq, by rw [ra.len, rt.len]; exact z.1, z.2 σ B1 _ (s1.mutL ei ea ((ra.ex g.b).app rt))⟩
  | _ => exact z.elim
end
end Mv

namespace Mv
open PySem L2 PyProof.Rows
mutual
def noD : Dt → Bool
  | .dct _ => false
  | .obj _ _ => false
  | .exc _ _ => false
  | .set _ => false
  | .scr _ => false
  | .drw => false
  | .ftp _ => false
  | .lst xs => noDs xs
  | .tup xs => noDs xs
  | _ => true
def noDs : List Dt → Bool
  | [] => true
  | x :: xs => noD x && noDs xs
end
section
variable {Z : Kx} {B : Hp} {a : Addr} {ob : Obj} {kvs : List (Key × V)}
end
section
variable {X : Cx} {Z : Kx} {E : XS} {e ke : Expr} {pos apos cpos : Pos} {B0 F B H : Hp} {ρ : Env} {σ : L2.St}
def delD (kvs : List (Key × Dt)) (k : Key) : List (Key × Dt) := kvs.filter fun kv => decide (kv.1 ≠ k)
theorem RpKv.del : ∀ {vs : List (Key × V)} {xs : List (Key × Dt)}, RpKv Z B vs xs → ∀ k : Key, RpKv Z B (dropK vs k) (delD xs k)
  | _, _, .nil, _ => .nil
  | _, _, .cons (k := j) a r, k => by
    by_cases e : j = k
    · simp only [dropK, delD, List.filter_cons, e, ne_eq, not_true_eq_false, decide_false, Bool.false_eq_true, if_false]
      exact r.del k
    · simp only [dropK, delD, List.filter_cons, e, ne_eq, not_false_eq_true, decide_true, if_true]
      exact .cons a (r.del k)
end
end Mv

namespace Mv
open PySem L2 PyProof.Rows
section
variable {X : Cx} {Z : Kx} {E : XS} {e ke k2 : Expr} {es : List Expr} {pos apos cpos : Pos} {B0 F B H : Hp} {ρ : Env} {σ : L2.St}
end
section
variable {gb : Bool} {P : Program} {w : World} {K : PySem.W.Frag} {mg : Str → Option Value} {base : Heap} {k : Nat} {f : Addr} {fd : FuncData} {N ps : List Str} {x qual : Str} {params : Arguments} {body : List Stmt} {scope : Scope} {dvs : List V} {kws : List (Str × V)}
end
/-- arguments of which the last one is the owned dict in slot i -/
structure EvAO (Z : Kx) (E : XS) (i n : Nat) (ta : TA) (m : Env → Wp (List Dt)) : Prop where
  mn : ∀ ρ, Mn (m ρ)
  run : ∀ B0 F ρ σ B H (Q : List V → Hp → Prop) xs, SR Z B0 F ρ σ B H → ρ[i]? = some (.od xs) → m ρ (fun ds => ds.length = n → ∀ us a B' H', Gr B H B' H' → RpAll Z B' us ds → σ[i]? = some (some (.ref a)) → Q (us ++ [.ref a]) H') (PostX Z B H (E σ)) → ta σ H Q
section
variable {gb : Bool} {X : Cx} {E : XS} {i n k : Nat} {e : Expr} {es : List Expr} {x : Str} {p pos cpos : Pos}
end
end Mv

namespace Mv
open PySem L2 PyProof.Rows
mutual
def wkD : Dt → Dt
  | .lst xs => .lst (wkDs xs)
  | .tup xs => .tup (wkDs xs)
  | .ftp xs => .tup (wkDs xs)
  | d => d
def wkDs : List Dt → List Dt
  | [] => []
  | x :: xs => wkD x :: wkDs xs
end
section
variable {X : Cx} {Z : Kx} {E : XS} {e : Expr} {B H : Hp}
end
end Mv

namespace Mv
open PySem L2 PyProof.Rows
section
variable {prog : Program} {w : World} {A : Around} {E : Value → Shared → Prop}
end
section
variable {X : Cx} {Z : Kx} {B H : Hp}
end
end Mv

namespace Mv
open PySem L2 PyProof.Rows
section
variable {X : Cx} {E : XS} {o e : Expr} {apos cpos : Pos}
end
end Mv

namespace Mv
open PySem L2 PyProof.Rows
section
variable {prog : Program} {w : World} {K : Type} [DecidableEq K] {knd : KeyKind prog w K} {A : Around} {E : Value → Shared → Prop} {s : Shared}
end
end Mv

namespace Mv
open PySem L2 PyProof.Rows
section
variable {prog : Program} {w : World} {A : Around} {E : Value → Shared → Prop} {s : Shared}
end
section
variable {X : Cx} {E : XS} {e k v : Expr} {te tk tv : TE} {pos : Pos}
end
end Mv

namespace Mv
open PySem L2 PyProof.Rows PySem.W
section
variable {prog : Program} {w : World} {A : Around} {E : Value → Shared → Prop} {s : Shared} {T : String} {r d : Addr} {n : Nat} {P : Nat → Value → Prop} {OK : Heap → Prop}
end
section
variable {X : Cx} {Z : Kx} {B H : Hp}
end
end Mv

namespace Mv
open PySem L2 PyProof.Rows
section
variable {X : Cx} {Z : Kx} {E : XS} {k1 v1 k2 v2 : Expr} {es : List Expr} {pos : Pos}
end
end Mv

namespace Mv
open PySem L2 PyProof.Rows
section
variable {X : Cx} {x x2 n y : Str} {c1 c2 : Value} {i j kk : Nat} {body : List Stmt} {np np2 tpos pos pos' p1 p2 p3 : Pos} {tb : WX → TS} {Wout : WX}
end
section
variable {X : Cx} {x x2 n y : Str} {i j kk : Nat} {body : List Stmt} {np np2 tpos pos pos' p1 p2 p3 : Pos} {Wout : WX} {m : Env → Wp Fl}
end
end Mv

namespace Mv
open PySem L2 PyProof.Rows
section
variable {X : Cx} {x y : Str} {j kk : Nat} {body : List Stmt} {np pos pos' p1 p2 p3 : Pos} {Wout : WX} {m : Env → Wp Fl}
end
end Mv

namespace Mv
open PySem L2 PyProof.Rows
section
variable {X : Cx} {Z : Kx} {E : XS} {es : List Expr} {pos : Pos} {t : TA}
end
end Mv

namespace Mv
open PySem L2 PyProof.Rows
section
variable {X : Cx} {Z : Kx} {B H : Hp}
end
end Mv

namespace Mv
open PySem L2 PyProof.Rows
section
variable {X : Cx}
end
section
variable {X : Cx} {Z : Kx} {B H : Hp} {E : XS} {e : Expr} {pos p2 : Pos}
/-- an exact tuple that is read: where it lies -/
theorem Rq.ftp {v : V} {xs : List Dt} (e : Ex B H) (r : Rq Z B H v (.ftp xs)) : ∃ a o vs, v = .ref a ∧ B a = some (.frz o (.tup vs)) ∧ o.dict = none ∧ RpAll Z B vs xs ∧ SqT Z.K H a vs := by
  cases r with
  | fz r =>
    cases r with
    | ftp ha hd ra => exact ⟨_, _, _, rfl, ha, hd, ra, .inl (.inr ⟨_, e _ _ ha⟩)⟩
end
end Mv

namespace Mv
open PySem L2 PyProof.Rows
section
variable {X : Cx} {Z : Kx} {B H : Hp} {E : XS} {e : Expr} {pos p2 : Pos}
end
section
variable {X : Cx} {E : XS} {e : Expr} {pos p1 p2 p3 : Pos} {k : Nat}
end
end Mv

namespace Mv
open PySem L2 PyProof.Rows
def c_Chart_since (ds : List Dt) : Wp Dt := fun Q _ => ∃ L k, ds = [chartD L, .str k.nm] ∧ LayOk L ∧ k ∈ L ∧ Q (.int k.ed)
theorem mn_c_Chart_since (ds : List Dt) : Mn (c_Chart_since ds) := fun Q Q' E E' h _ ⟨L, k, a, b, c, q⟩ => ⟨L, k, a, b, c, h _ q⟩
def mb_Chart_since : Env → Wp Fl := fun ρ =>
    (Wp.bind (Wp.bind (Wp.bind (Wp.bind (gF ρ 0) (pyFld "Chart" "kinds")) fun x => Wp.bind (gR ρ 1) fun y => pyIx x y) fun x => Wp.bind (Wp.ret (Dt.int 1)) fun y => pyIx x y) fun d => .ret (Fl.rt d))
theorem le_Chart_since (ds : List Dt) (Q : Dt → Prop) (E : Xn → Prop) (h : c_Chart_since ds Q E) : fnWp 2 mb_Chart_since ds Q fun _ => False := by
  obtain ⟨L, k, rfl, hL, hk, h⟩ := h
  simp only [fnWp_def, mb_Chart_since, List.map_cons, List.map_nil, List.replicate, List.length_cons, List.length_nil, Nat.reduceSub, Nat.reduceAdd, List.cons_append, List.nil_append, EV, ch_kinds, look_kinds hL.nodup hk]
  exact h
end Mv


namespace Mv
open PySem L2 PyProof.Rows
section
variable {X : Cx} {E : XS} {o e : Expr} {apos pos : Pos}
end
section
variable {Z : Kx} {B : Hp}
end
end Mv

namespace Mv
open PySem L2 PyProof.Rows
section
variable {X : Cx} {E : XS} {e ke : Expr} {pos apos cpos p1 p2 p3 : Pos} {k : Nat}
theorem RpAll.erase {Z : Kx} {B : Hp} : ∀ {vs : List V} {xs : List Dt}, RpAll Z B vs xs → ∀ j : Nat, RpAll Z B (vs.eraseIdx j) (xs.eraseIdx j)
  | _, _, .nil, j => by simpa using RpAll.nil
  | _, _, .cons a r, 0 => by simpa using r
  | _, _, .cons a r, j + 1 => by simpa using RpAll.cons a (r.erase j)
end
end Mv


namespace Mv
open PySem L2 PyProof.Rows
section
variable {Z : Kx} {B0 F B H B' H' : Hp} {ρ : Env} {σ : L2.St}
/-- what changes of the heap: the frozen part grows, the store becomes S', all else is kept -/
structure GrS (Z : Kx) (B H : Hp) (S : Sto) (B' H' : Hp) (S' : Sto) : Prop where
  b : Ex B B'
  bh : Ex B' H'
  h : ∀ a o, B a = none → a ∉ S.map (·.1) → H a = some o → H' a = some o ∧ B' a = none
  ok : StoOk Z B' H' S'
  nd : (S'.map (·.1)).Nodup
  nb : ∀ a ∈ S'.map (·.1), B' a = none
  old : ∀ a ∈ S'.map (·.1), a ∈ S.map (·.1) ∨ H a = none
theorem SR.getS (s : SR Z B0 F ρ σ B H) {g : Nat} {S : Sto} (e : ρ[g]? = some (.sto S)) : StoOk Z B H S ∧ (S.map (·.1)).Nodup ∧ ∀ a ∈ S.map (·.1), B a = none ∧ F a = none := by
  obtain ⟨o, m, h1, h2, h3, h4, _⟩ := s.mutG (Gr.refl s.bh) e
  cases h2 with
  | sto k => exact ⟨k, h3, fun a ha => ⟨(h4 a ha).1, (h4 a ha).2.1⟩⟩
theorem SR.goS (s : SR Z B0 F ρ σ B H) {g : Nat} {S S' : Sto} (e : ρ[g]? = some (.sto S)) (k : GrS Z B H S B' H' S') : SR Z B0 F (ρ.set g (.sto S')) σ B' H' := by
  obtain ⟨o, m, h1, h2, h3, h4, h5⟩ := s.mutG (Gr.refl s.bh) e
  cases h2 with
  | sto _ =>
    refine h5 (.sto S') (S'.map (·.1)) B' H' k.b (fun c hc hn => ?_) k.bh (.sto k.ok) k.nd fun a ha => ⟨k.old a ha, k.nb a ha⟩
    obtain ⟨o, ho⟩ := Option.ne_none_iff_exists'.mp hn
    cases q : B c with
    | none =>
      obtain ⟨z1, z2⟩ := k.h c o q hc ho
      exact ⟨by rw [z1, ho], z2⟩
    | some u =>
      have := s.bh c u q
      rw [ho] at this; cases this
      exact ⟨by rw [k.bh c _ (k.b c _ q), ho], k.b c _ q⟩
theorem GrS.refl (e : Ex B H) {S : Sto} (ok : StoOk Z B H S) (nd : (S.map (·.1)).Nodup) (nb : ∀ a ∈ S.map (·.1), B a = none) : GrS Z B H S B H S := ⟨.refl _, e, fun a o n _ h => ⟨h, n⟩, ok, nd, nb, fun a h => .inl h⟩
/-- ahead of it the heap has grown -/
theorem GrS.after {B1 H1 : Hp} {S S' : Sto} (g : Gr B H B1 H1) (e : Ex B H) (nb : ∀ a ∈ S.map (·.1), B a = none) (k : GrS Z B1 H1 S B' H' S') : GrS Z B H S B' H' S' := by
  refine ⟨g.b.trans k.b, k.bh, fun a o n na h => ?_, k.ok, k.nd, k.nb, fun a ha => ?_⟩
  · obtain ⟨h1, n1⟩ := g.h a o n h
    exact k.h a o n1 na h1
  · rcases k.old a ha with z | z
    · exact .inl z
    · exact .inr (g.no e z)
def gS (ρ : Env) (g : Nat) : Wp Sto := match ρ[g]? with
  | some (.sto S) => fun Q _ => (S.map (·.1)).Nodup → Q S
  | _ => .bad
theorem SR.gS (s : SR Z B0 F ρ σ B H) {g : Nat} {Q : Sto → Prop} {E : Xn → Prop} (q : gS ρ g Q E) : ∃ S, ρ[g]? = some (.sto S) ∧ StoOk Z B H S ∧ (S.map (·.1)).Nodup ∧ (∀ a ∈ S.map (·.1), B a = none ∧ F a = none) ∧ Q S := by
  unfold Mv.gS at q
  cases e : ρ[g]? with
  | none => rw [e] at q; exact q.elim
  | some x =>
    rw [e] at q
    cases x with
    | sto S =>
      obtain ⟨h1, h2, h3⟩ := s.getS e
      exact ⟨S, rfl, h1, h2, h3, q h2⟩
    | _ => exact q.elim
def outH (H : Hp) (S : Sto) : Hp := fun a => if a ∈ S.map (·.1) then none else H a
theorem outH_out {S : Sto} {a : Addr} (h : a ∉ S.map (·.1)) : outH H S a = H a := if_neg h
theorem SlAll.app {ρ2 : Env} {σ2 : L2.St} {f2 : List Addr} : ∀ {ρ : Env} {σ : L2.St} {f : List Addr}, SlAll Z B H ρ σ f → SlAll Z B H ρ2 σ2 f2 → SlAll Z B H (ρ ++ ρ2) (σ ++ σ2) (f ++ f2)
  | _, _, _, .nil, k => k
  | _, _, _, .cons a r, k => by simpa [List.append_assoc] using SlAll.cons a (r.app k)
theorem GrF.toS {S S' : Sto} (k : GrF Z B (outH H S) B' H' S') : GrS Z B H S B' H' S' := by
  refine ⟨k.ex, k.bh, fun a o n na h => k.fr a o n (by rw [outH_out na]; exact h), k.ok, k.nd, fun a ha => (k.out a ha).1, fun a ha => ?_⟩
  by_cases h : a ∈ S.map (·.1)
  · exact .inl h
  · have := (k.out a ha).2
    rw [outH_out h] at this
    exact .inr this
end
section
variable {gb : Bool} {P : Program} {w : World} {K : PySem.W.Frag} {mg : Str → Option Value} {base : Heap} {k : Nat} {f : Addr} {fd : FuncData} {N ps : List Str} {x qual : Str} {params : Arguments} {body : List Stmt} {scope : Scope} {dvs : List V} {kws : List (Str × V)}
end
end Mv

namespace Mv
open PySem L2 PyProof.Rows
def lookS (S : Sto) (a : Addr) : Option Cd := (S.find? fun p => decide (p.1 = a)).map (·.2)
theorem lookS_mem {S : Sto} {a : Addr} {c : Cd} (h : lookS S a = some c) : (a, c) ∈ S := by
  unfold lookS at h
  obtain ⟨p, h1, h2⟩ := Option.map_eq_some_iff.mp h
  have m := List.mem_of_find?_eq_some h1
  have e := List.find?_some h1
  have e : p.1 = a := by simpa using e
  obtain ⟨b, d⟩ := p
  cases e; cases h2; exact m
structure Ev2 (Z : Kx) (E : XS) (te : TE) (m : Env → Wp (Dt × Env)) : Prop where
  mn : ∀ ρ, Mn (m ρ)
  run : ∀ B0 F ρ σ B H (Q : VK), SR Z B0 F ρ σ B H → m ρ (fun r => ∀ v B' H', SR Z B0 F r.2 σ B' H' → Ex B B' → Rp Z B' v r.1 → Q v H') (PostX Z B H (E σ)) → te σ H Q
structure EvT2 (Z : Kx) (E : XS) (tt : TT) (m : Env → Wp (Bool × Env)) : Prop where
  mn : ∀ ρ, Mn (m ρ)
  run : ∀ B0 F ρ σ B H (Q : Bool → Hp → Prop), SR Z B0 F ρ σ B H → m ρ (fun r => ∀ B' H', SR Z B0 F r.2 σ B' H' → Ex B B' → Q r.1 H') (PostX Z B H (E σ)) → tt σ H Q
def ME2 (X : Cx) (E : XS) (e : Expr) (m : Env → Wp (Dt × Env)) : Prop := ∃ te, PE X e te ∧ Ev2 (kx X) E te m
def MT2 (X : Cx) (E : XS) (e : Expr) (m : Env → Wp (Bool × Env)) : Prop := ∃ tt, PT X e tt ∧ EvT2 (kx X) E tt m
def MW2 (X : Cx) (E : XS) (e : Expr) (m : Env → Wp (Bool × Env)) : Prop := ∃ tt, PW X e tt ∧ EvT2 (kx X) E tt m
def up {α : Type} (ρ : Env) (m : Wp α) : Wp (α × Env) := m.bind fun d => .ret (d, ρ)
section
variable {gb : Bool} {CX : CXT} {X : Cx} {Z : Kx} {E : XS} {e o a b : Expr} {es rest : List Expr} {pos p apos cpos : Pos} {B0 F B H : Hp} {ρ : Env} {σ : L2.St} {g k n : Nat} {x m : Str}
theorem ME.two {me : Env → Wp Dt} (h : ME X E e me) : ME2 X E e (fun ρ => up ρ (me ρ)) :=
  let ⟨t, p, v⟩ := h
  ⟨t, p, fun ρ => mn_bind (v.mn ρ) fun _ => mn_ret, fun B0 F ρ σ B H Q s q => v.run B0 F ρ σ B H Q s (v.mn ρ _ _ _ _ (fun d z u B' H' g r => z u B' H' (s.gr g) g.b r) (fun _ z => z) q)⟩
theorem MT.two {me : Env → Wp Bool} (h : MT X E e me) : MT2 X E e (fun ρ => up ρ (me ρ)) :=
  let ⟨t, p, v⟩ := h
  ⟨t, p, fun ρ => mn_bind (v.mn ρ) fun _ => mn_ret, fun B0 F ρ σ B H Q s q => v.run B0 F ρ σ B H Q s (v.mn ρ _ _ _ _ (fun d z B' H' g => z B' H' (s.gr g) g.b) (fun _ z => z) q)⟩
theorem MW.two {me : Env → Wp Bool} (h : MW X E e me) : MW2 X E e (fun ρ => up ρ (me ρ)) :=
  let ⟨t, p, v⟩ := h
  ⟨t, p, fun ρ => mn_bind (v.mn ρ) fun _ => mn_ret, fun B0 F ρ σ B H Q s q => v.run B0 F ρ σ B H Q s (v.mn ρ _ _ _ _ (fun d z B' H' g => z B' H' (s.gr g) g.b) (fun _ z => z) q)⟩
end
end Mv

namespace Mv
open PySem L2 PyProof.Rows
section
variable {gb : Bool} {CX : CXT} {X : Cx} {Z : Kx} {E : XS} {e o a b : Expr} {es rest : List Expr} {pos p p' apos cpos : Pos} {B0 F B H : Hp} {ρ : Env} {σ : L2.St} {g k n : Nat} {c x m f : Str}
theorem GrS.made {B' H' : Hp} {S S' : Sto} {x dx : Addr} {C : Addr} {cd : Cd} (hx : H x = none) (hdx : H dx = none) (k : GrS Z B (upd (upd H dx (.own x)) x (.ins C dx [])) ((x, cd) :: S) B' H' S') : GrS Z B H S B' H' S' := by
  refine ⟨k.b, k.bh, fun a o n na h => ?_, k.ok, k.nd, k.nb, fun a ha => ?_⟩
  · have n1 := ne_of_none h hx
    have n2 := ne_of_none h hdx
    refine k.h a o n (fun z => ?_) (by rw [upd_ne n1, upd_ne n2]; exact h)
    rcases List.mem_cons.mp (show a ∈ x :: S.map (·.1) from z) with z | z
    · exact n1 z
    · exact na z
  · rcases k.old a ha with z | z
    · rcases List.mem_cons.mp (show a ∈ x :: S.map (·.1) from z) with z | z
      · right
        rw [z]; exact hx
      · exact .inl z
    · right
      cases q : H a with
      | none => rfl
      | some o => rw [upd_ne (ne_of_none q hx), upd_ne (ne_of_none q hdx), q] at z; cases z
/-- something new is kept in the store -/
def Nw.cd : Nw → Cd
  | .l xs => .l xs
  | .d kvs => .d kvs
def keepS (g : Nat) (ρ : Env) (n : Nw) : Wp (Dt × Env) := (gS ρ g).bind fun S => fun Q _ => ∀ x, x ∉ S.map (·.1) → Q (.adr x, ρ.set g (.sto ((x, n.cd) :: S)))
end
section
variable {X : Cx} {Z : Kx} {E : XS} {e : Expr} {st : Stmt} {pos pos' p p' apos cpos sp : Pos} {B0 F B H : Hp} {ρ : Env} {σ : L2.St} {g : Nat} {x f : Str}
end
end Mv

namespace Mv
open PySem L2 PyProof.Rows
def stoS (S : Sto) (a : Addr) (c : Cd) : Sto := S.map fun p => if p.1 = a then (a, c) else p
theorem stoS_fst (S : Sto) (a : Addr) (c : Cd) : (stoS S a c).map (·.1) = S.map (·.1) := by
  unfold stoS
  rw [List.map_map]
  refine List.map_congr_left fun p _ => ?_
  simp only [Function.comp]
  split <;> simp_all
section
variable {Z : Kx} {B0 F B H B' H' : Hp} {ρ : Env} {σ : L2.St}
theorem stoS_ok {S : Sto} {a : Addr} {o : HO} {c : Cd} (ok : StoOk Z B H S) (k : CdOk Z B o c) : StoOk Z B (upd H a o) (stoS S a c) := fun p hp => by
  obtain ⟨q, hq, rfl⟩ := List.mem_map.mp hp
  by_cases e : q.1 = a
  · rw [if_pos e]; exact ⟨o, upd_same, k⟩
  · rw [if_neg e]
    obtain ⟨o', h1, h2⟩ := ok q hq
    exact ⟨o', by rw [upd_ne e]; exact h1, h2⟩
/-- a thing of the store changes -/
theorem SR.put (s : SR Z B0 F ρ σ B H) {g : Nat} {S : Sto} (e : ρ[g]? = some (.sto S)) {a : Addr} {o : HO} {c c0 : Cd} (h0 : lookS S a = some c0) (k : CdOk Z B o c) : SR Z B0 F (ρ.set g (.sto (stoS S a c))) σ B (upd H a o) := by
  obtain ⟨ok, nd, nb⟩ := s.getS e
  have ha : a ∈ S.map (·.1) := List.mem_map_of_mem (lookS_mem h0)
  refine s.goS e ⟨.refl _, s.bh.put (nb a ha).1, fun b u n hb h => ⟨?_, n⟩, stoS_ok ok k, by rw [stoS_fst]; exact nd, fun b hb => ?_, fun b hb => ?_⟩
  · have : b ≠ a := fun z => hb (z ▸ ha)
    rw [upd_ne this]; exact h
  · rw [stoS_fst] at hb; exact (nb b hb).1
  · rw [stoS_fst] at hb; exact .inl hb
theorem SR.cell (s : SR Z B0 F ρ σ B H) {g : Nat} {S : Sto} (e : ρ[g]? = some (.sto S)) {a : Addr} {c : Cd} (h : lookS S a = some c) : ∃ o, H a = some o ∧ CdOk Z B o c ∧ B a = none := by
  obtain ⟨ok, nd, nb⟩ := s.getS e
  obtain ⟨o, h1, h2⟩ := ok _ (lookS_mem h)
  exact ⟨o, h1, h2, (nb a (List.mem_map_of_mem (lookS_mem h))).1⟩
end
def putFd (f : Str) (d : Dt) : List (Str × Dt) → List (Str × Dt)
  | [] => [(f, d)]
  | (g, x) :: r => if g = f then (g, d) :: r else (g, x) :: putFd f d r
theorem RpFs.put {Z : Kx} {B : Hp} {f : Str} {v : V} {d : Dt} (q : Rp Z B v d) : ∀ {vs : List (Str × V)} {xs : List (Str × Dt)}, RpFs Z B vs xs → RpFs Z B (putF f v vs) (putFd f d xs)
  | _, _, .nil => .cons q .nil
  | _, _, .cons (k := j) a r => by
    unfold putF putFd
    by_cases e : j = f
    · rw [if_pos e, if_pos e]; exact .cons q r
    · rw [if_neg e, if_neg e]; exact .cons a (r.put q)
theorem RpFs.len {Z : Kx} {B : Hp} : ∀ {vs : List (Str × V)} {xs : List (Str × Dt)}, RpFs Z B vs xs → vs.length = xs.length
  | _, _, .nil => rfl
  | _, _, .cons _ r => by simp [r.len]
section
variable {X : Cx} {Z : Kx} {E : XS} {e o ke : Expr} {st : Stmt} {pos pos' p p' apos cpos sp : Pos} {B0 F B H : Hp} {ρ : Env} {σ : L2.St} {g : Nat} {x f : Str}
theorem RpAll.dropLast {Z : Kx} {B : Hp} {vs : List V} {xs : List Dt} (r : RpAll Z B vs xs) : RpAll Z B vs.dropLast xs.dropLast := by
  rw [List.dropLast_eq_take, List.dropLast_eq_take, r.len]
  exact r.take _
end
end Mv

namespace Mv
open PySem L2 PyProof.Rows
section
variable {Z : Kx} {B0 F B H B' H' : Hp} {ρ : Env} {σ : L2.St} {S : Sto}
end
mutual
def noC : Dt → Bool
  | .non => true
  | .bl _ => true
  | .int _ => true
  | .str _ => true
  | .glo _ => true
  | .ty _ => true
  | .adr _ => true
  | .tup xs => noCs xs
  | .ftp xs => noCs xs
  | _ => false
def noCs : List Dt → Bool
  | [] => true
  | x :: xs => noC x && noCs xs
end
def cutS (S : Sto) (B : Hp) : Hp := fun a => if a ∈ S.map (·.1) then none else B a
section
variable {Z : Kx} {B0 F B H B' H' : Hp} {ρ : Env} {σ : L2.St} {S : Sto}
end
section
variable {Z : Kx} {te : TE} {σ : L2.St}
end
section
variable {X : Cx} {Z : Kx} {E : XS} {e : Expr} {B0 F B H : Hp} {ρ : Env} {σ : L2.St} {S : Sto} {g : Nat}
/-- the state with the store taken out of it -/
theorem SR.out (s : SR Z B0 F ρ σ B H) (e : ρ[g]? = some (.sto S)) {B1 H1 : Hp} (e1 : Ex B B1) (e2 : Ex B1 H1) (off : ∀ a, a ∉ S.map (·.1) → H1 a = H a ∧ B1 a = B a) : ∃ F1, SR Z B1 F1 (ρ.set g .no) σ B1 H1 := by
  obtain ⟨fps, k, nd, hf⟩ := s.sl
  obtain ⟨o, l, m, r, h1, h2, h3, h4⟩ := k.at e
  subst h2
  cases h3 with
  | sto ok =>
    have es : σ.set g o = σ := by
      obtain ⟨hl, he⟩ := List.getElem?_eq_some_iff.mp h1
      rw [← he]; exact List.set_getElem_self hl
    have k1 := h4 .no o [] .no
    rw [es] at k1
    have nS : ∀ a ∈ l ++ [] ++ r, a ∉ S.map (·.1) := fun a ha hS => by
      simp only [List.append_assoc, List.nodup_append, List.mem_append, List.append_nil] at nd ha
      rcases ha with ha | ha
      · exact nd.2.2 a ha a (.inl hS) rfl
      · exact nd.2.1.2.2 a hS a ha rfl
    refine ⟨fun a => if a ∈ l ++ [] ++ r then none else H1 a, .refl _, e2, fun a u n h => ?_, _, k1.heap e1.lg fun a ha => (off a (nS a ha)).1, nd_cut nd, fun a ha => ⟨?_, if_pos ha⟩⟩
    · have h : (if a ∈ l ++ [] ++ r then none else H1 a) = some u := h
      split at h
      · cases h
      · exact ⟨h, n⟩
    · rw [(off a (nS a ha)).2]; exact (hf a (mem_cut ha)).1
end
end Mv

namespace Mv
open PySem L2 PyProof.Rows
structure MkO (K : PySem.W.Frag) (C : Addr) : Prop where
  makes : PySem.W.makesIn K C = true
  init : PySem.W.findIn K (.ref C) "__init__" = some (some (.builtin "object.__init__"))
  kp : PySem.W.keepIn K (.ref C) = true
section
variable {gb : Bool} {CX : CXT} {X : Cx} {Z : Kx} {E : XS} {e o a b : Expr} {es rest : List Expr} {pos p p' apos cpos : Pos} {B0 F B H : Hp} {ρ : Env} {σ : L2.St} {g k n : Nat} {c x m f : Str}
end
structure EvU (Z : Kx) (E : XS) (ts : TS) (m : Env → Wp Fl) : Prop where
  mn : ∀ ρ, Mn (m ρ)
  run : ∀ B0 F ρ σ B H (D : Ends), SR Z B0 F ρ σ B H → m ρ (PostS Z B0 F D) (fun x => ∀ σ, PostX Z B H (E σ) x) → ts D σ H
section
variable {X : Cx} {Z : Kx} {E : XS} {e : Expr} {es : List Expr} {st : Stmt} {sts : List Stmt} {pos pos2 p p' : Pos} {B0 F B H : Hp} {ρ : Env} {σ : L2.St} {x f : Str} {W : WX}
end
section
variable {gb : Bool} {P : Program} {w : World} {K : PySem.W.Frag} {mg : Str → Option Value} {base : Heap} {k : Nat} {f : Addr} {fd : FuncData} {N ps : List Str} {x qual : Str} {params : Arguments} {body : List Stmt} {scope : Scope} {dvs : List V} {kws : List (Str × V)}
end
section
variable {gb : Bool} {CX : CXT} {X : Cx} {Z : Kx} {E : XS} {e o : Expr} {es : List Expr} {pos apos : Pos} {g k n j : Nat} {c m : Str}
end
end Mv

namespace Mv
open PySem L2 PyProof.Rows
section
variable {X : Cx} {W : WX} {e : Expr} {pos pos' : Pos} {B0 F B H : Hp} {ρ : Env} {σ : L2.St} {x : Str}
end
section
variable {gb : Bool} {P : Program} {w : World} {K : PySem.W.Frag} {mg : Str → Option Value} {base : Heap} {k : Nat} {f : Addr} {fd : FuncData} {N ps : List Str} {x qual : Str} {params : Arguments} {body : List Stmt} {scope : Scope} {dvs : List V} {kws : List (Str × V)}
end
section
variable {gb : Bool} {X : Cx} {Z : Kx} {E : XS} {o : Expr} {pos : Pos} {k : Nat} {f : Str}
end
end Mv

namespace Mv
open PySem L2 PyProof.Rows
def gtK (n : List Dt → Env → Wp GFl) (Q : GFl → Prop) (E : Xn → Prop) : GFl → Prop
  | (ys, .nx ρ) => n ys ρ Q E
  | (ys, .rt d) => Q (ys, .rt d)
  | (ys, .bk ρ) => Q (ys, .bk ρ)
  | (ys, .ct ρ) => Q (ys, .ct ρ)
  | (ys, .rs d S) => False
theorem k_gThen (m : Wp GFl) (n : List Dt → Env → Wp GFl) (Q : GFl → Prop) (E : Xn → Prop) : gThen m n Q E = m (gtK n Q E) E := by
  show m _ E = _
  congr 1
  funext x
  obtain ⟨ys, f⟩ := x
  cases f <;> rfl
theorem k_gtnx (n : List Dt → Env → Wp GFl) (Q : GFl → Prop) (E : Xn → Prop) (ys : List Dt) (ρ : Env) : gtK n Q E (ys, .nx ρ) = n ys ρ Q E := rfl
theorem k_gPl (ys : List Dt) (m : Wp Fl) (Q : GFl → Prop) (E : Xn → Prop) : gPl ys m Q E = m (fun f => Q (ys, f)) E := rfl
theorem k_gYl (ys : List Dt) (ρ : Env) (m : Wp Dt) (Q : GFl → Prop) (E : Xn → Prop) : gYl ys ρ m Q E = (ys.length < sizeLine ∧ m (fun d => Q (ys ++ [d], .nx ρ)) E) := rfl
theorem k_gIf (c : Wp Bool) (a b : Wp GFl) (Q : GFl → Prop) (E : Xn → Prop) : gIf c a b Q E = c (fun k => if k = true then a Q E else b Q E) E := by
  show c _ E = _
  congr 1
  funext k
  cases k <;> simp
def lgK (K : List Dt → Env → Prop) (Q : GFl → Prop) : GFl → Prop
  | (ys, .nx ρ) => K ys ρ
  | (ys, .ct ρ) => K ys ρ
  | (ys, .bk ρ) => Q (ys, .nx ρ)
  | (ys, .rt d) => Q (ys, .rt d)
  | (ys, .rs d S) => False
theorem k_lgnx (K : List Dt → Env → Prop) (Q : GFl → Prop) (ys : List Dt) (ρ : Env) : lgK K Q (ys, .nx ρ) = K ys ρ := rfl
theorem k_gfor {α : Type} {body : Dt → List Dt → Env → Wp GFl} {Q : GFl → Prop} {E : Xn → Prop} (d : α → Dt) (I : List α → List Dt → Env → Prop) {l : List α} {ys : List Dt} {ρ : Env} (start : I [] ys ρ)
    (step : ∀ pre a rest ys ρ (K : List Dt → Env → Prop), l = pre ++ a :: rest → I pre ys ρ → (∀ ys' ρ', I (pre ++ [a]) ys' ρ' → K ys' ρ') → body (d a) ys ρ (lgK K Q) E) (fin : ∀ ys ρ, I l ys ρ → Q (ys, .nx ρ)) : gforL body (l.map d) ys ρ Q E := by
  have gen : ∀ (rest pre : List α) (ys : List Dt) (ρ : Env), l = pre ++ rest → I pre ys ρ → gforL body (rest.map d) ys ρ Q E := by
    intro rest
    induction rest with
    | nil =>
      intro pre ys ρ e h
      rw [List.append_nil] at e
      subst e
      exact fin ys ρ h
    | cons a rest ih =>
      intro pre ys ρ e h
      have := step pre a rest ys ρ (fun ys' ρ' => gforL body (rest.map d) ys' ρ' Q E) e h (fun ys' ρ' h' => ih (pre ++ [a]) ys' ρ' (by rw [e]; simp) h')
      show body (d a) ys ρ _ E
      refine cast ?_ this
      congr 1
      funext f
      obtain ⟨y, f⟩ := f
      cases f <;> rfl
  exact gen l [] ys ρ rfl start
theorem gnWp_def (n : Nat) (mb : List Dt → Env → Wp GFl) (ds : List Dt) : gnWp n mb ds = (mb [] (ds.map Sl.fz ++ List.replicate (n - ds.length) .no)).bind finY := rfl
theorem k_finY (ys : List Dt) (ρ : Env) (Q : List Dt → Prop) (E : Xn → Prop) : finY (ys, .nx ρ) Q E = Q ys := rfl
def GV := And.intro @k_gThen (And.intro @k_gtnx (And.intro @k_gPl (And.intro @k_gYl (And.intro @k_gIf (And.intro @k_lgnx @k_finY)))))
theorem k_lisTs (l : List PySem.Str) (Q : Nw → Prop) (E : Xn → Prop) : pyListX [strT l] Q E = Q (.l (l.map Dt.str)) := rfl
theorem k_asT (l : List PySem.Str) (Q : List Dt → Prop) (E : Xn → Prop) : asT (strT l) Q E = Q (l.map Dt.str) := rfl
def wantL (L : List Kd) (k : Kd) (pre : List PySem.Str) : List PySem.Str := under L k.nm ++ pre.flatMap fun b => (L.filter fun j => decide (j.nm = b)).flatMap (watchedL L)
theorem mem_want {L : List Kd} {k o : Kd} : o.nm ∈ wantL L k (under L k.nm) ↔ mustB L k o = true := by
  simp only [wantL, mustB, List.mem_append, List.mem_flatMap, List.mem_filter, decide_eq_true_eq, Bool.or_eq_true, List.any_eq_true, Bool.and_eq_true]
  constructor
  · rintro (h | ⟨b, hb, j, ⟨hj, rfl⟩, h⟩)
    · exact .inl h
    · exact .inr ⟨j, hj, hb, h⟩
  · rintro (h | ⟨j, hj, hb, h⟩)
    · exact .inl h
    · exact .inr ⟨j.nm, hb, j, ⟨hj, rfl⟩, h⟩
theorem one_nm {L : List Kd} (nd : (L.map Kd.nm).Nodup) {k : Kd} (hk : k ∈ L) : (L.filter fun j => decide (j.nm = k.nm)) = [k] := by
  obtain ⟨a, b, rfl⟩ := List.append_of_mem hk
  simp only [List.map_append, List.map_cons, List.nodup_append, List.nodup_cons, List.mem_cons, List.mem_map] at nd
  have h1 : a.filter (fun j => decide (j.nm = k.nm)) = [] := by
    rw [List.filter_eq_nil_iff]
    intro j hj
    simp only [decide_eq_true_eq]
    intro e
    exact nd.2.2 _ ⟨j, hj, rfl⟩ _ (.inl rfl) e
  have h2 : b.filter (fun j => decide (j.nm = k.nm)) = [] := by
    rw [List.filter_eq_nil_iff]
    intro j hj
    simp only [decide_eq_true_eq]
    intro e
    exact nd.2.1.1 ⟨j, hj, e⟩
  rw [List.filter_append, List.filter_cons, h1, h2]
  simp
theorem watch_len {L : List Kd} (k : Kd) : (watchedL L k).length ≤ L.length := by
  rw [watchedL, List.length_map]; exact List.length_filter_le _ _
end Mv


namespace Mv
open PySem L2 PyProof.Rows GenW
/-- where it went on last: the state cut to what was there when it was made, the frozen part, what is tracked, its own objects -/
structure Ix where
  s : Shared
  B : Hp
  H : Hp
  O : List Addr
def Ix.F (i : Ix) : Hp := fun a => if a ∈ i.O then none else i.H a
/-- the game: the context, what is wanted of exceptions, the objects at the making, all that will come out, the consumer's whole invariant at a wake -/
structure Gm where
  X : Cx
  xe : Ix → Value → Shared → Prop
  n0 : Nat
  YS : List Dt
  Cn : List Dt → Ix → Shared → Prop
def Gm.at (Z : Gm) (i : Ix) : Cx := { Z.X with s_0 := i.s, H_0 := i.H, xe := Z.xe i }
def Gm.Vd (Z : Gm) (ys : List Dt) (i : Ix) (s0 : Shared) : Prop := i.s.heap.objs.size = Z.n0 ∧ Z.Cn ys i s0
def Gm.GA (Z : Gm) (i : Ix) (ip : List (Addr × Obj)) (ρ : Mv.Env) (σ : L2.St) (B H : Hp) (s : Shared) : Prop := Inv (Z.at i) ip σ H s ∧ SR (kx Z.X) i.B i.F ρ σ B H
def Gm.Y (Z : Gm) : Protocol := fun n s0 v s kap => ∃ (i : Ix) (ip : List (Addr × Obj)) (ρ : Mv.Env) (σ : L2.St) (B H : Hp) (ys : List Dt) (x : V) (d : Dt),
  Z.Vd ys i s0 ∧ n + 1 + ys.length = sizeLine ∧ RelV x v ∧ Rp (kx Z.X) B x d ∧ (ys ++ [d]) <+: Z.YS ∧ Z.GA i ip ρ σ B H s ∧
  ∀ i' s', Z.Vd (ys ++ [d]) i' s' → Ex B i'.B → Z.GA i' ip ρ σ i'.B i'.H s' → kap (.send .none) s'
def Gm.P (Z : Gm) (ip : List (Addr × Obj)) (Bl : Hp) (i : Ix) (ys : List Dt) (Q : GFl → Prop) (f : Flow) (s : Shared) : Prop := match f with
  | .next => ∃ ρ σ B H, Ex Bl B ∧ Z.GA i ip ρ σ B H s ∧ Q (ys, .nx ρ)
  | .brk => ∃ ρ σ B H, Ex Bl B ∧ Z.GA i ip ρ σ B H s ∧ Q (ys, .bk ρ)
  | .cont => ∃ ρ σ B H, Ex Bl B ∧ Z.GA i ip ρ σ B H s ∧ Q (ys, .ct ρ)
  | .ret u => ∃ d v σ B H, Inv (Z.at i) ip σ H s ∧ RelV v u ∧ Rp (kx Z.X) B v d ∧ Gr i.B i.F B H ∧ Q (ys, .rt d)
theorem Gm.P.low {Z : Gm} {ip : List (Addr × Obj)} {B B' : Hp} {i : Ix} {ys : List Dt} {Q : GFl → Prop} {f : Flow} {s : Shared} (h : Z.P ip B' i ys Q f s) (e : Ex B B') : Z.P ip B i ys Q f s := by
  cases f with
  | next => obtain ⟨ρ, σ, B2, H, z, q⟩ := h; exact ⟨ρ, σ, B2, H, e.trans z, q⟩
  | brk => obtain ⟨ρ, σ, B2, H, z, q⟩ := h; exact ⟨ρ, σ, B2, H, e.trans z, q⟩
  | cont => obtain ⟨ρ, σ, B2, H, z, q⟩ := h; exact ⟨ρ, σ, B2, H, e.trans z, q⟩
  | ret u => exact h
/-- where its code stands -/
structure HC (X : Cx) (A : Around) (c : Code) (fs : List Frame) (gd : Bool → Bool) : Prop where
  over : A.over c fs = X.A
  split : splitAtGen fs = none
  guard : fs.any Frame.guarded = false
  gd : gd false = false
theorem hc_loop {X : Cx} {A : Around} {c c' : Code} {fs : List Frame} {gd : Bool → Bool} {k : Result → Sem PySem.Fin} {l kp : List Value} {p : Pos} (g : HC X A c fs gd) (hw : c'.weight = 0) (hu : c'.cUnits = 0) : HC X A c' (.ret k none (gd false) l c p kp :: fs) id :=
  ⟨(over_loop hw hu).trans g.over, by show (splitAtGen fs).map _ = none; rw [g.split]; rfl, by show (gd false || fs.any Frame.guarded) = false; rw [g.gd, g.guard]; rfl, rfl⟩
/-- what follows -/
structure HK (Z : Gm) (ip : List (Addr × Obj)) (A : Around) (R : GenEnd) (c : Code) (fs : List Frame) (K : Flow → Sem PySem.Fin) (J : Value → Sem PySem.Fin) (Bl : Hp) (Q : GFl → Prop) : Prop where
  ok : ∀ (n : Nat) (ys : List Dt) (s0 s : Shared) (i : Ix) (f : Flow), Z.Vd ys i s0 → n + ys.length = sizeLine → Z.P ip Bl i ys Q f s → Seg (model Z.X.prog Z.X.w) A R Z.Y n s0 c (K f) fs s
  exc : ∀ (n : Nat) (ys : List Dt) (s0 : Shared) (e : Value) (s : Shared) (i : Ix), Z.Vd ys i s0 → Z.xe i e s → Seg (model Z.X.prog Z.X.w) A R Z.Y n s0 c (J e) fs s
theorem HK.low {Z : Gm} {ip : List (Addr × Obj)} {A : Around} {R : GenEnd} {c : Code} {fs : List Frame} {K : Flow → Sem PySem.Fin} {J : Value → Sem PySem.Fin} {B B' : Hp} {Q : GFl → Prop} (k : HK Z ip A R c fs K J B Q) (e : Ex B B') : HK Z ip A R c fs K J B' Q :=
  ⟨fun n ys s0 s i f v hn h => k.ok n ys s0 s i f v hn (h.low e), k.exc⟩
abbrev noE : Xn → Prop := fun _ => False
structure HSt (Z : Gm) (st : Stmt) (m : List Dt → Mv.Env → Wp GFl) : Prop where
  mn : (∃ i : Ix, i.s.heap.objs.size = Z.n0) → ∀ ys ρ, Mn (m ys ρ)
  run : ∀ (A : Around) (ip : List (Addr × Obj)) (R : GenEnd) (n : Nat) (ys : List Dt) (s0 : Shared) (c : Code) (fs : List Frame) (K : Flow → Sem PySem.Fin) (J : Value → Sem PySem.Fin) (gd : Bool → Bool) (lv : List Value → List Value) (s : Shared) (i : Ix) (ρ : Mv.Env) (σ : L2.St) (B H : Hp) (Q : GFl → Prop),
    Z.Vd ys i s0 → HC Z.X A c fs gd → n + ys.length = sizeLine → Z.GA i ip ρ σ B H s → m ys ρ Q noE → HK Z ip A R c fs K J B Q → Seg (model Z.X.prog Z.X.w) A R Z.Y n s0 c ((exec st Z.X.env).wrap K J gd lv) fs s
structure HSts (Z : Gm) (st : List Stmt) (m : List Dt → Mv.Env → Wp GFl) : Prop where
  mn : (∃ i : Ix, i.s.heap.objs.size = Z.n0) → ∀ ys ρ, Mn (m ys ρ)
  run : ∀ (A : Around) (ip : List (Addr × Obj)) (R : GenEnd) (n : Nat) (ys : List Dt) (s0 : Shared) (c : Code) (fs : List Frame) (K : Flow → Sem PySem.Fin) (J : Value → Sem PySem.Fin) (gd : Bool → Bool) (lv : List Value → List Value) (s : Shared) (i : Ix) (ρ : Mv.Env) (σ : L2.St) (B H : Hp) (Q : GFl → Prop),
    Z.Vd ys i s0 → HC Z.X A c fs gd → n + ys.length = sizeLine → Z.GA i ip ρ σ B H s → m ys ρ Q noE → HK Z ip A R c fs K J B Q → Seg (model Z.X.prog Z.X.w) A R Z.Y n s0 c ((execs st Z.X.env).wrap K J gd lv) fs s
def hPl (ys : List Dt) (m : Wp Fl) : Wp GFl := m.bind fun f => match f with
  | .rs _ _ => .bad
  | f => .ret (ys, f)
def hYl (YS ys : List Dt) (ρ : Mv.Env) (m : Wp Dt) : Wp GFl := .gd (ys.length < sizeLine) (m.bind fun d => .gd ((ys ++ [d]) <+: YS) (.ret (ys ++ [d], .nx ρ)))
theorem mn_hPl {ys : List Dt} {m : Wp Fl} (h : Mn m) : Mn (hPl ys m) := mn_bind h fun f => by cases f <;> first | exact mn_ret | exact mn_bad
section
variable {Z : Gm} {G : Ix → Cx} {E : XS} {e : Expr} {st : Stmt} {rest : List Stmt} {pos yp : Pos}
theorem hy_plain (gf : ∀ i : Ix, i.s.heap.objs.size = Z.n0 → G i = Z.at i) {m : Mv.Env → Wp Fl} (h : ∀ i : Ix, i.s.heap.objs.size = Z.n0 → MS (G i) E st m) : HSt Z st (fun ys ρ => hPl ys (m ρ)) := by
  have h' : ∀ i : Ix, i.s.heap.objs.size = Z.n0 → MS (Z.at i) E st m := fun i hi => by rw [← gf i hi]; exact h i hi
  refine ⟨fun ⟨i, hi⟩ ys ρ => ?_, fun A ip R n ys s0 c fs K J gd lv s i ρ σ B H Q hV g hn ga q k => ?_⟩
  · obtain ⟨_, _, v⟩ := h' i hi
    exact mn_hPl (v.mn ρ)
  obtain ⟨t, p, v⟩ := h' i hV.1
  obtain ⟨I, sr⟩ := ga
  obtain ⟨F', r0, bg, back⟩ := sr.root
  have ht : t { nx := fun σ' H' => ∃ ρ' B', Ex B B' ∧ SR (kx Z.X) i.B i.F ρ' σ' B' H' ∧ Q (ys, .nx ρ'), rt := fun u H' => ∃ d B', Rp (kx Z.X) B' u d ∧ Gr i.B i.F B' H' ∧ Q (ys, .rt d), bk := fun σ' H' => ∃ ρ' B', Ex B B' ∧ SR (kx Z.X) i.B i.F ρ' σ' B' H' ∧ Q (ys, .bk ρ'), ct := fun σ' H' => ∃ ρ' B', Ex B B' ∧ SR (kx Z.X) i.B i.F ρ' σ' B' H' ∧ Q (ys, .ct ρ') } σ H := by
    refine v.run B F' ρ σ B H _ r0 (v.mn ρ _ _ _ _ (fun f z => ?_) (fun _ z => z.elim) q)
    cases f with
    | nx ρ' => exact fun σ' B' H' w => ⟨ρ', B', w.ex, back _ _ _ _ w, z⟩
    | rt d => exact fun u B' H' w rd => ⟨d, B', rd, bg _ _ w, z⟩
    | bk ρ' => exact fun σ' B' H' w => ⟨ρ', B', w.ex, back _ _ _ _ w, z⟩
    | ct ρ' => exact fun σ' B' H' w => ⟨ρ', B', w.ex, back _ _ _ _ w, z⟩
    | rs d S => exact z.elim
  refine seg_wrap ?_
  rw [g.over]
  refine wpAny_mono (p.run _ s σ H _ I ht) (fun f s' hs => k.ok n ys s0 s' i f hV hn ?_) fun x s' hx => k.exc n ys s0 x s' i hV hx
  cases f with
  | next => obtain ⟨σ', H', I', ρ', B', eB, sr', q'⟩ := hs; exact ⟨ρ', σ', B', H', eB, ⟨I', sr'⟩, q'⟩
  | brk => obtain ⟨σ', H', I', ρ', B', eB, sr', q'⟩ := hs; exact ⟨ρ', σ', B', H', eB, ⟨I', sr'⟩, q'⟩
  | cont => obtain ⟨σ', H', I', ρ', B', eB, sr', q'⟩ := hs; exact ⟨ρ', σ', B', H', eB, ⟨I', sr'⟩, q'⟩
  | ret u => obtain ⟨v', σ', H', I', rv, d, B', rd, gr, q'⟩ := hs; exact ⟨d, v', σ', B', H', I', rv, rd, gr, q'⟩
theorem hy_yield (gf : ∀ i : Ix, i.s.heap.objs.size = Z.n0 → G i = Z.at i) {m : Mv.Env → Wp Dt} (h : ∀ i : Ix, i.s.heap.objs.size = Z.n0 → ME (G i) E e m) (hco : Z.X.env.scope.isCoroutine = false := by rfl) (hi : interactive Z.X.env = false := by rfl) : HSt Z (.Expr (.Yield (some e) yp) pos) (fun ys ρ => hYl Z.YS ys ρ (m ρ)) := by
  have h' : ∀ i : Ix, i.s.heap.objs.size = Z.n0 → ME (Z.at i) E e m := fun i hi => by rw [← gf i hi]; exact h i hi
  refine ⟨fun ⟨i, hi⟩ ys ρ => ?_, fun A ip R n ys s0 c fs K J gd lv s i ρ σ B H Q hV g hn ga q k => ?_⟩
  · obtain ⟨_, _, v⟩ := h' i hi
    exact mn_gd (mn_bind (v.mn ρ) fun _ => mn_gd mn_ret)
  obtain ⟨t, p, v⟩ := h' i hV.1
  obtain ⟨I, sr⟩ := ga
  obtain ⟨hlt, q⟩ := q
  obtain ⟨n, rfl⟩ : ∃ k, n = k + 1 := ⟨n - 1, by omega⟩
  have ht : t σ H (fun x H1 => ∃ B1 d, Gr B H B1 H1 ∧ Rp (kx Z.X) B1 x d ∧ (ys ++ [d]) <+: Z.YS ∧ Q (ys ++ [d], .nx ρ)) :=
    v.run i.B i.F ρ σ B H _ sr (v.mn ρ _ _ _ _ (fun d z u B' H' w rd => ⟨B', d, w, rd, z.1, z.2⟩) (fun _ z => z.elim) q)
  refine seg_Expr_Yield g.split g.gd g.guard ?_ hco hi
  rw [g.over]
  refine wpAny_mono (p.run _ s σ H _ I ht) (fun u s' hv => ?_) fun x s' hx => k.exc _ ys s0 x s' i hV hx
  obtain ⟨x, H1, I1, rv, B1, d, g1, rd, hp, q1⟩ := hv
  intro kap hk
  refine ⟨i, ip, ρ, σ, B1, H1, ys, x, d, hV, hn, rv, rd, hp, ⟨I1, sr.gr g1⟩, fun i' s'' hV' hB ga' => hk .none s'' ?_⟩
  exact k.ok n (ys ++ [d]) s'' s'' i' .next hV' (by rw [List.length_append, List.length_singleton]; omega) ⟨ρ, σ, i'.B, i'.H, g1.b.trans hB, ga', q1⟩
theorem hys_nil : HSts Z [] (fun ys ρ => .ret (ys, .nx ρ)) :=
  ⟨fun _ _ _ => mn_ret, fun A ip R n ys s0 c fs K J gd lv s i ρ σ B H Q hV g hn ga q k => seg_execs_nil (k.ok n ys s0 s i .next hV hn ⟨ρ, σ, B, H, .refl _, ga, q⟩)⟩
theorem hys_cons {m n : List Dt → Mv.Env → Wp GFl} (a : HSt Z st m) (b : HSts Z rest n) : HSts Z (st :: rest) (fun ys ρ => gThen (m ys ρ) n) := by
  refine ⟨fun hi ys ρ => mn_gThen (a.mn hi ys ρ) (b.mn hi), fun A ip R n' ys s0 c fs K J gd lv s i ρ σ B H Q hV g hn ga q k => ?_⟩
  have q' : m ys ρ (fun x => match x with
    | (ys, .nx ρ) => n ys ρ Q noE
    | (ys, .rs _ _) => False
    | y => Q y) noE := a.mn ⟨i, hV.1⟩ ys ρ _ _ _ _ (fun x z => by obtain ⟨ys', f⟩ := x; cases f <;> exact z) (fun _ z => z) q
  refine seg_execs_cons ?_
  refine a.run A ip R n' ys s0 c fs _ J gd lv s i ρ σ B H _ hV g hn ga q' ⟨fun n2 ys2 s2 s' i2 f hV2 hn2 hs => ?_, k.exc⟩
  cases f with
  | next =>
    obtain ⟨ρ2, σ2, B2, H2, e2, ga2, q2⟩ := hs
    exact b.run A ip R n2 ys2 s2 c fs K J gd lv s' i2 ρ2 σ2 B2 H2 Q hV2 g hn2 ga2 q2 (k.low e2)
  | brk => exact k.ok n2 ys2 s2 s' i2 .brk hV2 hn2 hs
  | cont => exact k.ok n2 ys2 s2 s' i2 .cont hV2 hn2 hs
  | ret u => exact k.ok n2 ys2 s2 s' i2 (.ret u) hV2 hn2 hs
theorem hy_if (gf : ∀ i : Ix, i.s.heap.objs.size = Z.n0 → G i = Z.at i) {c : Expr} {a b : List Stmt} {mc : Mv.Env → Wp Bool} {m n : List Dt → Mv.Env → Wp GFl} (hc : ∀ i : Ix, i.s.heap.objs.size = Z.n0 → MT (G i) E c mc) (ha : HSts Z a m) (hb : HSts Z b n) : HSt Z (.If c a b pos) (fun ys ρ => gIf (mc ρ) (m ys ρ) (n ys ρ)) := by
  have h' : ∀ i : Ix, i.s.heap.objs.size = Z.n0 → MT (Z.at i) E c mc := fun i hi => by rw [← gf i hi]; exact hc i hi
  refine ⟨fun ⟨i, hi⟩ ys ρ => ?_, fun A ip R n' ys s0 cc fs K J gd lv s i ρ σ B H Q hV g hn ga q k => ?_⟩
  · obtain ⟨_, _, v⟩ := h' i hi
    exact mn_gIf (v.mn ρ) (ha.mn ⟨i, hi⟩ ys ρ) (hb.mn ⟨i, hi⟩ ys ρ)
  obtain ⟨t, p, v⟩ := h' i hV.1
  obtain ⟨I, sr⟩ := ga
  have ht : t σ H (fun b H1 => ∃ B1, Gr B H B1 H1 ∧ (if b = true then m ys ρ else n ys ρ) Q noE) :=
    v.run i.B i.F ρ σ B H _ sr (v.mn ρ _ _ _ _ (fun b z B1 H1 w => ⟨B1, w, z⟩) (fun _ z => z.elim) q)
  show Seg _ A R _ n' s0 cc (.at pos fun _ => Sem.wrap K J gd lv (isTrue c Z.X.env (eval c Z.X.env) >>= fun b' => if b' = true then execs a Z.X.env else execs b Z.X.env)) fs s
  refine seg_at ?_
  rw [Sem.bind_eq_wrap', Sem.wrap_wrap]
  refine seg_wrap ?_
  rw [g.over]
  refine wpAny_mono (p.run _ s σ H _ I ht) (fun b' s' hb' => ?_) fun x s' hx => k.exc n' ys s0 x s' i hV hx
  obtain ⟨H2, I2, B2, g2, q2⟩ := hb'
  cases b' with
  | true => exact ha.run A ip R n' ys s0 cc fs K J gd lv s' i ρ σ B2 H2 Q hV g hn ⟨I2, sr.gr g2⟩ q2 (k.low g2.b)
  | false => exact hb.run A ip R n' ys s0 cc fs K J gd lv s' i ρ σ B2 H2 Q hV g hn ⟨I2, sr.gr g2⟩ q2 (k.low g2.b)
end
end Mv

namespace Mv
open PySem L2 PyProof.Rows GenW
theorem hc_back {Z : Gm} {ip : List (Addr × Obj)} {A : Around} {R : GenEnd} {c : Code} {fs : List Frame} {K : Flow → Sem PySem.Fin} {J : Value → Sem PySem.Fin} {gd : Bool → Bool} {lv : List Value → List Value} {B : Hp} {Q : GFl → Prop} {n : Nat} {ys : List Dt} {s0 s : Shared} {e : Value} {i : Ix}
    (g : HC Z.X A c fs gd) (k : HK Z ip A R c fs K J B Q) (v : Z.Vd ys i s0) (h : cameBackBy (model Z.X.prog Z.X.w) Z.X.A Z.X.env (Z.xe i) e s) :
    Seg (model Z.X.prog Z.X.w) A R Z.Y n s0 c (((Sem.raise e : Sem Flow).onRaise (cameBack Z.X.env)).wrap K J gd lv) fs s := by
  show Seg _ _ _ _ _ _ _ (((cameBack Z.X.env e).bind fun _ => (Sem.raise e : Sem Flow)).wrap K J gd lv) _ _
  rw [Sem.bind_eq_wrap, Sem.wrap_wrap]
  refine seg_wrap ?_
  rw [g.over]
  exact wpAny_mono h (fun _ s' hx => k.exc n ys s0 e s' i v hx) fun x s' hx => k.exc n ys s0 x s' i v hx
section
variable {Z : Gm} {G : Ix → Cx} {E : XS} {pos : Pos}
theorem hy_for (gf : ∀ i : Ix, i.s.heap.objs.size = Z.n0 → G i = Z.at i) {tg it : Expr} {body : List Stmt} {mi : Mv.Env → Wp (List Dt)} {mg : Dt → Mv.Env → Wp Mv.Env} {mb : List Dt → Mv.Env → Wp GFl}
    (hp : ∀ i : Ix, i.s.heap.objs.size = Z.n0 → PassesOwn (model (G i).prog (G i).w) (G i).A (G i).env (G i).xe) (hc : Z.X.calm = true) (hi : ∀ i : Ix, i.s.heap.objs.size = Z.n0 → MI (G i) E tg it mi) (hg : ∀ i : Ix, i.s.heap.objs.size = Z.n0 → MG (G i) tg mg) (hb : HSts Z body mb)
    (hs : ∀ x, foldedSetIterable it Z.X.env x = pure x := by intro _; rfl) : HSt Z (.For tg it body [] pos) (fun ys ρ => (mi ρ).bind fun xs => gforL (fun x ys ρ => (mg x ρ).bind (mb ys)) xs ys ρ) := by
  have hp' : ∀ i : Ix, i.s.heap.objs.size = Z.n0 → PassesOwn (model Z.X.prog Z.X.w) Z.X.A Z.X.env (Z.xe i) := fun i z => by have q := hp i z; rw [gf i z] at q; exact q
  have hi' : ∀ i : Ix, i.s.heap.objs.size = Z.n0 → MI (Z.at i) E tg it mi := fun i z => by rw [← gf i z]; exact hi i z
  have hg' : ∀ i : Ix, i.s.heap.objs.size = Z.n0 → MG (Z.at i) tg mg := fun i z => by rw [← gf i z]; exact hg i z
  refine ⟨fun ⟨i, z⟩ ys ρ => ?_, fun A ip R n ys s0 c fs K J gd lv s i ρ σ B H Q hV g hn ga q k => ?_⟩
  · obtain ⟨_, _, vi⟩ := hi' i z
    obtain ⟨_, _, vg⟩ := hg' i z
    exact mn_bind (vi.mn ρ) fun xs => mn_gforL (fun x ys ρ => mn_bind (vg.mn x ρ) (hb.mn ⟨i, z⟩ ys)) xs ys ρ
  obtain ⟨wi, pi, vi⟩ := hi' i hV.1
  obtain ⟨I, sr⟩ := ga
  have hw : wi σ H (fun Jt H1 => ∃ B1 xs, Gr B H B1 H1 ∧ WalkD (kx Z.X) Jt B1 xs ∧ gforL (fun x ys ρ => (mg x ρ).bind (mb ys)) xs ys ρ Q noE) :=
    vi.run i.B i.F ρ σ B H _ sr (vi.mn ρ _ _ _ _ (fun xs z Jt B1 H1 w wd => ⟨B1, xs, w, wd, z⟩) (fun _ z => z.elim) q)
  refine sg_For hs ?_
  rw [g.over]
  refine wpAny_mono (pi.run ip s σ H _ I hw) (fun x s1 h1 => wpAny_mono h1 (fun iv s2 h2 => ?_) fun x s' hx => k.exc n ys s0 x s' i hV hx) fun x s' hx => k.exc n ys s0 x s' i hV hx
  obtain ⟨ia, fp, tn, Jt, H2, rfl, I2, T, st2, f2, B1, xs, g1, ⟨Gw, Yw, w, hG, hY⟩, q1⟩ := h2
  intro p
  have gl : HC Z.X A (.forLoop tg (.ref ia) body [] Z.X.env) (.ret (backK Z.X.env K J gd lv) none (gd false) (lv []) c p [] :: fs) id := hc_loop (k := backK Z.X.env K J gd lv) (l := lv []) (kp := []) (p := p) g rfl rfl
  have fpk : ∀ (i' : Ix) (H' : Hp), i'.s.heap.objs.size = Z.n0 → (∀ b ∈ fp, H' b = none) → ∀ b ∈ fp, FpOk (Z.at i') ip H' b := fun i' H' hz hn b hb => by
    obtain ⟨_, q1, q2, q3, q4, q5⟩ := f2 b hb
    refine ⟨hn b hb, q1, q2, q3.imp id fun z => ?_, q4, q5⟩
    show i'.s.heap.objs.size ≤ b
    rw [hz, ← hV.1]; exact z
  have ee : ∀ (n : Nat) (ys : List Dt) (s0 : Shared) (e : Value) (s' : Shared) (i' : Ix), Z.Vd ys i' s0 → Z.xe i' e s' → Seg (model Z.X.prog Z.X.w) A R Z.Y n s0 (.forLoop tg (.ref ia) body [] Z.X.env) (noteK Z.X.env e) (.ret (backK Z.X.env K J gd lv) none (gd false) (lv []) c p [] :: fs) s' := fun n ys s0 e s' i' hV' hx => by
    refine seg_wrap ?_
    rw [gl.over]
    refine wpAny_bind (wpAny_mono (hp' i' hV'.1 e s' hx) (fun _ s'' hcb => wpAny_theTreesLotGoes ?_) fun y s'' hcb => ?_)
    · exact seg_leaf (.error e) (hc_back g k hV' hcb)
    · exact seg_leaf (.error y) (hc_back g k hV' hcb)
  have loop : ∀ (r j n : Nat) (ys : List Dt) (s0 s : Shared) (i : Ix) (ρ : Mv.Env) (σ : L2.St) (B' H : Hp), j + r = xs.length → Z.Vd ys i s0 → n + ys.length = sizeLine → Ex B1 B' → Z.GA i ip ρ σ B' H s →
      gforL (fun x ys ρ => (mg x ρ).bind (mb ys)) (xs.drop j) ys ρ Q noE → tn j s.heap → (∀ b ∈ fp, H b = none) →
      Seg (model Z.X.prog Z.X.w) A R Z.Y n s0 (.forLoop tg (.ref ia) body [] Z.X.env) ((model Z.X.prog Z.X.w).den (.forLoop tg (.ref ia) body [] Z.X.env)) (.ret (backK Z.X.env K J gd lv) none (gd false) (lv []) c p [] :: fs) s := by
    intro r
    induction r with
    | zero =>
      intro j n ys s0 s i ρ σ B' H hj hV hn eB ga q st fr
      obtain rfl : j = xs.length := by omega
      rw [List.drop_length] at q
      obtain ⟨I, sr⟩ := ga
      refine sg_forLoop ?_
      rw [gl.over]
      refine wpAny_mono (T.done (Z.at i) rfl rfl rfl hc _ ip s σ H (Z.xe i) I (fpk i H hV.1 fr) st (w.stops H (hG B' H eB sr.bh))) (fun r' s4 h4 => ?_) fun x s' hx => ee n ys s0 x s' i hV hx
      obtain ⟨rfl, I4⟩ := h4
      exact sg_block0 (seg_leaf (.ok .next) (k.ok n ys s0 s4 i .next hV hn ⟨ρ, σ, B', H, g1.b.trans eB, ⟨I4, sr⟩, q⟩))
    | succ r ih =>
      intro j n ys s0 s i ρ σ B' H hj hV hn eB ga q st fr
      have hlt : j < xs.length := by omega
      obtain ⟨I, sr⟩ := ga
      have hGH := hG B' H eB sr.bh
      refine sg_forLoop ?_
      rw [gl.over]
      refine wpAny_mono (T.item (Z.at i) rfl rfl rfl hc j ip s σ H (Z.xe i) I (fpk i H hV.1 fr) st (w.goes j H hlt hGH)) (fun r' s4 h4 => ?_) fun x s' hx => ee n ys s0 x s' i hV hx
      obtain ⟨u, rfl, h4⟩ := h4
      refine wpAny_mono h4 (fun _ s5 h5 => ?_) fun x s' hx => ee n ys s0 x s' i hV hx
      obtain ⟨x, H5, I5, r5, y5, st5, fr5⟩ := h5
      obtain ⟨B5, d, hd, g5, rd⟩ := hY j H x H5 B' hlt eB sr.bh (w.yields j H x H5 hlt hGH y5)
      have ed : xs.drop j = d :: xs.drop (j + 1) := by
        rw [List.drop_eq_getElem_cons hlt]
        congr 1
        rw [List.getElem?_eq_getElem hlt] at hd
        exact Option.some.inj hd
      rw [ed] at q
      have sr5 := sr.gr g5
      have I5' := I5.pinned (fpk i H5 hV.1 fr5) (T.obj _ _ st5)
      obtain ⟨gt, pg, vg⟩ := hg' i hV.1
      have hgt : gt x σ H5 (fun σ6 H6 => ∃ ρ6, SR (kx Z.X) i.B i.F ρ6 σ6 B5 H6 ∧ mb ys ρ6 (fun f => (match f with
          | (ys', .nx ρ') => gforL (fun x ys ρ => (mg x ρ).bind (mb ys)) (xs.drop (j + 1)) ys' ρ'
          | (ys', .ct ρ') => gforL (fun x ys ρ => (mg x ρ).bind (mb ys)) (xs.drop (j + 1)) ys' ρ'
          | (ys', .bk ρ') => Wp.ret (ys', .nx ρ')
          | (ys', .rt d) => .ret (ys', .rt d)
          | (_, .rs _ _) => .bad : Wp GFl) Q noE) noE) :=
        vg.run i.B i.F ρ σ B5 H5 x d _ _ sr5 rd (vg.mn d ρ _ _ _ _ (fun ρ6 z σ6 w6 => ⟨ρ6, w6, hb.mn ⟨i, hV.1⟩ ys ρ6 _ _ _ _ (fun f z => by obtain ⟨ys', f⟩ := f; cases f <;> exact z) (fun _ z => z) z⟩) (fun _ z => z) q)
      refine wpAny_mono (pg.run _ s5 σ H5 x u _ I5' r5 hgt) (fun _ s6 h6 => ?_) fun x s' hx => ee n ys s0 x s' i hV hx
      obtain ⟨σ6, H6, I6, ρ6, sr6, q6⟩ := h6
      have again : ∀ {n' : Nat} {ys' : List Dt} {s0' s7 : Shared} {i7 : Ix} {ρ7 : Mv.Env} {σ7 : L2.St} {B7 H7 : Hp}, Z.Vd ys' i7 s0' → n' + ys'.length = sizeLine → Ex B5 B7 → Z.GA i7 (ip ++ pinsAt fp s5.heap) ρ7 σ7 B7 H7 s7 →
          gforL (fun x ys ρ => (mg x ρ).bind (mb ys)) (xs.drop (j + 1)) ys' ρ7 Q noE →
          Seg (model Z.X.prog Z.X.w) A R Z.Y n' s0' (.forLoop tg (.ref ia) body [] Z.X.env) ((model Z.X.prog Z.X.w).den (.forLoop tg (.ref ia) body [] Z.X.env)) (.ret (backK Z.X.env K J gd lv) none (gd false) (lv []) c p [] :: fs) s7 := fun {n' ys' s0' s7 i7 ρ7 σ7 B7 H7} hV7 hn7 e7 ga7 q7 => by
        obtain ⟨I7, sr7⟩ := ga7
        have pin7 : ∀ b ∈ fp, ∀ o, s5.heap.get? b = some o → s7.heap.get? b = some o ∧ H7 b = none := fun b hb o e => by
          have z := I7.pin (b, o) (List.mem_append_right _ (List.mem_append_right _ (mem_pinsAt hb e)))
          exact ⟨z.1, z.2.1⟩
        refine ih (j + 1) n' ys' s0' s7 i7 ρ7 σ7 B7 H7 (by omega) hV7 hn7 (eB.trans (g5.b.trans e7)) ⟨I7.unpinned, sr7⟩ q7 (T.keep _ _ _ st5 fun b hb o e => (pin7 b hb o e).1) fun b hb => ?_
        obtain ⟨o, e, _⟩ := T.obj _ _ st5 b hb
        exact (pin7 b hb o e).2
      refine hb.run A (ip ++ pinsAt fp s5.heap) R n ys s0 _ _ _ _ id id s6 i ρ6 σ6 B5 H6 _ hV gl hn ⟨I6, sr6⟩ q6 ⟨fun n7 ys7 s07 s7 i7 f hV7 hn7 hs7 => ?_, fun n7 ys7 s07 x s7 i7 hV7 hx => ee n7 ys7 s07 x s7 i7 hV7 hx⟩
      cases f with
      | next => obtain ⟨ρ7, σ7, B7, H7, e7, ga7, q7⟩ := hs7; exact seg_again rfl (again hV7 hn7 e7 ga7 q7)
      | cont => obtain ⟨ρ7, σ7, B7, H7, e7, ga7, q7⟩ := hs7; exact seg_again rfl (again hV7 hn7 e7 ga7 q7)
      | brk => obtain ⟨ρ7, σ7, B7, H7, e7, ⟨I7, sr7⟩, q7⟩ := hs7; exact seg_leaf (.ok .next) (k.ok n7 ys7 s07 s7 i7 .next hV7 hn7 ⟨ρ7, σ7, B7, H7, g1.b.trans (eB.trans (g5.b.trans e7)), ⟨I7.unpinned, sr7⟩, q7⟩)
      | ret v => obtain ⟨d7, v7, σ7, B7, H7, I7, rv, rd7, gr7, q7⟩ := hs7; exact seg_leaf (.ok (.ret v)) (k.ok n7 ys7 s07 s7 i7 (.ret v) hV7 hn7 ⟨d7, v7, σ7, B7, H7, I7.unpinned, rv, rd7, gr7, q7⟩)
  refine loop xs.length 0 n ys s0 s2 i ρ σ B1 H2 (Nat.zero_add _) hV hn (.refl _) ⟨I2, sr.gr g1⟩ q1 st2 fun b hb => (f2 b hb).1
end
end Mv

namespace Mv
open PySem L2 PyProof.Rows GenW
/-- the state as far as its first n objects -/
def cutN (n : Nat) (s : Shared) : Shared := { s with heap := { s.heap with objs := s.heap.objs.extract 0 n } }
theorem cut_size {n : Nat} {s : Shared} (h : n ≤ s.heap.objs.size) : (cutN n s).heap.objs.size = n := by
  show (s.heap.objs.extract 0 n).size = n
  rw [Array.size_extract]; omega
theorem cut_get {n : Nat} {s : Shared} {b : Addr} {o : Obj} (h : (cutN n s).heap.get? b = some o) : @LT.lt Nat _ b n ∧ s.heap.get? b = some o := by
  have hb : @LT.lt Nat _ b (s.heap.objs.extract 0 n).size := Heap.lt_size h
  rw [Array.size_extract] at hb
  have hb' : @LT.lt Nat _ b n := by omega
  have hb2 : @LT.lt Nat _ b s.heap.objs.size := by omega
  refine ⟨hb', ?_⟩
  have e : (s.heap.objs.extract 0 n)[b]? = s.heap.objs[b]? := by
    rw [Array.getElem?_extract]
    simp only [Nat.sub_zero, Nat.zero_add]
    rw [if_pos (by omega)]
  unfold Heap.get? at h ⊢
  have e2 : (cutN n s).heap.objs = s.heap.objs.extract 0 n := rfl
  rw [e2, e] at h
  exact h
theorem cut_at {n : Nat} {s : Shared} {b : Addr} {o : Obj} (hb : @LT.lt Nat _ b n) (h : s.heap.get? b = some o) : (cutN n s).heap.get? b = some o := by
  have hl : @LT.lt Nat _ b s.heap.objs.size := Heap.lt_size h
  have e : (s.heap.objs.extract 0 n)[b]? = s.heap.objs[b]? := by
    rw [Array.getElem?_extract]
    simp only [Nat.sub_zero, Nat.zero_add]
    rw [if_pos (by omega)]
  unfold Heap.get? at h ⊢
  have e2 : (cutN n s).heap.objs = s.heap.objs.extract 0 n := rfl
  rw [e2, e]
  exact h
theorem cut_frames {n : Nat} {s0 : Shared} {s : Shared} {base : Heap} : ∀ {l : List PySem.Env}, s0.heap.objs.size = n → s0.heap.FunFrames base l → s.heap.FunFrames base l → (cutN n s).heap.FunFrames base l
  | [], _, _, _ => True.intro
  | env :: l, hz, h0, h => by
    obtain ⟨k0, ⟨L, o, e1, e2, e3, e4⟩, r0⟩ := h0
    obtain ⟨k1, ⟨L', o', f1, f2, f3, f4⟩, r1⟩ := h
    have : L = L' := by rw [e1] at f1; exact Option.some.inj f1
    subst this
    refine ⟨k0, ⟨L, o', e1, e2, cut_at (by have h9 : @LT.lt Nat _ L s0.heap.objs.size := Heap.lt_size e3; omega) f3, f4⟩, cut_frames hz r0 r1⟩
/-- a wake: the generator's invariant over the new state -/
theorem inv_wake {Z : Gm} {i i' : Ix} {ip : List (Addr × Obj)} {σ : L2.St} {H : Hp} {s s' : Shared} {A' : Around} (hex : Z.X.ex = []) (hcl : ∀ x c, Z.X.env.cells.lookup x = some c → False) (I : Inv (Z.at i) ip σ H s) (hi : i.s.heap.objs.size = Z.n0)
    (e0 : Env0 Z.X.prog Z.X.w Z.X.K Z.X.mg Z.X.base A' Z.X.outer s' i'.H) (hs : i'.s = cutN Z.n0 s') (hz : Z.n0 ≤ s'.heap.objs.size)
    (hL : ∀ o, s.heap.get? Z.X.env.locals = some o → s'.heap.get? Z.X.env.locals = some o) (hLn : i'.H Z.X.env.locals = none)
    (hp : ∀ p ∈ Z.X.pn ++ ip, s'.heap.get? p.1 = some p.2 ∧ i'.H p.1 = none) : Inv (Z.at i') ip σ i'.H s' := by
  have hsz : i'.s.heap.objs.size = Z.n0 := by rw [hs]; exact cut_size hz
  have ok := I.ok
  have bl : Z.X.base.objs.size ≤ Z.n0 := by have := ok.bsz; rw [← hi]; exact this
  have nox : ∀ b : Addr, b ∉ Z.X.ex := fun b hb => by rw [hex] at hb; simp at hb
  refine ⟨⟨ok.mod, ok.kind, ok.glob, ok.blt, ?_, ok.inj, ok.has, ?_, ok.hd, ok.frames, ok.stk, ok.exf, ?_, ?_, ok.noex, ok.exfs, ?_, ?_⟩, ?_, e0.bare, ?_, ?_, ?_, hLn, ?_, ?_, e0.hok, I.len⟩
  · show i'.s.heap.objs.size ≤ Z.X.env.locals
    rw [hsz, ← hi]; exact ok.above
  · exact fun x c _ h => (hcl x c h).elim
  · intro b o e
    refine ⟨?_, (e0.bs b o e).2⟩
    show i'.s.heap.get? b = some o
    rw [hs]; exact cut_at (Nat.lt_of_lt_of_le (Heap.lt_size e) bl) (e0.bs b o e).1
  · show Z.X.base.objs.size ≤ i'.s.heap.objs.size
    rw [hsz]; exact bl
  · show i'.s.heap.FunFrames Z.X.base Z.X.outer
    rw [hs]; exact cut_frames hi ok.funs e0.funs
  · exact e0.frf
  · show s'.os = i'.s.os
    rw [hs]; rfl
  · show Un (frs Z.X.outer) Z.X.ex i'.H i'.H i'.s.heap s'.heap
    rw [hs]
    exact ⟨fun b o e _ _ _ => (cut_get e).2, fun b o e _ _ _ => ⟨o.slots, (cut_get e).2⟩, fun b o e n _ => n, fun b o e _ => ⟨o, (cut_get e).2⟩, fun _ _ h => h, fun _ _ _ h => h, fun b ps h => ⟨#[], by rw [h]; simp⟩⟩
  · obtain ⟨m, hm, hv⟩ := I.loc
    refine ⟨m, hm.at' hL, fun j x v h1 h2 h3 => ?_⟩
    obtain ⟨u, ru, hu⟩ := hv j x v h1 h2 h3
    refine ⟨u, ru, hu.imp id fun ⟨_, c, hc, _⟩ => (hcl x c hc).elim⟩
  · exact fun x c h => (hcl x c h).elim
  · exact fun x c h => (hcl x c h).elim
  · intro p hm
    obtain ⟨_, _, q3, q4, q5⟩ := I.pin p hm
    exact ⟨(hp p hm).1, (hp p hm).2, q3, q4, q5⟩
/-- .. and its mirror's state -/
theorem sr_wake {Zk : Kx} {B0 F B H : Hp} {ρ : Mv.Env} {σ : L2.St} (sr : SR Zk B0 F ρ σ B H) : ∃ O : List Addr, (∀ a ∈ O, B a = none ∧ F a = none ∧ ∃ u, H a = some u) ∧
    ∀ (s : Shared) (B' H' : Hp), Ex B B' → Ex B' H' → (∀ a ∈ O, H' a = H a ∧ B' a = none) → SR Zk B' (Ix.F ⟨s, B', H', O⟩) ρ σ B' H' := by
  obtain ⟨fps, k, nd, hf⟩ := sr.sl
  refine ⟨fps, fun a ha => ⟨(hf a ha).1, (hf a ha).2, k.has a ha⟩, fun s B' H' e1 e2 ho => ⟨.refl _, e2, fun a o n h => ?_, fps, k.heap e1.lg fun a ha => (ho a ha).1, nd, fun a ha => ⟨(ho a ha).2, if_pos ha⟩⟩⟩
  have h : (if a ∈ fps then none else H' a) = some o := h
  split at h
  · cases h
  · exact ⟨h, n⟩
end Mv

namespace Mv
open PySem L2 PyProof.Rows GenW
abbrev Tie := List Dt → Ix → Shared → Prop
/-- behind a piece of its run, seen from where it went on last -/
def HAft (P : Program) (w : World) (outer : List PySem.Env) (i : Ix) (B H : Hp) (s : Shared) : Prop := s.os = i.s.os ∧ AllBare s.gens ∧ Un (frs outer) [] i.H H i.s.heap s.heap ∧ HOk P w H s.heap ∧ Gr i.B i.F B H
def HFin (P : Program) (w : World) (outer : List PySem.Env) (n0 : Nat) (YS : List Dt) (Cn : Tie) (s0 s1 : Shared) : Prop := ∃ i B H, i.s.heap.objs.size = n0 ∧ Cn YS i s0 ∧ HAft P w outer i B H s1
def HEnd (P : Program) (w : World) (outer : List PySem.Env) (n0 : Nat) (YS : List Dt) (Cn : Tie) : GenEnd := fun n s0 r s1 => ((r = .ok (.ret .none) ∨ r = .ok .next) ∧ HFin P w outer n0 YS Cn s0 s1) ∨ ∃ e, r = .error e ∧ False
/-- an item is out -/
def HItem (P : Program) (w : World) (K : PySem.W.Frag) (mg : Str → Option Value) (base : Heap) (outer : List PySem.Env) (n0 : Nat) (a : Addr) (g : Nat) (YS : List Dt) (Cn : Tie) : Protocol := fun n s0 v s kap =>
  ∃ (i : Ix) (B H : Hp) (ys : List Dt) (x : V) (d : Dt) (pl : List (Addr × Obj)) (O : List Addr),
    i.s.heap.objs.size = n0 ∧ Cn ys i s0 ∧ n + 1 + ys.length = sizeLine ∧ RelV x v ∧ Rp ⟨K, P, w⟩ B x d ∧ (ys ++ [d]) <+: YS ∧ HAft P w outer i B H s ∧ s.heap.NoLimit ∧ s.heap.IsGen a g ∧
    (∀ b ∈ O, B b = none ∧ i.F b = none ∧ ∃ u, H b = some u) ∧ (∀ p ∈ pl, s.heap.get? p.1 = some p.2 ∧ H p.1 = none ∧ p.1 ∉ frs outer ∧ ∀ v, p.2.data ≠ .cell v) ∧ (∃ go, (a, go) ∈ pl) ∧
    ∀ (A' : Around) (B' H' : Hp) (s' : Shared), Env0 P w K mg base A' outer s' H' → n0 ≤ s'.heap.objs.size → Ex B B' → Ex B' H' → (∀ b ∈ O, H' b = H b ∧ B' b = none) →
      (∀ p ∈ pl, s'.heap.get? p.1 = some p.2 ∧ H' p.1 = none) → Cn (ys ++ [d]) ⟨cutN n0 s', B', H', O⟩ s' → kap (.send .none) s'
/-- what a call gives: a generator that has not begun -/
def HMade (P : Program) (w : World) (K : PySem.W.Frag) (mg : Str → Option Value) (base : Heap) (k : Nat) (outer : List PySem.Env) (B H : Hp) (s : Shared) (YS : List Dt) (u : Value) (s' : Shared) : Prop :=
  ∃ (a : Addr) (g : Nat) (c : Code), u = .ref a ∧ s.heap.objs.size ≤ a ∧ a < s'.heap.objs.size ∧ s'.heap.IsGen a g ∧ s'.gens[g]? = some (.fresh c) ∧ s'.os = s.os ∧ AllBare s'.gens ∧ s'.heap.NoLimit ∧ (∀ b o, s.heap.get? b = some o → s'.heap.get? b = some o) ∧
    ∀ (A : Around) (Cn : Tie) (s2 : Shared), Room k A → Env0 P w K mg base A outer s2 H → (∀ b o, s'.heap.get? b = some o → s2.heap.get? b = some o) → s2.os = s.os → Cn [] ⟨cutN s.heap.objs.size s2, B, H, []⟩ s2 →
      Seg (model P w) A (HEnd P w outer s.heap.objs.size YS Cn) (HItem P w K mg base outer s.heap.objs.size a g YS Cn) sizeLine s2 c ((model P w).den c) [] s2
structure HFn (P : Program) (w : World) (K : PySem.W.Frag) (mg : Str → Option Value) (base : Heap) (k : Nat) (f : Addr) (fd : FuncData) (ps : List Str) (R : List Dt → List Dt → Prop) : Prop where
  run : ∀ (A : Around) (outer : List PySem.Env) (s : Shared) (H B : Hp) (args : Args) (us : List Value) (vs : List V) (ds YS : List Dt), Room k A → Env0 P w K mg base A outer s H → BindsTo s fd args (ps.zip us) → Vals vs us → vs.length = ps.length → Ex B H → RpAll ⟨K, P, w⟩ B vs ds → R ds YS →
    codeAny (model P w) A (.call (.ref f) args) (fun r s' => match r with | .ok (.ret u) => HMade P w K mg base k outer B H s YS u s' | _ => False) s
/-- the game of a generator def's call -/
def gmOf (P : Program) (w : World) (K : PySem.W.Frag) (mg : Str → Option Value) (base : Heap) (N : List Str) (qual : Str) (scope : Scope) (f : Addr) (cd : Value) (A : Around) (out : List PySem.Env) (s : Shared) (H : Hp) (pn : List (Addr × Obj)) (YS : List Dt) (Cn : Tie) : Gm :=
  ⟨gcxOf P w K mg base N qual scope f cd A out s H E0 pn, fun i => (gcxOf P w K mg base N qual scope f cd A out i.s i.H E0 pn).xe, s.heap.objs.size, YS, Cn⟩
theorem gm_at {P : Program} {w : World} {K : PySem.W.Frag} {mg : Str → Option Value} {base : Heap} {N : List Str} {qual : Str} {scope : Scope} {f : Addr} {cd : Value} {A : Around} {out : List PySem.Env} {s : Shared} {H : Hp} {pn : List (Addr × Obj)} {YS : List Dt} {Cn : Tie} (i : Ix)
    (h : i.s.heap.objs.size = (gmOf P w K mg base N qual scope f cd A out s H pn YS Cn).n0) : gcxOf P w K mg base N qual scope f cd A out i.s i.H E0 pn = (gmOf P w K mg base N qual scope f cd A out s H pn YS Cn).at i := by
  have h : i.s.heap.objs.size = s.heap.objs.size := h
  unfold Gm.at gmOf gcxOf cxOf
  simp only [h]
def ghWp (n : Nat) (mb : List Dt → List Dt → Mv.Env → Wp GFl) (ds YS : List Dt) : Prop := mb YS [] (ds.map Sl.fz ++ List.replicate (n - ds.length) .no) (fun r => ∃ ρ, r = (YS, .nx ρ)) noE
theorem fn_h {P : Program} {w : World} {K : PySem.W.Frag} {mg : Str → Option Value} {base : Heap} {k : Nat} {f : Addr} {fd : FuncData} {N ps : List Str} {x qual : Str} {params : Arguments} {body : List Stmt} {scope : Scope} {dvs : List V} {kws : List (Str × V)}
    {mb : List Dt → List Dt → Mv.Env → Wp GFl} {R : List Dt → List Dt → Prop} (F : FunD K x qual params body scope dvs kws f fd) (S : GScope N ps scope) (hnc : ∀ n, PySem.cellsFrom n scope.names [] = [])
    (hle : ∀ ds YS : List Dt, ds.length = ps.length → R ds YS → ghWp N.length mb ds YS)
    (hb : ∀ (cdv : Value) (A : Around) (out : List PySem.Env) (s : Shared) (H : Hp) (pn : List (Addr × Obj)) (YS : List Dt) (Cn : Tie), Room k (A.deeper (envOfC qual scope s.heap.objs.size f cdv)) → HSts (gmOf P w K mg base N qual scope f cdv A out s H pn YS Cn) body (mb YS)) :
    HFn P w K mg base (k + 1) f fd ps R := by
  obtain ⟨oc, od, dV, kV, doc, pm, an, cdv, ct, osl, rfl, look, hcd, _, _⟩ := F.ex
  refine ⟨fun A outer s H B args us vs ds YS hr e0 hbi r hl eB rB hR => ?_⟩
  have KX : K.In s.heap := e0.mod.kin.keeps fun b o e => (e0.bs b o e).1
  have lim : s.heap.NoLimit := e0.mod.nolimit.keeps fun b o e => (e0.bs b o e).1
  have hkind : ∀ y ∈ ps.zip us, scope.names.lookup y.1 = some .local ∨ (scope.names.lookup y.1 = some .cell ∧ ((PySem.cellsFrom (s.heap.objs.size + 1) scope.names []).lookup y.1).isSome = true) := fun ⟨n, v⟩ hy =>
    (S.par n (List.of_mem_zip hy).1).imp id fun q => ⟨q, PySem.W.cellsFrom_some _ _ _ (.inl q)⟩
  refine codeAny_call_generator hr.depth (KX _ _ look) rfl S.co S.gen rfl (PySem.W.codeRec_of KX hcd) (hbi _ _ _ _ ?_)
  refine wpAny_newFunctionEnv_cells S.kind hkind fun env he s1 x => ?_
  subst he
  have lim1 : s1.heap.NoLimit := lim.keeps x.toInCall.keep
  refine ⟨lim1, ?_⟩
  obtain ⟨h1, tk, es1, hk1⟩ := x.done
  have os1 : s1.os = s.os := by rw [es1]
  have gen1 : s1.gens = s.gens := by rw [es1]
  have lt1 : s.heap.objs.size < s1.heap.objs.size := x.toInCall.ns.lt
  have kp1 : ∀ b o, s.heap.get? b = some o → s1.heap.get? b = some o := x.toInCall.keep
  have main : ∀ (go : Obj) (nm qn : Value) (tk2 : Nat), go.cls = .type "generator" → go.data = .fields #[.int s1.gens.size 0, nm, qn] → go.slots = #[] → (∀ h : Heap, (h.push go).get? h.objs.size = some go) →
      HMade P w K mg base (k + 1) outer B H s YS (.ref s1.heap.objs.size) { s1 with gens := s1.gens.push (.fresh (.func body (envOfC qual scope s.heap.objs.size f cdv))), toks := tk2, heap := s1.heap.push go } := by
    intro go nm qn tk2 hgc hgd0 hgs hgp
    have hgen : ∀ h : Heap, h.get? s1.heap.objs.size = some go → h.IsGen s1.heap.objs.size s1.gens.size := fun h e => ⟨go, nm, qn, e, hgc, hgd0, hgs⟩
    have hpushed : (s1.heap.push go).get? s1.heap.objs.size = some go := hgp _
    refine ⟨s1.heap.objs.size, s1.gens.size, _, rfl, Nat.le_of_lt lt1, ?_, hgen _ hpushed, Array.getElem?_push_size .., os1, ?_, lim1.keeps fun b o e => Heap.get?_push_of_some _ e, fun b o e => Heap.get?_push_of_some _ (kp1 b o e), ?_⟩
    · show _ < (s1.heap.push _).objs.size
      rw [Heap.size_push]; exact Nat.lt_succ_self _
    · exact AllBare.push (by rw [gen1]; exact e0.bare) rfl
    intro Aw Cn s2 hrw e2 hk2 hos hC
    have e0w : Env0 P w K mg base Aw outer s H := ⟨e2.frames, e0.mod, e0.bs, e0.bsz, e0.funs, e0.frf, e0.hok, e0.bare⟩
    have I1 : Inv (gcxOf P w K mg base N qual scope f cdv Aw outer s H E0 []) [] (start N vs) H s1 := inv_startG S hrw.hd e0w hl r x
    have kp2 : ∀ b o, s1.heap.get? b = some o → s2.heap.get? b = some o := fun b o e => hk2 b o (Heap.get?_push_of_some _ e)
    have I2 : Inv (gcxOf P w K mg base N qual scope f cdv Aw outer s H E0 []) [] (start N vs) H s2 :=
      I1.call' (ch := []) (hos.trans os1.symm) (Un.kept kp2) (I1.hok.kept kp2) e2.bare fun b z => by simp at z
    have hea : s2.heap.get? s1.heap.objs.size = some go := hk2 s1.heap.objs.size go hpushed
    have hsz2 : s.heap.objs.size ≤ s2.heap.objs.size := Nat.le_of_lt (Nat.lt_trans lt1 (Heap.lt_size hea))
    have I3 : Inv (gcxOf P w K mg base N qual scope f cdv Aw outer s H E0 [(s1.heap.objs.size, go)]) [] (start N vs) H s2 := Inv.pinnedG I2 fun p hp => by
      have hp : p = (s1.heap.objs.size, go) := by simpa using hp
      subst hp
      exact ⟨hea, I1.hok.fresh (Nat.le_refl _), Nat.ne_of_gt lt1, I1.nofs (Nat.le_refl _), fun v q => by rw [hgd0] at q; cases q⟩
    have hcl : ∀ x c, (gmOf P w K mg base N qual scope f cdv Aw outer s H [(s1.heap.objs.size, go)] YS Cn).X.env.cells.lookup x = some c → False := fun x c h => by
      have h : (PySem.cellsFrom (s.heap.objs.size + 1) scope.names []).lookup x = some c := h
      rw [hnc] at h; cases h
    have I4 : Inv ((gmOf P w K mg base N qual scope f cdv Aw outer s H [(s1.heap.objs.size, go)] YS Cn).at ⟨cutN s.heap.objs.size s2, B, H, []⟩) [] (start N vs) H s2 :=
      inv_wake (Z := gmOf P w K mg base N qual scope f cdv Aw outer s H [(s1.heap.objs.size, go)] YS Cn) (i := ⟨s, B, H, []⟩) (i' := ⟨cutN s.heap.objs.size s2, B, H, []⟩) rfl hcl I3 rfl e2 rfl hsz2 (fun _ e => e) I3.free fun p hp => let q := I3.pin p hp; ⟨q.1, q.2.1⟩
    have hd : ds.length = ps.length := by rw [← rB.len]; exact hl
    have st : SR (⟨K, P, w⟩ : Kx) B (Ix.F ⟨cutN s.heap.objs.size s2, B, H, []⟩) (ds.map Sl.fz ++ List.replicate (N.length - ds.length) .no) (start N vs) B H := by
      have eF : Ix.F ⟨cutN s.heap.objs.size s2, B, H, []⟩ = H := funext fun a => if_neg (by simp)
      have e : start N vs = vs.map some ++ List.replicate (N.length - ds.length) none := by unfold L2.start; rw [rB.len]
      rw [eF, e]
      exact (SR.start eB rB).more (N.length - ds.length)
    refine seg_func ?_
    refine seg_imp (R := fun n s0 r s' => ((r = .ok (.ret .none) ∨ r = .ok .next) ∧ HFin P w outer s.heap.objs.size YS Cn s0 s') ∨ ∃ e, r = .error e ∧ False) (Y := (gmOf P w K mg base N qual scope f cdv Aw outer s H [(s1.heap.objs.size, go)] YS Cn).Y) (fun n s0 r s' hR => hR) (fun n s0 v s' kap kap' hkk hY => ?_) sizeLine ?_
    · obtain ⟨i, ip, ρ, σ, B5, H5, ys, xv, d, hV, hn, rv, rd, hp, ⟨I, sr⟩, hk⟩ := hY
      obtain ⟨O, hO, wk⟩ := sr_wake sr
      obtain ⟨m, ⟨oL, es, ep, hoL, hdL, _⟩, _⟩ := id I.loc
      have hLf : (gmOf P w K mg base N qual scope f cdv Aw outer s H [(s1.heap.objs.size, go)] YS Cn).X.env.locals ∉ frs outer := fun z => by
        obtain ⟨_, o, ho, _⟩ := I.ok.funs.mem z
        exact absurd (Nat.lt_of_lt_of_le (Heap.lt_size ho) I.ok.above) (Nat.lt_irrefl _)
      have hgo := I.pin (s1.heap.objs.size, go) (List.mem_append_left _ (List.mem_singleton.mpr rfl))
      refine ⟨i, B5, H5, ys, xv, d, ((envOfC qual scope s.heap.objs.size f cdv).locals, oL) :: ((gmOf P w K mg base N qual scope f cdv Aw outer s H [(s1.heap.objs.size, go)] YS Cn).X.pn ++ ip), O, hV.1, hV.2, hn, rv, rd, hp, ⟨I.os, I.bare, I.base, I.hok, sr.fin⟩, I.nolimit, hgen _ hgo.1, hO, fun p hp => ?_, ⟨go, List.mem_cons_of_mem _ (List.mem_append_left _ (List.mem_singleton.mpr rfl))⟩, fun A' B' H' s'' e0' hz e1' e2' ho hpl hC' => hkk _ _ (hk ⟨cutN s.heap.objs.size s'', B', H', O⟩ s'' ⟨cut_size hz, hC'⟩ e1' ⟨?_, wk _ B' H' e1' e2' ho⟩)⟩
      · rcases List.mem_cons.mp hp with z | z
        · subst z; exact ⟨hoL, I.free, hLf, fun v q => by rw [hdL] at q; cases q⟩
        · obtain ⟨q1, q2, _, q4, q5⟩ := I.pin p z
          exact ⟨q1, q2, q4, q5⟩
      · refine inv_wake rfl hcl I hV.1 e0' rfl hz (fun o e => ?_) (hpl _ List.mem_cons_self).2 fun p hp => hpl p (List.mem_cons_of_mem _ hp)
        have : o = oL := Option.some.inj (e.symm.trans hoL)
        subst this
        exact (hpl _ List.mem_cons_self).1
    · refine (hb cdv Aw outer s H [(s1.heap.objs.size, go)] YS Cn (hrw.deeper _)).run Aw [] _ sizeLine [] s2 _ [] _ _ id id s2 ⟨cutN s.heap.objs.size s2, B, H, []⟩ _ _ B H (fun r => ∃ ρ, r = (YS, .nx ρ)) ⟨cut_size hsz2, hC⟩ ⟨over_func, rfl, rfl, rfl⟩ (Nat.add_zero _) ⟨I4, st⟩ (hle ds YS hd hR) ⟨fun n ys s0 s' i fl hV hn hs => ?_, fun n ys s0 e s' i hV hx => ?_⟩
      · cases fl with
        | next =>
          obtain ⟨ρ', σ', B', H', _, ⟨I', sr'⟩, ρ2, q⟩ := hs
          obtain rfl : ys = YS := congrArg Prod.fst q
          exact seg_end (.ok (.ret .none)) (.inl ⟨.inl rfl, i, B', H', hV.1, hV.2, I'.os, I'.bare, I'.base, I'.hok, sr'.fin⟩)
        | brk => obtain ⟨_, _, _, _, _, _, ρ2, q⟩ := hs; cases congrArg Prod.snd q
        | cont => obtain ⟨_, _, _, _, _, _, ρ2, q⟩ := hs; cases congrArg Prod.snd q
        | ret u => obtain ⟨_, _, _, _, _, _, _, _, _, ρ2, q⟩ := hs; cases congrArg Prod.snd q
      · refine seg_wrap ?_
        rw [over_func]
        have hx : (gcxOf P w K mg base N qual scope f cdv Aw outer i.s i.H E0 [(s1.heap.objs.size, go)]).xe e s' := hx
        have hx : wpAny (model P w) (Aw.deeper (envOfC qual scope i.s.heap.objs.size f cdv)) (leaving (envOfC qual scope i.s.heap.objs.size f cdv) e) (fun _ s'' => L2.CX P w outer i.H i.s E0 e s'' ∧ _) (fun _ _ => False) s' := hx
        rw [show i.s.heap.objs.size = s.heap.objs.size from hV.1] at hx
        exact wpAny_mono hx (fun _ s'' q => (cx_never q.1).elim) fun _ s'' q => q.elim
  exact main _ _ _ _ rfl rfl rfl fun h => Heap.get?_push_size _ rfl
end Mv

namespace Mv
open PySem L2 PyProof.Rows GenW
/-- what is kept for it: the own objects of the sleeper -/
def plO (F : Hp) (O : List Addr) (H : Hp) : Hp := fun a => if a ∈ O then H a else F a
section
variable {Zk : Kx} {B0 F B H B' H' : Hp} {ρ : Mv.Env} {σ : L2.St} {O : List Addr}
theorem sr_un (s : SR Zk B0 (plO F O H) ρ σ B H') (hO : ∀ a ∈ O, F a = none) : SR Zk B0 F ρ σ B H' := by
  obtain ⟨fps, k, nd, hf⟩ := s.sl
  refine ⟨s.ex, s.bh, fun a o n h => s.fr a o n ?_, fps, k, nd, fun a ha => ⟨(hf a ha).1, ?_⟩⟩
  · show (if a ∈ O then H a else F a) = some o
    rw [if_neg fun z => by rw [hO a z] at h; cases h]; exact h
  · by_cases z : a ∈ O
    · exact hO a z
    · have q : (if a ∈ O then H a else F a) = none := (hf a ha).2
      rw [if_neg z] at q; exact q
theorem gr_un (g : Gr B0 (plO F O H) B H') (hO : ∀ a ∈ O, F a = none) : Gr B0 F B H' := ⟨g.b, g.bh, fun a o n h => g.h a o n (by
  show (if a ∈ O then H a else F a) = some o
  rw [if_neg fun z => by rw [hO a z] at h; cases h]; exact h)⟩
/-- behind a piece of the generator's run: the consumer's own still stands -/
theorem sr_aft {i : Ix} (s : SR Zk B0 (plO F i.O i.H) ρ σ i.B i.H) (hO : ∀ a ∈ i.O, F a = none) (hOi : ∀ a ∈ i.O, i.H a ≠ none) (g : Gr i.B i.F B H) {O' : List Addr} (hO' : ∀ a ∈ O', B a = none ∧ i.F a = none ∧ ∃ u, H a = some u) :
    SR Zk B0 (plO F O' H) ρ σ B H ∧ ∀ a ∈ O', F a = none := by
  obtain ⟨fps, k, nd, hf⟩ := s.sl
  have own : ∀ a ∈ fps, a ∉ i.O ∧ F a = none ∧ ∃ u, i.F a = some u ∧ i.H a = some u := fun a ha => by
    have q : (if a ∈ i.O then i.H a else F a) = none := (hf a ha).2
    have hn : a ∉ i.O := fun z => by rw [if_pos z] at q; exact hOi a z q
    rw [if_neg hn] at q
    obtain ⟨u, hu⟩ := k.has a ha
    exact ⟨hn, q, u, (if_neg hn).trans hu, hu⟩
  have old : ∀ a o, B0 a = none → F a = some o → i.F a = some o ∧ i.B a = none := fun a o n h => by
    have hn : a ∉ i.O := fun z => by rw [hO a z] at h; cases h
    obtain ⟨q1, q2⟩ := s.fr a o n ((if_neg hn).trans h)
    exact ⟨(if_neg hn).trans q1, q2⟩
  have hF' : ∀ a ∈ O', F a = none := fun a ha => by
    cases q : F a with
    | none => rfl
    | some o =>
      obtain ⟨h1, h2, _⟩ := hO' a ha
      have n0 : B0 a = none := (s.ex.trans g.b).no h1
      rw [(old a o n0 q).1] at h2; cases h2
  refine ⟨⟨s.ex.trans g.b, g.bh, fun a o n h => ?_, fps, k.heap g.b.lg fun a ha => ?_, nd, fun a ha => ⟨?_, ?_⟩⟩, hF'⟩
  · by_cases z : a ∈ O'
    · have h : (if a ∈ O' then H a else F a) = some o := h
      rw [if_pos z] at h
      exact ⟨h, (hO' a z).1⟩
    · have h : (if a ∈ O' then H a else F a) = some o := h
      rw [if_neg z] at h
      obtain ⟨q1, q2⟩ := old a o n h
      exact g.h a o q2 q1
  · obtain ⟨_, _, u, h1, h2⟩ := own a ha
    rw [h2]; exact (g.h a u (hf a ha).1 h1).1
  · obtain ⟨_, _, u, h1, h2⟩ := own a ha
    exact (g.h a u (hf a ha).1 h1).2
  · obtain ⟨_, hFn, u, h1, h2⟩ := own a ha
    show (if a ∈ O' then H a else F a) = none
    rw [if_neg fun z => by rw [(hO' a z).2.1] at h1; cases h1]; exact hFn
end
/-- one turn: the target is set, the suite runs; where it goes on, no generator has moved -/
structure PTurn (X : Cx) (tg : Expr) (body : List Stmt) (tb : V → TS) : Prop where
  run : ∀ (pins : List (Addr × Obj)) (s : Shared) (σ : L2.St) (H : Hp) (D : Ends) (x : V) (u : Value), Inv X pins σ H s → RelV x u → tb x D σ H →
    wpAny (model X.prog X.w) X.A (assign tg X.env u) (fun _ s6 => wpAny (model X.prog X.w) X.A (execs body X.env) (fun f s7 => SP X pins D f s7 ∧ ((f = .next ∨ f = .cont) → s7.gens = s.gens)) X.xe s6) X.xe s
structure EvTurn (Z : Kx) (E : XS) (tb : V → TS) (m : Dt → Mv.Env → Wp Fl) : Prop where
  mn : ∀ d ρ, Mn (m d ρ)
  run : ∀ B0 F ρ σ B H (D : Ends) (x : V) (d : Dt), SR Z B0 F ρ σ B H → Rp Z B x d → m d ρ (PostS Z B0 F D) (PostXs Z B0 F E) → tb x D σ H
def MTurn (X : Cx) (E : XS) (tg : Expr) (body : List Stmt) (m : Dt → Mv.Env → Wp Fl) : Prop := ∃ tb, PTurn X tg body tb ∧ EvTurn (kx X) E tb m
section
variable {X : Cx} {E : XS} {tg : Expr} {body : List Stmt}
end
end Mv

namespace Mv
open PySem L2 PyProof.Rows GenW
def OwnH (P : Program) (w : World) (K : PySem.W.Frag) (mg : Str → Option Value) (base : Heap) (k : Nat) (x : Str) (n : Nat) (R : List Dt → List Dt → Prop) : Prop :=
  ∃ f fd ps, HFn P w K mg base k f fd ps R ∧ ps.length = n ∧ mg x = some (.ref f) ∧ PySem.W.keepIn K (.ref f) = true ∧ Binds K fd ps []
def relY (R : List Dt → List Dt → Prop) (ds : List Dt) : Wp (List Dt) := fun Q _ => ∃ YS, R ds YS ∧ Q YS
def norsW (m : Wp Fl) : Wp Fl := m.bind fun f => match f with
  | .rs _ _ => .bad
  | f => .ret f
theorem mn_norsW {m : Wp Fl} (h : Mn m) : Mn (norsW m) := mn_bind h fun f => by cases f <;> first | exact mn_ret | exact mn_bad
def norsB (m : Dt → Mv.Env → Wp Fl) : Dt → Mv.Env → Wp Fl := fun d ρ => norsW (m d ρ)
theorem mn_relY (R : List Dt → List Dt → Prop) (ds : List Dt) : Mn (relY R ds) := fun _ _ _ _ h _ ⟨YS, r, q⟩ => ⟨YS, r, h _ q⟩
section
variable {X : Cx} {pins : List (Addr × Obj)} {σ : L2.St} {H : Hp} {s : Shared}
theorem inv_setG {g : Nat} {x : GenState} (I : Inv X pins σ H s) (hx : x.bare = true) : Inv X pins σ H (s.setGen g x) :=
  I.call' (ch := []) rfl (Un.kept fun _ _ e => e) I.hok (allBare_setGen I.bare hx) fun b z => by simp at z
/-- the consumer's invariant behind a piece of the generator's run -/
theorem inv_aft {n0 : Nat} {i : Ix} {B' H' : Hp} {s1 : Shared} (I : Inv X pins σ i.H s) (hi : i.s = cutN n0 s) (h : HAft X.prog X.w X.stack i B' H' s1) (h1 : X.s_0.heap.objs.size ≤ n0) (h2 : @LT.lt Nat _ X.env.locals n0) (h3 : ∀ x c, X.env.cells.lookup x = some c → @LT.lt Nat _ c n0) (h4 : ∀ p ∈ X.pn ++ pins, @LT.lt Nat _ p.1 n0) : Inv X pins σ H' s1 := by
  obtain ⟨os, bare, un, hok, _⟩ := h
  rw [hi] at un os
  have hm : ∀ b, b ∈ (List.range s.heap.objs.size).filter (fun b => decide (n0 ≤ b)) ↔ (b < s.heap.objs.size ∧ n0 ≤ b) := fun b => by simp
  have low : ∀ b o, s.heap.get? b = some o → b ∉ (List.range s.heap.objs.size).filter (fun b => decide (n0 ≤ b)) → (cutN n0 s).heap.get? b = some o := fun b o q hb => by
    have hl : @LT.lt Nat _ b s.heap.objs.size := Heap.lt_size q
    exact cut_at (Nat.lt_of_not_le fun z => hb ((hm b).mpr ⟨hl, z⟩)) q
  refine I.call' (ch := (List.range s.heap.objs.size).filter (fun b => decide (n0 ≤ b))) os ⟨fun b o q n hb hc => un.keep b o (low b o q hc) n hb (by simp), fun b o q n hb hc => un.slot b o (low b o q hc) n hb (by simp), fun b o q n hc => un.free b o (low b o q hc) n (by simp), fun b o q hc => un.there b o (low b o q hc) (by simp), un.tups, un.frzs, un.tbls⟩ hok bare fun b hb => ?_
  obtain ⟨q1, q2⟩ := (hm b).mp hb
  exact ⟨.inr (Nat.le_trans h1 q2), fun z => by rw [z] at q2; exact absurd (Nat.lt_of_lt_of_le h2 q2) (Nat.lt_irrefl _), fun x c e z => by have := h3 x c e; rw [z] at this; exact absurd (Nat.lt_of_lt_of_le this q2) (Nat.lt_irrefl _), fun p hp z => by have := h4 p hp; rw [z] at this; exact absurd (Nat.lt_of_lt_of_le this q2) (Nat.lt_irrefl _)⟩
end
section
variable {X : Cx} {E : XS} {k n : Nat} {x : Str} {e : Expr} {es : List Expr} {p p' pos pos' : Pos} {tg : Expr} {body : List Stmt}
theorem ms_forY {R : List Dt → List Dt → Prop} {ma : Mv.Env → Wp (List Dt)} {mB : Dt → Mv.Env → Wp Fl} (hp : PassesOwn (model X.prog X.w) X.A X.env X.xe) (hc : X.calm = true) (O : OwnH X.prog X.w X.K X.mg X.base k x n R) (hr : Room (k + 1) X.A) (ha : MAn X E (e :: es) n ma) (hb : MTurn X E tg body mB)
    (hg : Gl X x := by rfl) (hdb : (x == ("__debug__" : Str)) = false := by decide) (he : starEach (e :: es) X.env = (false, eval e X.env) :: starEach es X.env := by rfl) (hpl : (backTo pos' (starEach es X.env)).any (·.1) = false := by rfl)
    (hst : X.stack = X.env :: X.outer := by rfl) (hfr : X.env.frame = some X.env.locals := by rfl) (hs : ∀ v, foldedSetIterable (.Call (.Name x p') (e :: es) [] pos') X.env v = pure v := by intro _; rfl) :
    MS X E (.For tg (.Call (.Name x p') (e :: es) [] pos') body [] pos) (fun ρ => (ma ρ).bind fun ds => (relY R ds).bind fun YS => forL (norsB mB) YS ρ) := by
  obtain ⟨f, fd, ps, Fn, hpsl, hm, hk, hbi⟩ := O
  obtain ⟨⟨ta, pa, va⟩, ln⟩ := ha
  obtain ⟨tb, pb, vb⟩ := hb
  have hM : ∀ ρ, Mn ((ma ρ).bind fun ds => (relY R ds).bind fun YS => forL (norsB mB) YS ρ) := fun ρ => mn_bind (va.mn ρ) fun ds => mn_bind (mn_relY R ds) fun YS => mn_forL (fun d ρ => mn_norsW (vb.mn d ρ)) YS ρ
  refine ⟨fun D σ H => ∃ B0 F ρ B, SR (kx X) B0 F ρ σ B H ∧ ((ma ρ).bind fun ds => (relY R ds).bind fun YS => forL (norsB mB) YS ρ) (PostS (kx X) B0 F D) (PostXs (kx X) B0 F E), ⟨fun pins s σ H D I h => ?_⟩, hM, fun B0 F ρ σ B H D sr q => ⟨B0, F, ρ, B, sr, q⟩⟩
  obtain ⟨B0, F, ρ, B, sr, q⟩ := h
  have hta : ta σ H (fun vs H1 => ∃ B1 ds YS, Gr B H B1 H1 ∧ RpAll (kx X) B1 vs ds ∧ ds.length = n ∧ R ds YS ∧ forL (norsB mB) YS ρ (PostS (kx X) B0 F D) (PostXs (kx X) B0 F E)) := by
    refine va.run B0 F ρ σ B H _ sr (va.mn ρ _ _ _ _ (fun ds z vs B1 H1 g r => ?_) (fun _ z => z.sr sr) (ln.len ρ _ _ q))
    obtain ⟨hl, YS, hR, z⟩ := z
    exact ⟨B1, ds, YS, g, r, hl, hR, z⟩
  refine wpAny_For ?_ hs
  refine wpAny_Call_Name_kw (ld_glob I hg hm ?_ hdb)
  refine PySem.W.callWith_K (h₀ := X.base) I.ok.mod.kin hk (thn (pa.run pos' pins s σ H _ I hta) fun us s1 ⟨vs, H1, I1, r, B1, ds, YS, g1, rB, hl, hR, q1⟩ => ⟨I1.kIn, ?_⟩) he hpl
  have hul : us.length = ps.length := by rw [← r.length, rB.len, hl, hpsl]
  have sr1 := sr.gr g1
  refine wpAny_call (codeAny_mono (Fn.run X.A X.stack s1 H1 B1 ⟨us, []⟩ (us ++ []) vs ds YS (hr.mono (by omega)) I1.env0 (hbi s1 us I1.kIn (by rw [List.append_nil]; exact hul)) (by rw [List.append_nil]; exact r) (by rw [r.length]; exact hul) sr1.bh rB hR) fun rr s2 hq => ?_)
  cases rr with
  | error e => exact hq.elim
  | ok fl =>
  cases fl with
  | next => exact hq.elim
  | brk => exact hq.elim
  | cont => exact hq.elim
  | ret u =>
  obtain ⟨a, g, c, rfl, ha1, ha2, hg2, hgs2, os2, bare2, nl2, kp2, wake2⟩ := hq
  refine wpAny_pyIter_gen hg2 ?_
  -- the old objects
  have o1 : X.s_0.heap.objs.size ≤ s1.heap.objs.size := I1.sz
  have o2 : @LT.lt Nat _ X.env.locals s1.heap.objs.size := I1.lt
  have o3 : ∀ x c, X.env.cells.lookup x = some c → @LT.lt Nat _ c s1.heap.objs.size := fun x c e => by
    obtain ⟨v, hv⟩ := I1.cell x c e
    exact hv.lt
  have o4 : ∀ p ∈ X.pn ++ pins, @LT.lt Nat _ p.1 s1.heap.objs.size := fun p hp => Heap.lt_size (I1.pin p hp).1
  have inP : ∀ b, b ∉ frs X.stack → b ≠ X.env.locals ∧ b ∉ X.fs := fun b hb => by
    rw [hst] at hb
    refine ⟨fun z => hb ?_, fun z => hb ?_⟩
    · rw [z]; exact List.mem_filterMap.mpr ⟨X.env, List.mem_cons_self, hfr⟩
    · obtain ⟨en, h1, h2⟩ := List.mem_filterMap.mp z
      exact List.mem_filterMap.mpr ⟨en, List.mem_cons_of_mem _ h1, h2⟩
  let Cn : Tie := fun ys i s0 => i.s = cutN s1.heap.objs.size s0 ∧ (∀ b ∈ i.O, F b = none) ∧ (∀ b ∈ i.O, i.H b ≠ none) ∧ ∃ σ ρ, Inv X pins σ i.H s0 ∧ SR (kx X) B0 (plO F i.O i.H) ρ σ i.B i.H ∧ forL (norsB mB) (YS.drop ys.length) ρ (PostS (kx X) B0 F D) (PostXs (kx X) B0 F E)
  have hrm : Room k X.A.in1 := ⟨hr.hd, by have := hr.dp; show X.A.depth + 3 * k + 5 < _; omega, by have := hr.un; show X.A.units + 1 + 16 * k + 200 < _; omega⟩
  refine codeAny_forLoop_any (fun m s' => s'.heap.NoLimit ∧ s'.heap.IsGen a g ∧ ∃ gs, s'.gens[g]? = some gs ∧ gs.Goes (model X.prog X.w) X.A.in1 (HEnd X.prog X.w X.stack s1.heap.objs.size YS Cn) (HItem X.prog X.w X.K X.mg X.base X.stack s1.heap.objs.size a g YS Cn) m (.send .none) (s'.setGen g .running)) ?_ sizeLine ⟨nl2, hg2, _, hgs2, rfl, ?_⟩
  · intro m s3 ⟨hl3, hg3, gs, hgs3, hgo⟩
    have hgl : g < s3.gens.size := (Array.getElem?_eq_some_iff.mp hgs3).1
    refine wpAny_passesOwn hp (wpAny_gsz (n := g + 1) hgl (next_genG (A := X.A) (F := fun _ s0 s' => HFin X.prog X.w X.stack s1.heap.objs.size YS Cn s0 s') (Er := fun _ _ => False) (Y := HItem X.prog X.w X.K X.mg X.base X.stack s1.heap.objs.size a g YS Cn) hr.hd hl3 (by have := hr.dp; omega) hg3 hgs3 hgo (fun v s4 gs' hbare hv => ?_) (fun s4 hfin h' hk' => ?_) fun e s4 z => z.elim))
    · intro hsz
      obtain ⟨i, B5, H5, ys, xv, d, pl, O5, hi, ⟨e1, hOF, hOH, σ5, ρ5, I5, sr5, q5⟩, hn5, rv, rd, hpre, haft, nl5, hg5, hO5, hpl5, ⟨go, hgo5⟩, wake5⟩ := hv
      have I6 : Inv X pins σ5 H5 (s4.setGen g gs') := inv_setG (inv_aft I5 e1 haft o1 o2 o3 o4) hbare
      obtain ⟨sr6, hOF6⟩ := sr_aft sr5 hOF hOH haft.2.2.2.2 hO5
      have I6' : Inv X (pins ++ pl) σ5 H5 (s4.setGen g gs') := I6.pins_of fun p hp => (List.mem_append.mp hp).elim (fun z => I6.pin p (List.mem_append_right _ z)) fun z => by
        obtain ⟨q1, q2, q3, q4⟩ := hpl5 p z
        exact ⟨q1, q2, (inP _ q3).1, (inP _ q3).2, q4⟩
      obtain ⟨tl, hYS⟩ := hpre
      have ed : YS.drop ys.length = d :: YS.drop (ys ++ [d]).length := by
        rw [← hYS, List.append_assoc, List.drop_left]
        rw [List.length_append, List.length_singleton, ← List.append_assoc]
        rw [show ys.length + 1 = (ys ++ [d]).length by simp, List.drop_left]
        rfl
      rw [ed] at q5
      obtain ⟨F', r0, bg, back, hF'⟩ := sr6.rootF
      have ownO : ∀ b ∈ O5, F' b = H5 b := fun b hb => by
        obtain ⟨z1, _, u, hu⟩ := hO5 b hb
        cases zz : F' b with
        | none =>
          have := hF' b z1 zz
          have : (if b ∈ O5 then H5 b else F b) = none := this
          rw [if_pos hb, hu] at this; cases this
        | some o => exact ((r0.fr b o z1 zz).1).symm
      have ht : tb xv { nx := fun σ7 H7 => ∃ ρ7 B7, SR (kx X) B5 F' ρ7 σ7 B7 H7 ∧ forL (norsB mB) (YS.drop (ys ++ [d]).length) ρ7 (PostS (kx X) B0 F D) (PostXs (kx X) B0 F E), ct := fun σ7 H7 => ∃ ρ7 B7, SR (kx X) B5 F' ρ7 σ7 B7 H7 ∧ forL (norsB mB) (YS.drop (ys ++ [d]).length) ρ7 (PostS (kx X) B0 F D) (PostXs (kx X) B0 F E), bk := D.nx, rt := D.rt } σ5 H5 := by
        refine vb.run B5 F' ρ5 σ5 B5 H5 _ xv d r0 rd (vb.mn d ρ5 _ _ _ _ (fun fl z => ?_) (fun xn z τ c o B' H' g r => z τ c o B' H' (gr_un (bg _ _ g) hOF6) r) q5)
        cases fl with
        | nx ρ7 => exact fun σ7 B7 H7 w7 => ⟨ρ7, B7, w7, z⟩
        | ct ρ7 => exact fun σ7 B7 H7 w7 => ⟨ρ7, B7, w7, z⟩
        | bk ρ7 => exact fun σ7 B7 H7 w7 => z σ7 B7 H7 (sr_un (back _ _ _ _ w7) hOF6)
        | rt d7 => exact fun v7 B7 H7 w7 r7 => z v7 B7 H7 (gr_un (bg _ _ w7) hOF6) r7
        | rs d7 S7 => exact z.elim
      obtain ⟨og, nm, qn, hog, hcg, hdg, hsg⟩ := id hg5
      refine go_of (s := s4.setGen g gs') hog hcg hdg (by decide) ?_
      refine wpAny_passesOwn hp (wpAny_mono (pb.run (pins ++ pl) (s4.setGen g gs') σ5 H5 _ xv v I6' rv ht) (fun _ s6 h6 => wpAny_passesOwn hp (wpAny_mono h6 (fun fl s7 h7 => ?_) fun _ _ z => z)) fun _ _ z => z)
      have again : ∀ {σ7 : L2.St} {H7 : Hp}, Inv X (pins ++ pl) σ7 H7 s7 → s7.gens = (s4.setGen g gs').gens → (∃ ρ7 B7, SR (kx X) B5 F' ρ7 σ7 B7 H7 ∧ forL (norsB mB) (YS.drop (ys ++ [d]).length) ρ7 (PostS (kx X) B0 F D) (PostXs (kx X) B0 F E)) →
          ∃ m', m' < m ∧ s7.heap.NoLimit ∧ s7.heap.IsGen a g ∧ ∃ gs, s7.gens[g]? = some gs ∧ gs.Goes (model X.prog X.w) X.A.in1 (HEnd X.prog X.w X.stack s1.heap.objs.size YS Cn) (HItem X.prog X.w X.K X.mg X.base X.stack s1.heap.objs.size a g YS Cn) m' (.send .none) (s7.setGen g .running) := fun {σ7 H7} I7 hgens ⟨ρ7, B7, sr7, q7⟩ => by
        have pin7 : ∀ p ∈ pl, s7.heap.get? p.1 = some p.2 ∧ H7 p.1 = none := fun p hp => by
          have z := I7.pin p (List.mem_append_right _ (List.mem_append_right _ hp))
          exact ⟨z.1, z.2.1⟩
        have I8 : Inv X pins σ7 H7 (s7.setGen g .running) := inv_setG I7.unpinned rfl
        have own7 : ∀ b ∈ O5, H7 b = H5 b ∧ B7 b = none := fun b hb => by
          obtain ⟨z1, _, u, hu⟩ := hO5 b hb
          obtain ⟨y1, y2⟩ := sr7.fr b u z1 ((ownO b hb).trans hu)
          exact ⟨y1.trans hu.symm, y2⟩
        have hsz7 : s1.heap.objs.size ≤ s7.heap.objs.size := by
          have h1 : @LT.lt Nat _ a s7.heap.objs.size := Heap.lt_size (pin7 _ hgo5).1
          exact Nat.le_of_lt (Nat.lt_of_le_of_lt ha1 h1)
        have kap := wake5 X.A B7 H7 (s7.setGen g .running) I8.env0 hsz7 sr7.ex sr7.bh own7 pin7 ⟨rfl, hOF6, (fun b hb z => by
            obtain ⟨_, _, u, hu⟩ := hO5 b hb
            have z : H7 b = none := z
            rw [(own7 b hb).1, hu] at z; cases z), σ7, ρ7, I8, (by
            have e : plO F O5 H7 = plO F O5 H5 := funext fun b => by
              show (if b ∈ O5 then H7 b else F b) = if b ∈ O5 then H5 b else F b
              by_cases z : b ∈ O5
              · rw [if_pos z, if_pos z, (own7 b z).1]
              · rw [if_neg z, if_neg z]
            show SR (kx X) B0 (plO F O5 H7) ρ7 σ7 B7 H7
            rw [e]; exact back _ _ _ _ sr7), q7⟩
        cases m with
        | zero => exact kap.elim
        | succ m =>
          refine ⟨m, Nat.lt_succ_self _, I7.nolimit, ?_, gs', ?_, kap⟩
          · obtain ⟨z1, _⟩ := pin7 _ hgo5
            have : og = go := Option.some.inj (hog.symm.trans (hpl5 _ hgo5).1)
            exact ⟨og, nm, qn, by rw [this]; exact z1, hcg, hdg, hsg⟩
          · rw [hgens]
            have q : (s4.setGen g gs').gens.size = s4.gens.size := setGen_size _ _ _
            have hsz' : g + 1 ≤ (s4.setGen g gs').gens.size := hsz
            exact setGen_at (by omega)
      cases fl with
      | next => obtain ⟨⟨σ7, H7, I7, q7⟩, hg7⟩ := h7; exact again I7 (hg7 (.inl rfl)) q7
      | cont => obtain ⟨⟨σ7, H7, I7, q7⟩, hg7⟩ := h7; exact again I7 (hg7 (.inr rfl)) q7
      | brk => obtain ⟨⟨σ7, H7, I7, q7⟩, _⟩ := h7; exact ⟨σ7, H7, I7.unpinned, q7⟩
      | ret v => obtain ⟨⟨v7, σ7, H7, I7, r7, q7⟩, _⟩ := h7; exact ⟨v7, σ7, H7, I7.unpinned, r7, q7⟩
    · intro _
      obtain ⟨i, B5, H5, hi, ⟨e1, hOF, hOH, σ5, ρ5, I5, sr5, q5⟩, haft⟩ := hfin
      have I6 : Inv X pins σ5 H5 (s4.setGen g .finished) := inv_setG (inv_aft I5 e1 haft o1 o2 o3 o4) rfl
      have I7 : Inv X pins σ5 H5 { s4.setGen g .finished with heap := h' } := I6.call' (ch := []) rfl (Un.kept hk') (I6.hok.kept hk') I6.bare fun b z => by simp at z
      obtain ⟨sr6, hOF6⟩ := sr_aft (O' := []) sr5 hOF hOH haft.2.2.2.2 fun b hb => by simp at hb
      rw [List.drop_length] at q5
      exact wpAny_execs_nil ⟨σ5, H5, I7, q5 σ5 B5 H5 (sr_un sr6 hOF6)⟩
  · have I8 : Inv X pins σ H1 (s2.setGen g .running) := I1.call' (ch := []) os2 (Un.kept kp2) (I1.hok.kept kp2) (allBare_setGen bare2 rfl) fun b z => by simp at z
    refine wake2 X.A.in1 Cn (s2.setGen g .running) hrm ⟨I8.env0.frames, I8.env0.mod, I8.env0.bs, I8.env0.bsz, I8.env0.funs, I8.env0.frf, I8.env0.hok, I8.env0.bare⟩ (fun _ _ e => e) os2 ⟨rfl, fun b hb => by simp at hb, fun b hb => by simp at hb, σ, ρ, I8, ?_, q1⟩
    have e : plO F [] H1 = F := funext fun b => if_neg (by simp)
    show SR (kx X) B0 (plO F [] H1) ρ σ B1 H1
    rw [e]; exact sr1
end
end Mv

namespace Mv
open PySem L2 PyProof.Rows GenW
section
variable {X : Cx} {pins : List (Addr × Obj)} {σ : L2.St} {H : Hp} {s : Shared}
theorem store_g {M : Model} {A : Around} {E : Value → Shared → Prop} {i : Nat} {x : Str} {v : V} {u : Value} {Q : Unit → Shared → Prop} (I : Inv X pins σ H s) (hN : X.N.Nodup) (hi : X.N[i]? = some x) (hk : X.env.scope.names.lookup x = some .local) (r : RelV v u)
    (h : ∀ s', Inv X pins (σ.set i (some v)) H s' → s'.gens = s.gens → Q () s') : wpAny M A (storeName X.env x u) Q E s := by
  obtain ⟨m, hn, hl⟩ := id I.loc
  have hcls : (X.env.scope.kind == .class || (X.env.scope.kind == .module && X.env.locals != X.env.globals)) = false := by rw [I.ok.kind]; rfl
  have hiσ : i < σ.length := by rw [I.len]; exact (List.getElem?_eq_some_iff.mp hi).1
  refine wpAny_storeName_local hk hn (fun h' hn' hs => h _ ?_ rfl) hcls
  have far : ∀ b o, X.s_0.heap.get? b = some o → b ≠ X.env.locals := fun b o e => Nat.ne_of_lt (Nat.lt_of_lt_of_le (Heap.lt_size e) I.ok.above)
  have same : ∀ b, b ≠ X.env.locals → h'.get? b = s.heap.get? b := fun b hb => hs.2 b hb
  refine ⟨I.ok, I.os, I.bare, ⟨fun b o e n hb hx => (same b (far b o e)).trans (I.base.keep b o e n hb hx), fun b o e n hb hx => ?_, I.base.free, fun b o e hx => ?_, I.base.tups, I.base.frzs, I.base.tbls⟩, ⟨_, hn', fun j y v' e1 e2 e3 => ?_⟩, fun y c e => ?_, I.free, I.freeC, fun p hp => ?_, fun b ob e => ?_, by simpa using I.len⟩
  · obtain ⟨sl, q⟩ := I.base.slot b o e n hb hx
    exact ⟨sl, (same b (far b o e)).trans q⟩
  · obtain ⟨o', q⟩ := I.base.there b o e hx
    exact ⟨o', (same b (far b o e)).trans q⟩
  · by_cases hj : j = i
    · subst hj
      obtain rfl : x = y := Option.some.inj (hi.symm.trans e1)
      rw [List.getElem?_set_self hiσ] at e2
      obtain rfl : v = v' := Option.some.inj (Option.some.inj e2)
      exact ⟨u, r, .inl ⟨hk, by simp⟩⟩
    · rw [List.getElem?_set_ne (Ne.symm hj)] at e2
      obtain ⟨u', r', q⟩ := hl j y v' e1 e2 e3
      refine ⟨u', r', q.imp (fun ⟨k1, e⟩ => ⟨k1, ?_⟩) fun ⟨k1, c, e, z⟩ => ⟨k1, c, e, z.sameBut hs (I.cne y c e)⟩⟩
      have hyx : y ≠ x := fun e => hj (nodup_ix hN e1 (e ▸ hi))
      simp [hyx, e]
  · obtain ⟨w', z⟩ := I.cell y c e
    exact ⟨w', z.sameBut hs (I.cne y c e)⟩
  · obtain ⟨e, n, ne, nf, d⟩ := I.pin p hp
    exact ⟨(same p.1 ne).trans e, n, ne, nf, d⟩
  · refine (I.hok b ob e).stay (fun c w' hc q => (same c fun z => ?_).trans q) (fun _ q => q) fun _ _ q => q
    rw [z] at hc
    rcases hc with hc | hc
    · rw [← hc, I.free] at e; cases e
    · rw [I.free] at hc; cases hc
/-- a local name, read: nothing changes -/
theorem var_g {M : Model} {A : Around} {i : Nat} {x : Str} {v : V} {pos : Pos} (I : Inv X pins σ H s) (hN : X.N[i]? = some x) (hk : X.env.scope.names.lookup x = some .local) (e : σ[i]? = some (some v)) (hd : (x == ("__debug__" : Str)) = false := by decide) :
    ∃ u, RelV v u ∧ ∀ (Q : Value → Shared → Prop) (E : Value → Shared → Prop), Q u s → wpAny M A (eval (.Name x pos) X.env) Q E s := by
  obtain ⟨m, hn, hl⟩ := I.loc
  obtain ⟨u, r, l⟩ := hl i x v hN e (.inl hk)
  rcases l with ⟨k1, hm⟩ | ⟨k1, _⟩
  · exact ⟨u, r, fun Q E q => wpAny_Name (wpAny_loadName_local I.ok.kind k1 hn hm q) hd⟩
  · have k2 : X.env.scope.names.lookup x = some .cell ∨ X.env.scope.names.lookup x = some .free := k1
    rw [hk] at k2
    rcases k2 with z | z <;> cases z
end
section
variable {X : Cx} {E : XS} {x r : Str} {i j : Nat} {c : Int} {t1 : Nat} {q1 q2 q3 q4 q5 q6 q7 q8 q9 q10 q11 q12 q13 q14 : Pos}
def appW (i j : Nat) (c : Int) (d : Dt) (ρ : Mv.Env) : Wp Fl := (gL (ρ.set i (.fz d)) j).bind fun xs => .gd (xs.length + 1 < sizeLine) (if ((xs.length + 1 : Nat) : Int) = c then .ret (.bk ((ρ.set i (.fz d)).set j (.ol (xs ++ [d])))) else .ret (.nx ((ρ.set i (.fz d)).set j (.ol (xs ++ [d])))))
theorem mn_appW {i j : Nat} {c : Int} {d : Dt} {ρ : Mv.Env} : Mn (appW i j c d ρ) := mn_bind mn_gL fun xs => mn_gd (by split <;> exact mn_ret)
theorem mtn_app (hN : X.N.Nodup) (hgl : Gl X "len") (hml : X.mg "len" = none) (hi : X.N[i]? = some x := by rfl) (hj : X.N[j]? = some r := by rfl) (hkx : X.env.scope.names.lookup x = some .local := by rfl) (hkr : X.env.scope.names.lookup r = some .local := by rfl)
    (hdx : (x == ("__debug__" : Str)) = false := by decide) (hdr : (r == ("__debug__" : Str)) = false := by decide)
    (hbase : attributeBase (.Name r q2) "append" X.env (eval (.Name r q2) X.env) = eval (.Name r q2) X.env := by rfl)
    (hfew : ((backTo q5 (starEach [.Name x q4] X.env)).all (fun x => !x.1) && (backToKw q5 (keywordEach [] X.env)).all (fun x => x.1.isSome)
      && decide (([.Name x q4] : List Expr).length + ([] : List Keyword).length + (if ([] : List Keyword).isEmpty then 0 else 1) < 30)) = true := by rfl)
    (hline : (q3.endLine == q5.line) = true := by rfl) (htrees : backTo q5 (starEach [.Name x q4] X.env) = [(false, eval (.Name x q4) X.env)] := by rfl)
    (hs : swapsWith (.Call (.Attribute (.Name r q2) "append" q3) [.Name x q4] [] q5) none q6.line X.env = pure false := by rfl)
    (he : starEach [Expr.Name r q8] X.env = (false, eval (.Name r q8) X.env) :: starEach [] X.env := by rfl) (hpl : (backTo q9 (starEach [] X.env)).any (·.1) = false := by rfl)
    (hm : behindInMarks .Eq (.Constant (.int c) t1 q10) = false := by first | exact nobehind _ (by decide) (by decide) | rfl) :
    MTurn X E (.Name x q1) [.Expr (.Call (.Attribute (.Name r q2) "append" q3) [.Name x q4] [] q5) q6, .If (.Compare (.Call (.Name "len" q7) [.Name r q8] [] q9) [.Eq] [.Constant (.int c) t1 q10] q11) [.Break q12] [] q13] (appW i j c) := by
  refine ⟨fun v D σ H => ∃ l xs, (σ.set i (some v))[j]? = some (some (.ref l)) ∧ H l = some (.lst xs) ∧ xs.length + 1 < sizeLine ∧ (if ((xs.length + 1 : Nat) : Int) = c then D.bk (σ.set i (some v)) (upd H l (.lst (xs ++ [v]))) else D.nx (σ.set i (some v)) (upd H l (.lst (xs ++ [v])))), ⟨fun pins s σ H D v u I rv h => ?_⟩, fun d ρ => mn_appW, fun B0 F ρ σ B H D v d sr rd q => ?_⟩
  · obtain ⟨l, xs, el, hH, hz, hD⟩ := h
    have ei : (σ.set i (some v))[i]? = some (some v) := by rw [List.getElem?_set_self (by rw [I.len]; exact (List.getElem?_eq_some_iff.mp hi).1)]
    refine wpAny_assign_Name (store_g I hN hi hkx rv fun s1 I1 hg1 => ?_)
    obtain ⟨ul, rl, rdl⟩ := var_g (M := model X.prog X.w) (A := X.A) (pos := q2) I1 hj hkr el hdr
    obtain ⟨ux, rx, rdx⟩ := var_g (M := model X.prog X.w) (A := X.A) (pos := q4) I1 hi hkx ei hdx
    obtain rfl : ul = Value.ref l := rl
    obtain ⟨z, its, n, r0, hl, e⟩ := I1.lstM hH
    refine wpAny_execs_cons (wpAny_Expr_any (wpAny_Call_append hbase hfew hline htrees (rdl _ _ ⟨l, its.toArray, rfl, ⟨_, n, e, rfl, rfl, rfl⟩, rdx _ _ ?_⟩)) I1.quiet hs)
    refine call_meets F.slot_list_append ⟨_, e, rfl⟩ F.entry_list_append (F.args_list_append_2 _ _) (PySem.list_append l its.toArray n ux (by rw [List.size_toArray]; omega)) ⟨e, ?_⟩
    have I2 := I1.lset (its' := its ++ [ux]) (f := (·.push ux)) (t' := s1.toks) hH e (by simp) (r0.append (.cons rx .nil)) (by rw [List.length_append, List.length_singleton]; omega)
    have hl2 : upd H l (.lst (xs ++ [v])) l = some (.lst (xs ++ [v])) := upd_same
    obtain ⟨z2, its2, n2, r2, hl2', e2⟩ := I2.lstM hl2
    obtain ⟨ul2, rl2, rdl2⟩ := var_g (M := model X.prog X.w) (A := X.A) (pos := q8) I2 hj hkr el hdr
    obtain rfl : ul2 = Value.ref l := rl2
    refine wpAny_execs_cons (wpAny_If (wpAny_isTrue_Compare1 ?_ hm))
    refine wpAny_Call_Name_kw (ld_blt I2 hgl hml boot_len ?_)
    refine PyProof.Rows.callWith_builtin1 ?_ he hpl
    rw [he]
    refine Calls.spliced_cons (rdl2 _ _ (Calls.spliced_nil ?_))
    refine Calls.call_len_list (items := its2.toArray) ⟨_, e2, rfl, n2, rfl⟩ (by have := line63; simp only [List.size_toArray]; omega) ?_
    refine wpAny_Constant_int ?_
    refine eq_int ?_
    refine wpAny_truthy_bool ?_
    have hlen : ((its2.toArray.size : Nat) : Int) = ((xs.length + 1 : Nat) : Int) := by
      rw [List.size_toArray, ← hl2']; simp
    rw [hlen]
    by_cases hc : ((xs.length + 1 : Nat) : Int) = c
    · rw [if_pos hc] at hD
      rw [show (((xs.length + 1 : Nat) : Int) == c) = true from by simpa using hc, if_pos rfl]
      refine wpAny_execs_cons (wpAny_Break ?_)
      exact ⟨⟨_, _, (I2.tok _).tok _, hD⟩, fun z => by rcases z with z | z <;> cases z⟩
    · rw [if_neg hc] at hD
      rw [show (((xs.length + 1 : Nat) : Int) == c) = false from by simpa using hc, if_neg Bool.false_ne_true]
      refine wpAny_execs_nil ?_
      refine wpAny_execs_nil ?_
      exact ⟨⟨_, _, (I2.tok _).tok _, hD⟩, fun _ => hg1⟩
  · have s1 := sr.set (i := i) rd
    obtain ⟨xs, ei, q⟩ := gL_at q
    obtain ⟨hz, q⟩ := q
    obtain ⟨a, vs, ea, ha, ra, nb⟩ := s1.getL ei
    refine ⟨a, vs, ea, ha, by rw [ra.len]; exact hz, ?_⟩
    have s2 := s1.mutL ei ea (ra.app (.one rd))
    rw [ra.len]
    split
    · rename_i hc; rw [if_pos hc] at q; exact q _ _ _ s2
    · rename_i hc; rw [if_neg hc] at q; exact q _ _ _ s2
end
end Mv

namespace Mv
open PySem L2 PyProof.Rows GenW
def onlyN {α : Type} (T : List Str) (m : Wp α) : Wp α := fun Q E => m Q fun x => T.contains x.c = true ∧ E x
theorem mn_onlyN {α : Type} {T : List Str} {m : Wp α} (h : Mn m) : Mn (onlyN T m) := fun Q Q' E E' a b q => h _ _ _ _ a (fun x z => ⟨z.1, b x z.2⟩) q
theorem nsB_ok {K : PySem.W.Frag} {T : List Str} (h : nsB K T = true) {c : Str} (hc : T.contains c = true) : PySem.W.subIn K (.ref (He.ga K c)) (.type "StopIteration") = some false := by
  have := List.all_eq_true.mp h c (by simpa using hc)
  exact of_decide_eq_true this
section
variable {X : Cx} {W : WX} {k n : Nat} {gb : Bool} {x : Str} {e : Expr} {es : List Expr} {p p' pos pos' : Pos}
theorem mn_listYX {T : List Str} {m : List Dt → Wp (List Dt)} {ma : Mv.Env → Wp (List Dt)} (tk : Takes X W) (hT : nsB X.K T = true) (O : OwnY X.prog X.w X.K X.mg X.base k x n m) (hr : Room (k + 3) X.A) (hgl : Gl X "list") (hl : X.mg "list" = none) (ha : MAn X (WE W) (e :: es) n ma) (hg : Gl X x := by rfl) (hdb : (x == ("__debug__" : Str)) = false := by decide)
    (he : starEach (e :: es) X.env = (false, eval e X.env) :: starEach es X.env := by rfl) (hpl : (backTo pos' (starEach es X.env)).any (·.1) = false := by rfl)
    (he2 : starEach [Expr.Call (.Name x p') (e :: es) [] pos'] X.env = (false, eval (.Call (.Name x p') (e :: es) [] pos') X.env) :: starEach [] X.env := by rfl) :
    MN X (WE W) (.Call (.Name "list" p) [.Call (.Name x p') (e :: es) [] pos'] [] pos) (fun ρ => (ma ρ).bind fun ds => (onlyN T (m ds)).bind fun ys => .ret (.l ys)) := by
  obtain ⟨hM, f, fd, ps, F, hm, hk, hb⟩ := O
  obtain ⟨⟨t, pa, va⟩, ln⟩ := ha
  have hbl : bootBuiltins "list" = some (.type "list") := by decide +kernel
  let E1 : L2.St → XK := fun σ cls d H => WE W σ cls d H ∧ PySem.W.subIn X.K cls (.type "StopIteration") = some false
  refine ⟨fun σ H Q => tListG (tCallG (spY (kx X) n m) [] (E1 σ) t) σ H Q, ⟨fun pins s σ H Q I hq => ?_⟩, fun ρ => mn_bind (va.mn ρ) fun ds => mn_bind (mn_onlyN (hM ds)) fun _ => mn_ret, fun B0 F ρ σ B H Q s q => ?_⟩
  · have pg : PGen X k (.Call (.Name x p') (e :: es) [] pos') (tCallG (spY (kx X) n m) [] (E1 σ) t) (E1 σ) := pgen_call (dvs := []) (ds := []) F (hr.mono (by omega)) hg hm hk hb .nil pa hdb he hpl
    have hns : NoStop X.K (E1 σ) := fun cls d H h => h.2
    refine wpAny_Call_Name_kw (ld_blt I hgl hl hbl (PyProof.Rows.callWith_type1 ?_ he2 rfl) (by decide) (by decide))
    rw [he2]
    show wpAny _ _ (spliced ((false, eval (.Call (.Name x p') (e :: es) [] pos') X.env) :: backTo pos (starEach [] X.env))) _ _ s
    refine Calls.spliced_cons (thn (pg.run pins s σ H _ I hq) fun u s1 ⟨H1, sc, ex, I1, hex, hG⟩ => Calls.spliced_nil ?_)
    have hsz : sc.heap.objs.size ≤ s1.heap.objs.size := by
      obtain ⟨a, g, c, _, y1, y2, _⟩ := hG
      exact Nat.le_trans y1 (Nat.le_of_lt y2)
    refine call_list_new hr I1.ok.frames hG (fun S s' acc c H' ys q0 q1 q2 hl q3 q4 q5 q6 q7 q8 => ⟨.ref S, upd H' S (.lst ys), I1.drained (Nat.le_trans hsz q0) hl q1 q2 hex q3 q4 q5 q6 q7, rfl, q8 S q7⟩) fun e s' g hc => ?_
    have kin : X.K.In s'.heap := by
      obtain ⟨a, B, H', cls, d, _, fl, _, ub, _⟩ := id hc
      refine I1.ok.mod.kin.keeps fun b o eb => fl.1 b o (ub.keep b o (I1.bs b o eb).1 (I1.bs b o eb).2 fun hm => ?_)
      rcases List.mem_cons.mp (I1.stkSub b hm) with z | z
      · have h1 := Heap.lt_size eb
        rw [z] at h1
        exact absurd (Nat.lt_of_lt_of_le h1 (Nat.le_trans I1.ok.bsz I1.ok.above)) (Nat.lt_irrefl _)
      · exact I1.ok.nofr eb z
    refine ⟨notStop_of hns kin hc, passAt tk σ pins H1 sc e _ I1 ?_⟩
    obtain ⟨a, B, H', cls, d, z1, fl, z2, ub, z3, z4, z5, z6⟩ := hc
    exact ⟨a, B, H', cls, d, z1, fl, z2, ub, z3, z4, allBare_setGen z5 rfl, z6.1⟩
  · refine va.run B0 F ρ σ B H _ s (va.mn ρ _ _ _ _ (fun ds z vs B1 H1 g r => ?_) (fun _ z => z) (ln.len ρ _ _ q))
    refine ⟨by rw [List.append_nil, r.len]; exact z.1, B1, ds, g.bh, by rw [List.append_nil]; exact r, hM ds _ _ _ _ (fun ys z us B' H' g' r' p hp => ?_) (fun xn z c o B' H' g' xo => ⟨z.2 c o B' H' (g.trans g') xo, by rw [xo.1]; exact nsB_ok hT z.1⟩) z.2⟩
    exact z p B' _ ((g.trans g').trans (Gr.tmp g'.bh hp)) ((g.trans g').no s.bh hp) (.l upd_same r' (g'.bh.no hp))
/-- a def out of a list of defs, called -/
def HeldX (gb : Bool) (X : Cx) (k n : Nat) (tb : List (PySem.Str × (List Dt → Wp Dt))) : Prop := ∀ x m, tb.lookup x = some m → OwnX gb X.prog X.w X.K X.mg X.base k x n m ∧ X.mg x = some (.ref (He.ga X.K x))
theorem heldX_nil : HeldX gb X k n [] := fun x m h => by simp at h
theorem heldX_cons {x : PySem.Str} {m : List Dt → Wp Dt} {tb : List (PySem.Str × (List Dt → Wp Dt))} (O : OwnX gb X.prog X.w X.K X.mg X.base k x n m) (hg : X.mg x = some (.ref (He.ga X.K x))) (h : HeldX gb X k n tb) : HeldX gb X k n ((x, m) :: tb) := fun y m' hy => by
  by_cases e : y = x
  · subst e
    simp [List.lookup] at hy
    subst hy
    exact ⟨O, hg⟩
  · have e1 : (y == x) = false := by simpa using e
    simp only [List.lookup, e1] at hy
    exact h y m' hy
theorem me_callE {f : Expr} {tb : List (PySem.Str × (List Dt → Wp Dt))} {mf : Mv.Env → Wp Dt} {ma : Mv.Env → Wp (List Dt)} (tk : Takes X W) (hf : ME X (WE W) f mf) (hT : HeldX gb X k n tb) (hr : Room k X.A) (hgd : Gd gb X.A) (ha : MAn X (WE W) (e :: es) n ma)
    (ht : eval (.Call f (e :: es) [] pos) X.env = (do callWith pos (← eval f X.env) [] (backTo pos (starEach (e :: es) X.env)) (backToKw pos (keywordEach [] X.env))) := by rfl)
    (he : starEach (e :: es) X.env = (false, eval e X.env) :: starEach es X.env := by rfl) (hpl : (backTo pos (starEach es X.env)).any (·.1) = false := by rfl) :
    ME X (WE W) (.Call f (e :: es) [] pos) (fun ρ => (mf ρ).bind fun f => .gd (isTb tb f = true) ((ma ρ).bind (callTb tb f))) := by
  obtain ⟨tf, pf, vf⟩ := hf
  obtain ⟨⟨t, pa, va⟩, ln⟩ := ha
  have hM : ∀ x m, tb.lookup x = some m → ∀ ds, Mn (m ds) := fun x m h => (hT x m h).1.1
  refine ⟨fun σ H Q => tf σ H fun v H1 => ∃ x m, tb.lookup x = some m ∧ v = .ref (He.ga X.K x) ∧ t σ H1 fun vs H2 => spM (kx X) n m vs H2 Q (WE W σ), ⟨fun pins s σ H Q I h => ?_⟩, fun ρ => mn_bind (vf.mn ρ) fun f => mn_gd (mn_bind (va.mn ρ) fun ds => mn_callTb hM f ds), fun B0 F ρ σ B H Q s q => ?_⟩
  · rw [ht]
    refine wpAny_bind (thn (pf.run pins s σ H _ I h) fun u s1 ⟨v, H1, I1, r1, x, m, hx, hv, ht1⟩ => ?_)
    subst hv
    cases r1
    obtain ⟨⟨_, f, fd, ps, F, hm, hk, hb⟩, hg⟩ := hT x m hx
    rw [hg] at hm
    cases hm
    refine PySem.W.callWith_K (h₀ := X.base) I1.ok.mod.kin hk (thn (pa.run pos pins s1 σ _ _ I1 ht1) fun us s2 ⟨vs, H2, I2, r, q⟩ => ⟨I2.kIn, ?_⟩) he hpl
    exact runG F hgd hr hb (passAt tk σ) I2 r q
  · refine vf.run B0 F ρ σ B H _ s (vf.mn ρ _ _ _ _ (fun d z v B1 H1 g1 r1 => ?_) (fun _ z => z) q)
    obtain ⟨hb, z⟩ : isTb tb d = true ∧ (ma ρ).bind (callTb tb d) (PostV (kx X) B H Q) (PostX (kx X) B H (WE W σ)) := z
    cases d with
    | glo x =>
      cases r1
      obtain ⟨m, hl⟩ := Option.isSome_iff_exists.mp (show (tb.lookup x).isSome = true from hb)
      refine ⟨x, m, hl, rfl, ?_⟩
      have e1 : callTb tb (.glo x) = m := by funext ds; unfold callTb; simp only; rw [hl]
      rw [e1] at z
      refine va.run B0 F ρ σ B1 H1 _ (s.gr g1) (va.mn ρ _ _ _ _ (fun ds k vs B2 H2 g2 r => ?_) (fun _ z => z.gr g1) (ln.len ρ _ _ z))
      exact ⟨by rw [r.len]; exact k.1, B2, ds, g2.bh, r, hM x m hl ds _ _ _ _ (fun _ z => (z.gr g1).gr g2) (fun _ z => (z.gr g1).gr g2) k.2⟩
    | _ => cases hb
theorem own_liftX {CX : CXT} {gb : Bool} {P : PySem.Program} {w : PySem.World} {K : PySem.W.Frag} {mg : PySem.Str → Option PySem.Value} {base : PySem.Heap} {j k : Nat} {x : PySem.Str} {n : Nat} {m : List Dt → Wp Dt} (O : OwnC CX gb P w K mg base j x n m) (h : j ≤ k) : OwnC CX gb P w K mg base k x n m := by
  obtain ⟨a, f, fd, ps, F, r⟩ := O
  exact ⟨a, f, fd, ps, F.mono h, r⟩
theorem mb_append (i : Nat) {apos cpos xp : Pos} {m : Mv.Env → Wp Dt} (he : ME X (WE W) e m) (hN : X.N[i]? = some x := by rfl) (hv : Vis X.env.scope x := by first | exact Or.inl rfl | exact Or.inr (Or.inl rfl) | exact Or.inr (Or.inr rfl)) (hd : (x == ("__debug__" : Str)) = false := by decide) (hcd : (x == ("__classdict__" : Str)) = false := by decide)
    (hst : starEach (e :: []) X.env = (false, eval e X.env) :: starEach [] X.env := by rfl)
    (hbase : attributeBase (.Name x xp) "append" X.env (eval (.Name x xp) X.env) = eval (.Name x xp) X.env := by rfl)
    (hfew : ((backTo cpos (starEach (e :: []) X.env)).all (fun x => !x.1) && (backToKw cpos (keywordEach [] X.env)).all (fun x => x.1.isSome)
      && decide ((e :: []).length + ([] : List Keyword).length + (if ([] : List Keyword).isEmpty then 0 else 1) < 30)) = true := by rfl)
    (hline : (apos.endLine == cpos.line) = true := by rfl)
    (hs : swapsWith (.Call (.Attribute (.Name x xp) "append" apos) [e] [] cpos) none pos.line X.env = pure false := by rfl) :
    MB X W [.Expr (.Call (.Attribute (.Name x xp) "append" apos) [e] [] cpos) pos] (fun ρ => (gL ρ i).bind fun xs => (m ρ).bind fun d => .gd (xs.length < sizeLine) (.ret (.nx (ρ.set i (.ol (xs ++ [d])))))) := by
  obtain ⟨t, p, v⟩ := he
  refine ⟨_, pss_one (ps_expr (pe_bm PySem.F.plainAttrs_list PySem.F.slot_list_append PySem.F.type_list_append mt_append (pe_var hN hv hd hcd) (pa_cons p pa_nil hst) hbase hfew hline hst rfl) hs), fun ρ => mn_bind mn_gL fun _ => mn_bind (v.mn ρ) fun d => mn_gd mn_ret, fun B0 F ρ σ B H D s q => ?_⟩
  obtain ⟨xs, ei, q⟩ := gL_at q
  obtain ⟨a, vs, ea, ha, ra, nb⟩ := s.getL ei
  refine ⟨_, ea, .inl ⟨rfl, vs, .inl (.inl ha)⟩, v.run B0 F ρ σ B H _ s (v.mn ρ _ _ _ _ (fun d z u B1 H1 g r => ?_) (fun _ z => z.x s) q)⟩
  have s1 := s.gr g
  obtain ⟨h1, n1⟩ := g.h a _ nb ha
  exact ⟨a, vs, u, rfl, rfl, h1, by rw [ra.len]; exact z.1, z.2 σ B1 _ (s1.mutL ei ea ((ra.ex g.b).app (.one r)))⟩
end
end Mv

namespace Mv
open PySem L2 PyProof.Rows
def wstK (L : List Kd) (k : Kd) : List (PySem.Str × PySem.Str) := ((watchedL L k).filter fun x => !decide (x ∈ under L k.nm)).map fun x => (k.nm, x)
def wstL (L : List Kd) : List (PySem.Str × PySem.Str) := L.flatMap (wstK L)
def prT (p : PySem.Str × PySem.Str) : Dt := .tup [.str p.1, .str p.2]
theorem ch_watched (L : List Kd) (mf : List Dt → Wp Dt) (ms : Wp (List Dt)) (Q : Dt → Prop) (E : Xn → Prop) : pyMeth "Chart" "watched" mf (chartD L) ms Q E = ms (fun ds => mf (chartD L :: ds) Q E) E := ch_meth _ _ (by decide +kernel)
theorem wst_len {L : List Kd} (l2 : L.length ≤ 24) : ∀ pre : List Kd, (pre.flatMap (wstK L)).length ≤ 24 * pre.length
  | [] => by simp
  | k :: pre => by
    have := wst_len l2 pre
    have h1 := List.length_filter_le (fun x => !decide (x ∈ under L k.nm)) (watchedL L k)
    have h2 := watch_len (L := L) k
    rw [List.flatMap_cons, List.length_append, List.length_cons]
    have : (wstK L k).length ≤ 24 := by unfold wstK; rw [List.length_map]; omega
    omega
def c_gapsT (ds : List Dt) : Wp (List Dt) := fun Q E => (∃ L, ds = [layD L] ∧ LayOk L ∧ Q ((gapsL L).map pairT)) ∨ ∃ d e, ds = [d] ∧ BadPl d e ∧ E ⟨"BadLayout", [("place", e)]⟩
theorem mn_c_gapsT (ds : List Dt) : Mn (c_gapsT ds) := fun Q Q' E E' h h' z => z.imp (fun ⟨L, a, b, q⟩ => ⟨L, a, b, h _ q⟩) fun ⟨d, e, a, b, q⟩ => ⟨d, e, a, b, h' _ q⟩
def c_wastesT (ds : List Dt) : Wp (List Dt) := fun Q E => (∃ L, ds = [layD L] ∧ LayOk L ∧ Q ((wstL L).map prT)) ∨ ∃ d e, ds = [d] ∧ BadPl d e ∧ E ⟨"BadLayout", [("place", e)]⟩
theorem mn_c_wastesT (ds : List Dt) : Mn (c_wastesT ds) := fun Q Q' E E' h h' z => z.imp (fun ⟨L, a, b, q⟩ => ⟨L, a, b, h _ q⟩) fun ⟨d, e, a, b, q⟩ => ⟨d, e, a, b, h' _ q⟩
def R_gaps (ds YS : List Dt) : Prop := ∃ L, ds = [layD L] ∧ LayOk L ∧ YS = (gapsL L).map pairT
def lb_gapsT_0 : Dt → Env → Wp Fl := fun x ρ => Wp.bind ((aN 5) x ρ) fun ρ =>
    (Wp.bind (gL ρ 3) fun xs => Wp.bind (Wp.bind (Wp.bind (gF ρ 1) fun d => pyMeth "Chart" "watched" c_Chart_watched d (Wp.bind (gF ρ 5) fun x => Wp.bind (Wp.ret []) fun xs => .ret (x :: xs))) asT) fun ds => .gd (xs.length + ds.length ≤ sizeLine) (.ret (Fl.nx (ρ.set 3 (.ol (xs ++ ds))))))
def gl_gapsT_1 : Dt → List Dt → Env → Wp GFl := fun x ys ρ => Wp.bind ((aN 6) x ρ) fun ρ =>
    (gThen (gIf (wAnd (Wp.bind (Wp.bind (gR ρ 6) fun x => Wp.bind (gR ρ 3) fun y => pyIn x y) asB) (wAnd (Wp.bind (Wp.bind (gR ρ 6) fun x => Wp.bind (gR ρ 4) fun y => pyNotIn x y) asB) (Wp.bind (Wp.bind (Wp.bind (gF ρ 1) fun d => pyMeth "Chart" "since" c_Chart_since d (Wp.bind (gF ρ 6) fun x => Wp.bind (Wp.ret []) fun xs => .ret (x :: xs))) fun x => Wp.bind (Wp.bind (gF ρ 1) fun d => pyMeth "Chart" "since" c_Chart_since d (Wp.bind (gF ρ 2) fun x => Wp.bind (Wp.ret []) fun xs => .ret (x :: xs))) fun y => pyLt x y) asB))) ((gThen (gYl ys ρ (Wp.bind (Wp.bind (gF ρ 2) fun x => Wp.bind (Wp.bind (gF ρ 6) fun x => Wp.bind (Wp.ret []) fun xs => .ret (x :: xs)) fun xs => .ret (x :: xs)) fun xs => .ret (Dt.tup xs))) fun ys ρ =>
    (Wp.ret ((ys, Fl.nx ρ) : GFl)))) ((Wp.ret ((ys, Fl.nx ρ) : GFl)))) fun ys ρ =>
    (Wp.ret ((ys, Fl.nx ρ) : GFl)))
def gl_gapsT_2 : Dt → List Dt → Env → Wp GFl := fun x ys ρ => Wp.bind ((aN 2) x ρ) fun ρ =>
    (gThen (gPl ys (Wp.bind (Wp.bind (Wp.bind (Wp.bind (Wp.bind (Wp.bind (gF ρ 1) (pyFld "Chart" "under")) fun x => Wp.bind (gR ρ 2) fun y => pyIx x y) fun x => Wp.bind (Wp.ret []) fun xs => .ret (x :: xs)) pyListX) fun d => .ret d.sl) fun u => Wp.bind (Wp.bind (Wp.bind (gF ρ 1) fun d => pyMeth "Chart" "watched" c_Chart_watched d (Wp.bind (gF ρ 2) fun x => Wp.bind (Wp.ret []) fun xs => .ret (x :: xs))) fun d => .ret (Sl.fz d)) fun v => .ret (Fl.nx ((ρ.set 3 u).set 4 v)))) fun ys ρ =>
    (gThen (gPl ys (Wp.bind (Wp.bind (Wp.bind (Wp.bind (gF ρ 1) (pyFld "Chart" "under")) fun x => Wp.bind (gR ρ 2) fun y => pyIx x y) itA) fun xs => forL lb_gapsT_0 xs ρ)) fun ys ρ =>
    (gThen (Wp.bind (Wp.bind (Wp.bind (gF ρ 1) (pyFld "Chart" "kinds")) itA) fun xs => gforL gl_gapsT_1 xs ys ρ) fun ys ρ =>
    (Wp.ret ((ys, Fl.nx ρ) : GFl)))))
def mb_gapsT : List Dt → Env → Wp GFl := fun ys ρ =>
    (gThen (gPl ys (Wp.bind (Wp.bind (Wp.bind (Wp.bind (gF ρ 0) fun x => Wp.bind (Wp.ret []) fun xs => .ret (x :: xs)) c_ChartX) fun d => .ret (Sl.fz d)) fun x => .ret (Fl.nx (ρ.set 1 x)))) fun ys ρ =>
    (gThen (Wp.bind (Wp.bind (Wp.bind (gF ρ 1) (pyFld "Chart" "kinds")) itA) fun xs => gforL gl_gapsT_2 xs ys ρ) fun ys ρ =>
    (Wp.ret ((ys, Fl.nx ρ) : GFl))))
def hl_gapsT_1 (YS : List Dt) : Dt → List Dt → Env → Wp GFl := fun x ys ρ => Wp.bind ((aN 6) x ρ) fun ρ =>
    (gThen (gIf (wAnd (Wp.bind (Wp.bind (gR ρ 6) fun x => Wp.bind (gR ρ 3) fun y => pyIn x y) asB) (wAnd (Wp.bind (Wp.bind (gR ρ 6) fun x => Wp.bind (gR ρ 4) fun y => pyNotIn x y) asB) (Wp.bind (Wp.bind (Wp.bind (gF ρ 1) fun d => pyMeth "Chart" "since" c_Chart_since d (Wp.bind (gF ρ 6) fun x => Wp.bind (Wp.ret []) fun xs => .ret (x :: xs))) fun x => Wp.bind (Wp.bind (gF ρ 1) fun d => pyMeth "Chart" "since" c_Chart_since d (Wp.bind (gF ρ 2) fun x => Wp.bind (Wp.ret []) fun xs => .ret (x :: xs))) fun y => pyLt x y) asB))) ((gThen (hYl YS ys ρ (Wp.bind (Wp.bind (gF ρ 2) fun x => Wp.bind (Wp.bind (gF ρ 6) fun x => Wp.bind (Wp.ret []) fun xs => .ret (x :: xs)) fun xs => .ret (x :: xs)) fun xs => .ret (Dt.tup xs))) fun ys ρ =>
    (Wp.ret ((ys, Fl.nx ρ) : GFl)))) ((Wp.ret ((ys, Fl.nx ρ) : GFl)))) fun ys ρ =>
    (Wp.ret ((ys, Fl.nx ρ) : GFl)))
def hl_gapsT_2 (YS : List Dt) : Dt → List Dt → Env → Wp GFl := fun x ys ρ => Wp.bind ((aN 2) x ρ) fun ρ =>
    (gThen (hPl ys (Wp.bind (Wp.bind (Wp.bind (Wp.bind (Wp.bind (Wp.bind (gF ρ 1) (pyFld "Chart" "under")) fun x => Wp.bind (gR ρ 2) fun y => pyIx x y) fun x => Wp.bind (Wp.ret []) fun xs => .ret (x :: xs)) pyListX) fun d => .ret d.sl) fun u => Wp.bind (Wp.bind (Wp.bind (gF ρ 1) fun d => pyMeth "Chart" "watched" c_Chart_watched d (Wp.bind (gF ρ 2) fun x => Wp.bind (Wp.ret []) fun xs => .ret (x :: xs))) fun d => .ret (Sl.fz d)) fun v => .ret (Fl.nx ((ρ.set 3 u).set 4 v)))) fun ys ρ =>
    (gThen (hPl ys (Wp.bind (Wp.bind (Wp.bind (Wp.bind (gF ρ 1) (pyFld "Chart" "under")) fun x => Wp.bind (gR ρ 2) fun y => pyIx x y) itA) fun xs => forL lb_gapsT_0 xs ρ)) fun ys ρ =>
    (gThen (Wp.bind (Wp.bind (Wp.bind (gF ρ 1) (pyFld "Chart" "kinds")) itA) fun xs => gforL (hl_gapsT_1 YS) xs ys ρ) fun ys ρ =>
    (Wp.ret ((ys, Fl.nx ρ) : GFl)))))
def mh_gapsT (YS : List Dt) : List Dt → Env → Wp GFl := fun ys ρ =>
    (gThen (hPl ys (Wp.bind (Wp.bind (Wp.bind (Wp.bind (gF ρ 0) fun x => Wp.bind (Wp.ret []) fun xs => .ret (x :: xs)) c_ChartX) fun d => .ret (Sl.fz d)) fun x => .ret (Fl.nx (ρ.set 1 x)))) fun ys ρ =>
    (gThen (Wp.bind (Wp.bind (Wp.bind (gF ρ 1) (pyFld "Chart" "kinds")) itA) fun xs => gforL (hl_gapsT_2 YS) xs ys ρ) fun ys ρ =>
    (Wp.ret ((ys, Fl.nx ρ) : GFl))))
def gl_wastesT_0 : Dt → List Dt → Env → Wp GFl := fun x ys ρ => Wp.bind ((aN 3) x ρ) fun ρ =>
    (gThen (gIf (Wp.bind (Wp.bind (gR ρ 3) fun x => Wp.bind (Wp.bind (Wp.bind (gF ρ 1) (pyFld "Chart" "under")) fun x => Wp.bind (gR ρ 2) fun y => pyIx x y) fun y => pyNotIn x y) asB) ((gThen (gYl ys ρ (Wp.bind (Wp.bind (gF ρ 2) fun x => Wp.bind (Wp.bind (gF ρ 3) fun x => Wp.bind (Wp.ret []) fun xs => .ret (x :: xs)) fun xs => .ret (x :: xs)) fun xs => .ret (Dt.tup xs))) fun ys ρ =>
    (Wp.ret ((ys, Fl.nx ρ) : GFl)))) ((Wp.ret ((ys, Fl.nx ρ) : GFl)))) fun ys ρ =>
    (Wp.ret ((ys, Fl.nx ρ) : GFl)))
def gl_wastesT_1 : Dt → List Dt → Env → Wp GFl := fun x ys ρ => Wp.bind ((aN 2) x ρ) fun ρ =>
    (gThen (Wp.bind (Wp.bind (Wp.bind (gF ρ 1) fun d => pyMeth "Chart" "watched" c_Chart_watched d (Wp.bind (gF ρ 2) fun x => Wp.bind (Wp.ret []) fun xs => .ret (x :: xs))) itA) fun xs => gforL gl_wastesT_0 xs ys ρ) fun ys ρ =>
    (Wp.ret ((ys, Fl.nx ρ) : GFl)))
def mb_wastesT : List Dt → Env → Wp GFl := fun ys ρ =>
    (gThen (gPl ys (Wp.bind (Wp.bind (Wp.bind (Wp.bind (gF ρ 0) fun x => Wp.bind (Wp.ret []) fun xs => .ret (x :: xs)) c_ChartX) fun d => .ret (Sl.fz d)) fun x => .ret (Fl.nx (ρ.set 1 x)))) fun ys ρ =>
    (gThen (Wp.bind (Wp.bind (Wp.bind (gF ρ 1) (pyFld "Chart" "kinds")) itA) fun xs => gforL gl_wastesT_1 xs ys ρ) fun ys ρ =>
    (Wp.ret ((ys, Fl.nx ρ) : GFl))))
theorem le_gapsT (ds : List Dt) (Q : List Dt → Prop) (E : Xn → Prop) (h : c_gapsT ds Q E) : gnWp 7 mb_gapsT ds Q E := by
  rcases h with ⟨L, rfl, hL, h⟩ | ⟨d, e, rfl, hb, h⟩
  · have sl : sizeLine = 16777216 := by decide
    have l2 := hL.l2
    simp only [gnWp_def, mb_gapsT, List.map_cons, List.map_nil, List.replicate, List.length_cons, List.length_nil, Nat.reduceSub, Nat.reduceAdd, List.cons_append, List.nil_append, EV, GV]
    refine .inl ⟨L, rfl, hL, ?_⟩
    simp only [EV, GV, ch_kinds, kinds_keys, List.map_map]
    refine k_gfor (Dt.str ∘ Kd.nm) (l := L) (fun pre ys ρ => ∃ (s2 s3 s4 s5 s6 : Sl), ys = (pre.flatMap (gapsK L)).map pairT ∧ ρ = [.fz (layD L), .fz (chartD L), s2, s3, s4, s5, s6]) ⟨_, _, _, _, _, rfl, rfl⟩ ?_ ?_
    · rintro pre k rest ys ρ K e ⟨s2, s3, s4, s5, s6, hys, rfl⟩ hK
      have hk : k ∈ L := by rw [e]; simp
      have hp : pre.length < 24 := by have := congrArg List.length e; simp at this; omega
      have hyl : ys.length ≤ 24 * pre.length := by rw [hys, List.length_map]; exact gaps_len l2 pre
      have hu : (under L k.nm).length ≤ 24 := Nat.le_trans (nodup_len (under_nodup hL hk) (under_ns k.nm)) (by simpa using l2)
      have hm : ∀ (mf : List Dt → Wp Dt) (ms : Wp (List Dt)) (Q : Dt → Prop) (E : Xn → Prop), pyMeth "Chart" "watched" mf (chartD L) ms Q E = ms (fun ds => mf (chartD L :: ds) Q E) E := fun mf ms Q E => ch_meth _ _ (by decide +kernel)
      have hm2 : ∀ (mf : List Dt → Wp Dt) (ms : Wp (List Dt)) (Q : Dt → Prop) (E : Xn → Prop), pyMeth "Chart" "since" mf (chartD L) ms Q E = ms (fun ds => mf (chartD L :: ds) Q E) E := fun mf ms Q E => ch_meth _ _ (by decide +kernel)
      simp only [gl_gapsT_2, Function.comp_apply, EV, GV, ch_under, look_under hk, k_lisTs, hm]
      refine ⟨L, k, rfl, hL, hk, ?_⟩
      simp only [EV, GV, ch_under, look_under hk]
      simp only [strT, EV]
      refine k_for Dt.str (l := under L k.nm) (fun pre2 ρ => ∃ s5 : Sl, ρ = [.fz (layD L), .fz (chartD L), .fz (.str k.nm), .ol ((wantL L k pre2).map Dt.str), .fz (strT (watchedL L k)), s5, s6]) ⟨s5, by simp [wantL, strT]⟩ ?_ ?_
      · rintro pre2 b rest2 ρ K2 e2 ⟨s5, rfl⟩ hK2
        have hb : b ∈ under L k.nm := by rw [e2]; simp
        obtain ⟨j, hj, rfl⟩ := List.mem_map.mp (under_ns _ _ hb)
        have hwl : ∀ l : List PySem.Str, (∀ b ∈ l, b ∈ L.map Kd.nm) → (wantL L k l).length ≤ 24 + 24 * l.length := fun l hl => by
          have : (l.flatMap fun b => (L.filter fun j => decide (j.nm = b)).flatMap (watchedL L)).length ≤ 24 * l.length := by
            induction l with
            | nil => simp
            | cons x l ih =>
              obtain ⟨j, hj, rfl⟩ := List.mem_map.mp (hl x (by simp))
              have h1 := watch_len (L := L) j
              have h2 := ih fun b hb => hl b (by simp [hb])
              rw [List.flatMap_cons, one_nm hL.nodup hj, List.length_append, List.length_cons]
              simp only [List.flatMap_cons, List.flatMap_nil, List.append_nil]
              omega
          rw [wantL, List.length_append]
          omega
        have h1 := hwl pre2 fun b hb => under_ns _ _ (by rw [e2]; simp [hb])
        have h3 : pre2.length < 24 := by have := congrArg List.length e2; simp at this; omega
        have h4 := watch_len (L := L) j
        simp only [lb_gapsT_0, EV, hm]
        refine ⟨L, j, rfl, hL, hj, ?_⟩
        simp only [EV, k_asT]
        refine ⟨by simp only [List.length_map]; omega, ?_⟩
        refine hK2 _ ⟨.fz (.str j.nm), ?_⟩
        rw [← List.map_append]
        congr 4
        simp only [wantL, List.flatMap_append, List.flatMap_cons, List.flatMap_nil, List.append_nil, one_nm hL.nodup hj, List.append_assoc]
      · rintro ρ ⟨s5, rfl⟩
        simp only [EV, GV, ch_kinds, kinds_keys, List.map_map]
        refine k_gfor (Dt.str ∘ Kd.nm) (l := L) (fun pre2 ys2 ρ => ∃ s6 : Sl, ys2 = ys ++ ((pre2.filter (gapB L k)).map fun o => pairT (k, o)) ∧ ρ = [.fz (layD L), .fz (chartD L), .fz (.str k.nm), .ol ((wantL L k (under L k.nm)).map Dt.str), .fz (strT (watchedL L k)), s5, s6]) ⟨_, by simp, rfl⟩ ?_ ?_
        · rintro pre2 o rest2 ys2 ρ K2 e2 ⟨s6, hy2, rfl⟩ hK2
          have ho : o ∈ L := by rw [e2]; simp
          have hp2 : pre2.length < 24 := by have := congrArg List.length e2; simp at this; omega
          have hfl := List.length_filter_le (gapB L k) pre2
          have hK2 := fun s6 => hK2 (ys ++ (((pre2 ++ [o]).filter (gapB L k)).map fun o => pairT (k, o))) _ ⟨s6, rfl, rfl⟩
          simp only [List.filter_append, List.map_append] at hK2
          have hin : decide (o.nm ∈ wantL L k (under L k.nm)) = mustB L k o := by rw [Bool.eq_iff_iff, decide_eq_true_eq]; exact mem_want
          have hg : gapB L k o = (mustB L k o && (decide (o.ed < k.ed) && !decide (o.nm ∈ watchedL L k))) := rfl
          simp only [gl_gapsT_1, Function.comp_apply, EV, GV, hm2, strT]
          cases c1 : mustB L k o with
          | false =>
            rw [c1] at hin hg
            have hn : o.nm ∉ wantL L k (under L k.nm) := by simpa using hin
            simp only [hn, if_false, EV, GV]
            rw [hy2]
            have := hK2 (.fz (.str o.nm))
            simp only [List.filter_cons, hg, Bool.false_and, Bool.false_eq_true, if_false, List.filter_nil, List.map_nil, List.append_nil] at this
            exact this
          | true =>
            rw [c1] at hin hg
            have hn : o.nm ∈ wantL L k (under L k.nm) := by simpa using hin
            simp only [hn, if_true, EV, GV]
            by_cases c3 : o.nm ∈ watchedL L k
            · simp only [c3, if_true, EV, GV]
              rw [hy2]
              have := hK2 (.fz (.str o.nm))
              simp only [List.filter_cons, hg, c3, decide_true, Bool.not_true, Bool.and_false, Bool.false_eq_true, if_false, List.filter_nil, List.map_nil, List.append_nil] at this
              exact this
            · simp only [c3, if_false, EV, GV]
              refine ⟨L, o, rfl, hL, ho, L, k, rfl, hL, hk, ?_⟩
              by_cases c2 : o.ed < k.ed
              · simp only [c2, if_true, EV, GV]
                refine ⟨by rw [hy2]; simp only [List.length_append, List.length_map]; omega, ?_⟩
                have := hK2 (.fz (.str o.nm))
                simp only [List.filter_cons, hg, c2, c3, decide_true, decide_false, Bool.not_false, Bool.and_true, if_true, List.filter_nil, List.map_cons, List.map_nil] at this
                rw [hy2, List.append_assoc]
                exact this
              · simp only [c2, if_false, EV, GV]
                rw [hy2]
                have := hK2 (.fz (.str o.nm))
                simp only [List.filter_cons, hg, c2, decide_false, Bool.false_and, Bool.and_false, Bool.false_eq_true, if_false, List.filter_nil, List.map_nil, List.append_nil] at this
                exact this
        · rintro ys2 ρ ⟨s6, hy2, rfl⟩
          simp only [EV, GV]
          refine hK _ _ ⟨_, _, _, _, _, ?_, rfl⟩
          rw [hy2, hys, List.flatMap_append, List.map_append]
          congr 1
          simp [gapsK]
    · rintro ys ρ ⟨s2, s3, s4, s5, s6, hys, rfl⟩
      simp only [EV, GV, hys]
      exact h
  · simp only [gnWp_def, mb_gapsT, List.map_cons, List.map_nil, List.replicate, List.length_cons, List.length_nil, Nat.reduceSub, Nat.reduceAdd, List.cons_append, List.nil_append, EV, GV]
    exact .inr ⟨d, e, rfl, hb, h⟩
theorem le_wastesT (ds : List Dt) (Q : List Dt → Prop) (E : Xn → Prop) (h : c_wastesT ds Q E) : gnWp 4 mb_wastesT ds Q E := by
  rcases h with ⟨L, rfl, hL, h⟩ | ⟨d, e, rfl, hb, h⟩
  · have sl : sizeLine = 16777216 := by decide
    have l2 := hL.l2
    simp only [gnWp_def, mb_wastesT, List.map_cons, List.map_nil, List.replicate, List.length_cons, List.length_nil, Nat.reduceSub, Nat.reduceAdd, List.cons_append, List.nil_append, EV, GV]
    refine .inl ⟨L, rfl, hL, ?_⟩
    simp only [EV, GV, ch_kinds, kinds_keys, List.map_map]
    refine k_gfor (Dt.str ∘ Kd.nm) (l := L) (fun pre ys ρ => ∃ (s2 s3 : Sl), ys = (pre.flatMap (wstK L)).map prT ∧ ρ = [.fz (layD L), .fz (chartD L), s2, s3]) ⟨_, _, rfl, rfl⟩ ?_ ?_
    · rintro pre k rest ys ρ K e ⟨s2, s3, hys, rfl⟩ hK
      have hk : k ∈ L := by rw [e]; simp
      have hp : pre.length < 24 := by have := congrArg List.length e; simp at this; omega
      have hyl : ys.length ≤ 24 * pre.length := by rw [hys, List.length_map]; exact wst_len l2 pre
      simp only [gl_wastesT_1, Function.comp_apply, EV, GV, ch_watched]
      refine ⟨L, k, rfl, hL, hk, ?_⟩
      simp only [EV, GV, strT]
      refine k_gfor Dt.str (l := watchedL L k) (fun pre2 ys2 ρ => ∃ s3 : Sl, ys2 = ys ++ (((pre2.filter fun x => !decide (x ∈ under L k.nm)).map fun x => (k.nm, x)).map prT) ∧ ρ = [.fz (layD L), .fz (chartD L), .fz (.str k.nm), s3]) ⟨_, by simp, rfl⟩ ?_ ?_
      · rintro pre2 x rest2 ys2 ρ K2 e2 ⟨s3, hy2, rfl⟩ hK2
        have hx : x ∈ watchedL L k := by rw [e2]; simp
        have hp2 : pre2.length < 24 := by
          have := congrArg List.length e2
          have h2 := watch_len (L := L) k
          simp at this; omega
        have hfl := List.length_filter_le (fun x => !decide (x ∈ under L k.nm)) pre2
        have hy2l : ys2.length < sizeLine := by rw [hy2, List.length_append, List.length_map, List.length_map]; omega
        have hK2 := fun s3 => hK2 (ys ++ (((((pre2 ++ [x]).filter fun x => !decide (x ∈ under L k.nm)).map fun x => (k.nm, x)).map prT))) _ ⟨s3, rfl, rfl⟩
        simp only [gl_wastesT_0, EV, GV, ch_under, look_under hk, strT]
        by_cases d : x ∈ under L k.nm
        · simp only [d, if_true, if_false, EV, GV, not_true_eq_false]
          have := hK2 (.fz (.str x))
          rw [List.filter_append] at this
          simp only [List.filter_cons, List.filter_nil, d, decide_true, Bool.not_true, Bool.false_eq_true, if_false, List.append_nil] at this
          rw [← hy2] at this
          exact this
        · simp only [d, if_true, if_false, EV, GV, not_false_eq_true]
          refine ⟨hy2l, ?_⟩
          have := hK2 (.fz (.str x))
          rw [List.filter_append] at this
          simp only [List.filter_cons, List.filter_nil, d, decide_false, Bool.not_false, if_true, List.map_append, List.map_cons, List.map_nil] at this
          rw [← List.append_assoc] at this
          rw [hy2]
          exact this
      · rintro ys2 ρ ⟨s3, hy2, rfl⟩
        simp only [EV, GV]
        refine hK _ _ ⟨_, _, ?_, rfl⟩
        rw [hy2, hys, List.flatMap_append, List.map_append]
        simp [wstK]
    · rintro ys ρ ⟨s2, s3, hys, rfl⟩
      simp only [EV, GV]
      rw [hys]; exact h
  · simp only [gnWp_def, mb_wastesT, List.map_cons, List.map_nil, List.replicate, List.length_cons, List.length_nil, Nat.reduceSub, Nat.reduceAdd, List.cons_append, List.nil_append, EV, GV]
    exact .inr ⟨d, e, rfl, hb, h⟩
def hpK (ys : List Dt) (Q : GFl → Prop) : Fl → Prop
  | .rs _ _ => False
  | f => Q (ys, f)
theorem hpl_eq (ys : List Dt) (m : Wp Fl) (Q : GFl → Prop) (E : Xn → Prop) : hPl ys m Q E = m (fun f => hpK ys Q f) E := by
  show m _ E = m _ E
  congr 1
  funext f
  cases f <;> rfl
theorem hpk_nx (ys : List Dt) (Q : GFl → Prop) (ρ : Env) : hpK ys Q (.nx ρ) = Q (ys, .nx ρ) := rfl
theorem hyl_eq (YS ys : List Dt) (ρ : Env) (m : Wp Dt) (Q : GFl → Prop) (E : Xn → Prop) : hYl YS ys ρ m Q E = (ys.length < sizeLine ∧ m (fun d => (ys ++ [d]) <+: YS ∧ Q (ys ++ [d], .nx ρ)) E) := rfl
def HV := And.intro @k_gThen (And.intro @k_gtnx (And.intro @hpl_eq (And.intro @hpk_nx (And.intro @hyl_eq (And.intro @k_gIf @k_lgnx)))))
theorem gap_pre {L pre rest pre2 rest2 : List Kd} {k o : Kd} (e : L = pre ++ k :: rest) (e2 : L = pre2 ++ o :: rest2) (h : gapB L k o = true) : ((pre.flatMap (gapsK L)).map pairT ++ ((pre2.filter (gapB L k)).map fun o => pairT (k, o))) ++ [pairT (k, o)] <+: (gapsL L).map pairT := by
  have h1 : gapsL L = pre.flatMap (gapsK L) ++ (gapsK L k ++ rest.flatMap (gapsK L)) := by
    unfold gapsL
    conv => lhs; arg 2; rw [e]
    rw [List.flatMap_append, List.flatMap_cons]
  have h2 : gapsK L k = (pre2.filter (gapB L k)).map (fun o => (k, o)) ++ ((k, o) :: (rest2.filter (gapB L k)).map fun o => (k, o)) := by
    unfold gapsK
    conv => lhs; arg 2; arg 2; rw [e2]
    rw [List.filter_append, List.filter_cons, h, List.map_append]
    rfl
  rw [h1, h2]
  refine ⟨((rest2.filter (gapB L k)).map fun o => pairT (k, o)) ++ (rest.flatMap (gapsK L)).map pairT, ?_⟩
  simp [List.map_map, Function.comp_def]
theorem lh_gapsT (ds YS : List Dt) (h : R_gaps ds YS) : ghWp 7 mh_gapsT ds YS := by
  obtain ⟨L, rfl, hL, rfl⟩ := h
  have sl : sizeLine = 16777216 := by decide
  have l2 := hL.l2
  simp only [ghWp, mh_gapsT, List.map_cons, List.map_nil, List.replicate, List.length_cons, List.length_nil, Nat.reduceSub, Nat.reduceAdd, List.cons_append, List.nil_append, EV, HV]
  refine .inl ⟨L, rfl, hL, ?_⟩
  simp only [EV, HV, ch_kinds, kinds_keys, List.map_map]
  refine k_gfor (Dt.str ∘ Kd.nm) (l := L) (fun pre ys ρ => ∃ (s2 s3 s4 s5 s6 : Sl), ys = (pre.flatMap (gapsK L)).map pairT ∧ ρ = [.fz (layD L), .fz (chartD L), s2, s3, s4, s5, s6]) ⟨_, _, _, _, _, rfl, rfl⟩ ?_ ?_
  · rintro pre k rest ys ρ K e ⟨s2, s3, s4, s5, s6, hys, rfl⟩ hK
    have hk : k ∈ L := by rw [e]; simp
    have hp : pre.length < 24 := by have := congrArg List.length e; simp at this; omega
    have hyl : ys.length ≤ 24 * pre.length := by rw [hys, List.length_map]; exact gaps_len l2 pre
    have hu : (under L k.nm).length ≤ 24 := Nat.le_trans (nodup_len (under_nodup hL hk) (under_ns k.nm)) (by simpa using l2)
    have hm : ∀ (mf : List Dt → Wp Dt) (ms : Wp (List Dt)) (Q : Dt → Prop) (E : Xn → Prop), pyMeth "Chart" "watched" mf (chartD L) ms Q E = ms (fun ds => mf (chartD L :: ds) Q E) E := fun mf ms Q E => ch_meth _ _ (by decide +kernel)
    have hm2 : ∀ (mf : List Dt → Wp Dt) (ms : Wp (List Dt)) (Q : Dt → Prop) (E : Xn → Prop), pyMeth "Chart" "since" mf (chartD L) ms Q E = ms (fun ds => mf (chartD L :: ds) Q E) E := fun mf ms Q E => ch_meth _ _ (by decide +kernel)
    simp only [hl_gapsT_2, Function.comp_apply, EV, HV, ch_under, look_under hk, k_lisTs, hm]
    refine ⟨L, k, rfl, hL, hk, ?_⟩
    simp only [EV, HV, ch_under, look_under hk]
    simp only [strT, EV]
    refine k_for Dt.str (l := under L k.nm) (fun pre2 ρ => ∃ s5 : Sl, ρ = [.fz (layD L), .fz (chartD L), .fz (.str k.nm), .ol ((wantL L k pre2).map Dt.str), .fz (strT (watchedL L k)), s5, s6]) ⟨s5, by simp [wantL, strT]⟩ ?_ ?_
    · rintro pre2 b rest2 ρ K2 e2 ⟨s5, rfl⟩ hK2
      have hb : b ∈ under L k.nm := by rw [e2]; simp
      obtain ⟨j, hj, rfl⟩ := List.mem_map.mp (under_ns _ _ hb)
      have hwl : ∀ l : List PySem.Str, (∀ b ∈ l, b ∈ L.map Kd.nm) → (wantL L k l).length ≤ 24 + 24 * l.length := fun l hl => by
        have : (l.flatMap fun b => (L.filter fun j => decide (j.nm = b)).flatMap (watchedL L)).length ≤ 24 * l.length := by
          induction l with
          | nil => simp
          | cons x l ih =>
            obtain ⟨j, hj, rfl⟩ := List.mem_map.mp (hl x (by simp))
            have h1 := watch_len (L := L) j
            have h2 := ih fun b hb => hl b (by simp [hb])
            rw [List.flatMap_cons, one_nm hL.nodup hj, List.length_append, List.length_cons]
            simp only [List.flatMap_cons, List.flatMap_nil, List.append_nil]
            omega
        rw [wantL, List.length_append]
        omega
      have h1 := hwl pre2 fun b hb => under_ns _ _ (by rw [e2]; simp [hb])
      have h3 : pre2.length < 24 := by have := congrArg List.length e2; simp at this; omega
      have h4 := watch_len (L := L) j
      simp only [lb_gapsT_0, EV, hm]
      refine ⟨L, j, rfl, hL, hj, ?_⟩
      simp only [EV, k_asT]
      refine ⟨by simp only [List.length_map]; omega, ?_⟩
      refine hK2 _ ⟨.fz (.str j.nm), ?_⟩
      rw [← List.map_append]
      congr 4
      simp only [wantL, List.flatMap_append, List.flatMap_cons, List.flatMap_nil, List.append_nil, one_nm hL.nodup hj, List.append_assoc]
    · rintro ρ ⟨s5, rfl⟩
      simp only [EV, HV, ch_kinds, kinds_keys, List.map_map]
      refine k_gfor (Dt.str ∘ Kd.nm) (l := L) (fun pre2 ys2 ρ => ∃ s6 : Sl, ys2 = ys ++ ((pre2.filter (gapB L k)).map fun o => pairT (k, o)) ∧ ρ = [.fz (layD L), .fz (chartD L), .fz (.str k.nm), .ol ((wantL L k (under L k.nm)).map Dt.str), .fz (strT (watchedL L k)), s5, s6]) ⟨_, by simp, rfl⟩ ?_ ?_
      · rintro pre2 o rest2 ys2 ρ K2 e2 ⟨s6, hy2, rfl⟩ hK2
        have ho : o ∈ L := by rw [e2]; simp
        have hp2 : pre2.length < 24 := by have := congrArg List.length e2; simp at this; omega
        have hfl := List.length_filter_le (gapB L k) pre2
        have hK2 := fun s6 => hK2 (ys ++ (((pre2 ++ [o]).filter (gapB L k)).map fun o => pairT (k, o))) _ ⟨s6, rfl, rfl⟩
        simp only [List.filter_append, List.map_append] at hK2
        have hin : decide (o.nm ∈ wantL L k (under L k.nm)) = mustB L k o := by rw [Bool.eq_iff_iff, decide_eq_true_eq]; exact mem_want
        have hg : gapB L k o = (mustB L k o && (decide (o.ed < k.ed) && !decide (o.nm ∈ watchedL L k))) := rfl
        simp only [hl_gapsT_1, Function.comp_apply, EV, HV, hm2, strT]
        cases c1 : mustB L k o with
        | false =>
          rw [c1] at hin hg
          have hn : o.nm ∉ wantL L k (under L k.nm) := by simpa using hin
          simp only [hn, if_false, EV, HV]
          rw [hy2]
          have := hK2 (.fz (.str o.nm))
          simp only [List.filter_cons, hg, Bool.false_and, Bool.false_eq_true, if_false, List.filter_nil, List.map_nil, List.append_nil] at this
          exact this
        | true =>
          rw [c1] at hin hg
          have hn : o.nm ∈ wantL L k (under L k.nm) := by simpa using hin
          simp only [hn, if_true, EV, HV]
          by_cases c3 : o.nm ∈ watchedL L k
          · simp only [c3, if_true, EV, HV]
            rw [hy2]
            have := hK2 (.fz (.str o.nm))
            simp only [List.filter_cons, hg, c3, decide_true, Bool.not_true, Bool.and_false, Bool.false_eq_true, if_false, List.filter_nil, List.map_nil, List.append_nil] at this
            exact this
          · simp only [c3, if_false, EV, HV]
            refine ⟨L, o, rfl, hL, ho, L, k, rfl, hL, hk, ?_⟩
            by_cases c2 : o.ed < k.ed
            · simp only [c2, if_true, EV, HV]
              refine ⟨by rw [hy2]; simp only [List.length_append, List.length_map]; omega, by rw [hy2, hys]; exact gap_pre e e2 (by rw [hg, decide_eq_true c2]; simp [c3]), ?_⟩
              have := hK2 (.fz (.str o.nm))
              simp only [List.filter_cons, hg, c2, c3, decide_true, decide_false, Bool.not_false, Bool.and_true, if_true, List.filter_nil, List.map_cons, List.map_nil] at this
              rw [hy2, List.append_assoc]
              exact this
            · simp only [c2, if_false, EV, HV]
              rw [hy2]
              have := hK2 (.fz (.str o.nm))
              simp only [List.filter_cons, hg, c2, decide_false, Bool.false_and, Bool.and_false, Bool.false_eq_true, if_false, List.filter_nil, List.map_nil, List.append_nil] at this
              exact this
      · rintro ys2 ρ ⟨s6, hy2, rfl⟩
        simp only [EV, HV]
        refine hK _ _ ⟨_, _, _, _, _, ?_, rfl⟩
        rw [hy2, hys, List.flatMap_append, List.map_append]
        congr 1
        simp [gapsK]
  · rintro ys ρ ⟨s2, s3, s4, s5, s6, hys, rfl⟩
    exact ⟨_, by rw [hys]; rfl⟩
end Mv


namespace Mv
open PySem L2 PyProof.Rows
def gpL (L : List Kd) : List (PySem.Str × PySem.Str) := (gapsL L).map fun p => (p.1.nm, p.2.nm)
theorem gp_eq (L : List Kd) : (gapsL L).map pairT = (gpL L).map prT := by unfold gpL; rw [List.map_map]; rfl
/-- pairs of names, not too many -/
def PsN (ps : List (PySem.Str × PySem.Str)) : Prop := ps.length ≤ 1200 ∧ ∀ p ∈ ps, nameB p.1 = true ∧ nameB p.2 = true
theorem gp_len {L : List Kd} (ok : LayOk L) : (gpL L).length ≤ 576 := by have := gaps_len ok.l2 L; have := ok.l2; unfold gpL; rw [List.length_map]; show (gapsL L).length ≤ 576; unfold gapsL; omega
theorem wsL_len {L : List Kd} (ok : LayOk L) : (wstL L).length ≤ 576 := by have := wst_len ok.l2 L; have := ok.l2; show (wstL L).length ≤ 576; unfold wstL; omega
theorem gp_ok {L : List Kd} (ok : LayOk L) : PsN (gpL L) := by
  refine ⟨by have := gp_len ok; omega, fun p hp => ?_⟩
  obtain ⟨q, hq, rfl⟩ := List.mem_map.mp hp
  obtain ⟨k, hk, hq⟩ := List.mem_flatMap.mp hq
  obtain ⟨o, ho, rfl⟩ := List.mem_map.mp hq
  exact ⟨(ok.kd k hk).nm, (ok.kd o (List.mem_filter.mp ho).1).nm⟩
theorem wst_ok {L : List Kd} (ok : LayOk L) : PsN (wstL L) := by
  refine ⟨by have := wsL_len ok; omega, fun p hp => ?_⟩
  obtain ⟨k, hk, hq⟩ := List.mem_flatMap.mp hp
  obtain ⟨x, hx, rfl⟩ := List.mem_map.mp hq
  have hx := (List.mem_filter.mp hx).1
  obtain ⟨j, hj, rfl⟩ := List.mem_map.mp hx
  exact ⟨(ok.kd k hk).nm, (ok.kd j (List.mem_filter.mp hj).1).nm⟩
theorem PsN.pl {ps : List (PySem.Str × PySem.Str)} (h : PsN ps) : Pl (.lst (ps.map prT)) :=
  (Pl.lst (n := 1) (by decide) fun x hx => by
    obtain ⟨p, hp, rfl⟩ := List.mem_map.mp hx
    have := Pl.tup (xs := [.str p.1, .str p.2]) (n := 0) (by decide) fun y hy => by
      simp only [List.mem_cons, List.not_mem_nil, or_false] at hy
      rcases hy with rfl | rfl
      · exact pl0_str (let_ok (nameB_size (h.2 p hp).1).2.2)
      · exact pl0_str (let_ok (nameB_size (h.2 p hp).2).2.2)
    exact ⟨this.1.1, this.2⟩).1
theorem PsN.eq0 {ps : List (PySem.Str × PySem.Str)} (h : PsN ps) (Q : Dt → Prop) (E : Xn → Prop) : pyEq (.lst (ps.map prT)) (.lst []) Q E = Q (.bl ps.isEmpty) := by
  have h2 : Pl (.lst []) := (Pl.lst (n := 0) (by decide) fun x hx => by cases hx).1
  rw [pyEq_pl h.pl h2]
  have e : eqD (.lst (ps.map prT)) (.lst []) = ps.isEmpty := by
    rw [Bool.eq_iff_iff, eqD_iff h.pl h2]
    cases ps <;> simp
  rw [e]; rfl
theorem PsN.ne {ps : List (PySem.Str × PySem.Str)} (h : PsN ps) (Q : Dt → Prop) (E : Xn → Prop) : pyNe (.lst (ps.map prT)) (.lst (ps.map prT)) Q E = Q (.bl false) := by
  rw [pyNe_pl h.pl h.pl, eqD_self h.pl]; rfl
theorem PsN.take {ps : List (PySem.Str × PySem.Str)} (h : PsN ps) : PsN (ps.take 2) := ⟨by rw [List.length_take]; omega, fun p hp => h.2 p (List.mem_of_mem_take hp)⟩
theorem PsN.repr {ps : List (PySem.Str × PySem.Str)} (h : PsN ps) (Q : Dt → Prop) (E : Xn → Prop) : pyReprD [.lst (ps.map prT)] Q E = Q (.str (shown (.lst (ps.map prT)))) :=
  k_reprS (n := 2) (w := 300000) ((Sh.lst (n := 1) (w := 172) (m := 1200) (fun x hx => by
    obtain ⟨p, hp, rfl⟩ := List.mem_map.mp hx
    exact (Sh.tup (n := 0) (w := 82) (m := 2) (fun y hy => by
      simp only [List.mem_cons, List.not_mem_nil, or_false] at hy
      rcases hy with rfl | rfl
      · exact name_sh (h.2 p hp).1
      · exact name_sh (h.2 p hp).2) (by simp)).mono (Nat.le_refl _) (by omega)) (by simpa using h.1)).mono (Nat.le_refl _) (by omega)) (by decide) (by decide) Q E
def c_is_safe (ds : List Dt) : Wp Dt := fun Q E => (∃ L, ds = [layD L] ∧ LayOk L ∧ Q (.bl (gpL L).isEmpty)) ∨ ∃ d e, ds = [d] ∧ BadPl d e ∧ E ⟨"BadLayout", [("place", e)]⟩
def c_is_sparing (ds : List Dt) : Wp Dt := fun Q E => (∃ L, ds = [layD L] ∧ LayOk L ∧ Q (.bl (wstL L).isEmpty)) ∨ ∃ d e, ds = [d] ∧ BadPl d e ∧ E ⟨"BadLayout", [("place", e)]⟩
def c_is_exact (ds : List Dt) : Wp Dt := fun Q E => (∃ L, ds = [layD L] ∧ LayOk L ∧ Q (.bl ((gpL L).isEmpty && (wstL L).isEmpty))) ∨ ∃ d e, ds = [d] ∧ BadPl d e ∧ E ⟨"BadLayout", [("place", e)]⟩
theorem mn_c_is_safe (ds : List Dt) : Mn (c_is_safe ds) := fun Q Q' E E' h h' z => z.imp (fun ⟨L, a, b, q⟩ => ⟨L, a, b, h _ q⟩) fun ⟨d, e, a, b, q⟩ => ⟨d, e, a, b, h' _ q⟩
theorem mn_c_is_sparing (ds : List Dt) : Mn (c_is_sparing ds) := fun Q Q' E E' h h' z => z.imp (fun ⟨L, a, b, q⟩ => ⟨L, a, b, h _ q⟩) fun ⟨d, e, a, b, q⟩ => ⟨d, e, a, b, h' _ q⟩
theorem mn_c_is_exact (ds : List Dt) : Mn (c_is_exact ds) := fun Q Q' E E' h h' z => z.imp (fun ⟨L, a, b, q⟩ => ⟨L, a, b, h _ q⟩) fun ⟨d, e, a, b, q⟩ => ⟨d, e, a, b, h' _ q⟩
def c__law_wastes (ds : List Dt) : Wp Dt := fun Q _ => ∃ L, ds = [layD L] ∧ LayOk L ∧ Q (.lst ((wstL L).map prT))
theorem mn_c__law_wastes (ds : List Dt) : Mn (c__law_wastes ds) := fun Q Q' E E' h _ ⟨L, a, b, q⟩ => ⟨L, a, b, h _ q⟩
def c__law_refused (ds : List Dt) : Wp Dt := fun Q _ => ∃ d, ds = [d] ∧ BadPl d (.tup []) ∧ Q (.bl true)
theorem mn_c__law_refused (ds : List Dt) : Mn (c__law_refused ds) := fun Q Q' E E' h _ ⟨d, a, b, q⟩ => ⟨d, a, b, h _ q⟩
def mb_is_safe : Env → Wp Fl := fun ρ =>
    (Wp.bind (Wp.bind (Wp.bind (Wp.bind (Wp.bind (gF ρ 0) fun x => Wp.bind (Wp.ret []) fun xs => .ret (x :: xs)) fun ds => Wp.bind (onlyN (["BadLayout"] : List Str) (c_gapsT ds)) fun ys => .ret (Nw.l ys)) fun n => .ret n.dt) fun x => Wp.bind (Wp.bind (Wp.ret []) fun xs => .ret (Dt.lst xs)) fun y => pyEq x y) fun d => .ret (Fl.rt d))
def mb_is_sparing : Env → Wp Fl := fun ρ =>
    (Wp.bind (Wp.bind (Wp.bind (Wp.bind (Wp.bind (gF ρ 0) fun x => Wp.bind (Wp.ret []) fun xs => .ret (x :: xs)) fun ds => Wp.bind (onlyN (["BadLayout"] : List Str) (c_wastesT ds)) fun ys => .ret (Nw.l ys)) fun n => .ret n.dt) fun x => Wp.bind (Wp.bind (Wp.ret []) fun xs => .ret (Dt.lst xs)) fun y => pyEq x y) fun d => .ret (Fl.rt d))
def mb_is_exact : Env → Wp Fl := fun ρ =>
    (Wp.bind (vAnd (Wp.bind (Wp.bind (gF ρ 0) fun x => Wp.bind (Wp.ret []) fun xs => .ret (x :: xs)) c_is_safe) (Wp.bind (Wp.bind (gF ρ 0) fun x => Wp.bind (Wp.ret []) fun xs => .ret (x :: xs)) c_is_sparing)) fun d => .ret (Fl.rt d))
def lb__law_wastes_0 : Dt → Env → Wp Fl := fun x ρ => Wp.bind ((aN 4) x ρ) fun ρ =>
    (Wp.bind (Wp.bind (Wp.bind (gR ρ 3) fun x => Wp.bind (Wp.bind (Wp.bind (Wp.bind (Wp.bind (gR ρ 2) fun x => Wp.bind (gR ρ 4) fun y => pyIx x y) itA) fun xs => Wp.bind (Wp.calm (compL (fun ρ => (Wp.bind (Wp.bind (gR ρ 5) fun x => Wp.bind (Wp.bind (gR ρ 1) fun x => Wp.bind (gR ρ 4) fun y => pyIx x y) fun y => pyNotIn x y) asB)) (fun ρ => (Wp.bind (Wp.bind (gF ρ 4) fun x => Wp.bind (Wp.bind (gF ρ 5) fun x => Wp.bind (Wp.ret []) fun xs => .ret (x :: xs)) fun xs => .ret (x :: xs)) fun xs => .ret (Dt.tup xs))) (aN 5) (wipeE ρ [5]) xs [])) fun ys => .ret (Nw.l ys)) fun n => .ret n.dt) fun y => pyAdd x y) fun d => .ret (Sl.fz d)) fun x => .ret (Fl.nx (ρ.set 3 x)))
def mb__law_wastes : Env → Wp Fl := fun ρ =>
    (Wp.fl (Wp.bind (Wp.bind (Wp.bind (Wp.bind (gF ρ 0) fun x => Wp.bind (Wp.ret []) fun xs => .ret (x :: xs)) c__law_under) fun d => .ret (Sl.fz d)) fun u => Wp.bind (Wp.bind (Wp.bind (Wp.bind (gF ρ 0) fun x => Wp.bind (Wp.ret []) fun xs => .ret (x :: xs)) c__law_seen) fun d => .ret (Sl.fz d)) fun v => Wp.bind (Wp.bind (Wp.bind (Wp.ret []) fun xs => .ret (Dt.lst xs)) fun d => .ret (Sl.fz d)) fun w => .ret (Fl.nx (((ρ.set 1 u).set 2 v).set 3 w))) fun ρ =>
    (Wp.fl (Wp.bind (Wp.bind (gF ρ 2) itA) fun xs => forL lb__law_wastes_0 xs ρ) fun ρ =>
    (Wp.bind (gF ρ 3) fun d => .ret (Fl.rt d))))
def tb__law_refused_0 : Env → Wp Fl := fun ρ =>
    (wIf (Wp.bind (Wp.bind (gR ρ 2) fun x => Wp.bind (Wp.ret (Dt.int 0)) fun y => pyEq x y) asB) ((Wp.bind (gL ρ 1) fun xs => Wp.bind (Wp.bind (Wp.bind (Wp.bind (gF ρ 0) fun x => Wp.bind (Wp.ret []) fun xs => .ret (x :: xs)) fun ds => Wp.bind (onlyN (["BadLayout"] : List Str) (c_gapsT ds)) fun ys => .ret (Nw.l ys)) fun n => .ret n.dt) fun d => .gd (xs.length < sizeLine) (.ret (Fl.nx (ρ.set 1 (.ol (xs ++ [d]))))))) ((wIf (Wp.bind (Wp.bind (gR ρ 2) fun x => Wp.bind (Wp.ret (Dt.int 1)) fun y => pyEq x y) asB) ((Wp.bind (gL ρ 1) fun xs => Wp.bind (Wp.bind (Wp.bind (Wp.bind (gF ρ 0) fun x => Wp.bind (Wp.ret []) fun xs => .ret (x :: xs)) fun ds => Wp.bind (onlyN (["BadLayout"] : List Str) (c_wastesT ds)) fun ys => .ret (Nw.l ys)) fun n => .ret n.dt) fun d => .gd (xs.length < sizeLine) (.ret (Fl.nx (ρ.set 1 (.ol (xs ++ [d]))))))) ((Wp.bind (gL ρ 1) fun xs => Wp.bind (Wp.bind (Wp.bind (Wp.bind (Wp.bind (Wp.ret (Dt.glo "is_safe")) fun x => Wp.bind (Wp.bind (Wp.ret (Dt.glo "is_sparing")) fun x => Wp.bind (Wp.bind (Wp.ret (Dt.glo "is_exact")) fun x => Wp.bind (Wp.ret []) fun xs => .ret (x :: xs)) fun xs => .ret (x :: xs)) fun xs => .ret (x :: xs)) fun xs => .ret (Dt.lst xs)) fun x => Wp.bind (Wp.bind (gR ρ 2) fun x => Wp.bind (Wp.ret (Dt.int 2)) fun y => pySub x y) fun y => pyIx x y) fun f => .gd (isTb [("is_safe", c_is_safe), ("is_sparing", c_is_sparing), ("is_exact", c_is_exact)] f = true) (Wp.bind (Wp.bind (gF ρ 0) fun x => Wp.bind (Wp.ret []) fun xs => .ret (x :: xs)) (callTb [("is_safe", c_is_safe), ("is_sparing", c_is_sparing), ("is_exact", c_is_exact)] f))) fun d => .gd (xs.length < sizeLine) (.ret (Fl.nx (ρ.set 1 (.ol (xs ++ [d]))))))))))
def lb__law_refused_1 : Dt → Env → Wp Fl := fun x ρ => Wp.bind ((aN 2) x ρ) fun ρ =>
    (Wp.fl (Wp.bind (Wp.bind (Wp.ret Dt.non) fun d => .ret (Sl.fz d)) fun x => .ret (Fl.nx (ρ.set 3 x))) fun ρ =>
    (Wp.fl (tryC [("BadLayout", true)] 4 3 tb__law_refused_0 ρ) fun ρ =>
    (wIf (wOr (Wp.bind (Wp.bind (gR ρ 3) fun x => Wp.bind (Wp.ret Dt.non) fun y => pyIs x y) asB) (Wp.bind (Wp.bind (Wp.bind (gF ρ 3) (pyXf ["BadLayout"] "place")) fun x => Wp.bind (Wp.bind (Wp.ret []) fun xs => .ret (Dt.tup xs)) fun y => pyNe x y) asB)) ((Wp.bind (Wp.ret (Dt.bl false)) fun d => .ret (Fl.rt d))) ((Wp.ret (Fl.nx ρ))))))
def mb__law_refused : Env → Wp Fl := fun ρ =>
    (Wp.fl (Wp.bind (Wp.bind (Wp.bind (Wp.ret []) fun xs => .ret (Nw.l xs)) fun d => .ret d.sl) fun x => .ret (Fl.nx (ρ.set 1 x))) fun ρ =>
    (Wp.fl (Wp.bind (Wp.bind (Wp.bind (Wp.ret (Dt.int 5)) fun x => Wp.bind (Wp.ret []) fun xs => .ret (x :: xs)) itR1) fun xs => forL lb__law_refused_1 xs ρ) fun ρ =>
    (Wp.bind (Wp.bind (gR ρ 1) fun x => Wp.bind (Wp.bind (Wp.ret []) fun xs => .ret (Dt.lst xs)) fun y => pyEq x y) fun d => .ret (Fl.rt d))))
def lb_law_0 : Dt → Env → Wp Fl := fun x ρ => Wp.bind ((aN 7) x ρ) fun ρ =>
    (wIf (wOr (Wp.bind (Wp.bind (Wp.bind (Wp.bind (Wp.bind (Wp.bind (Wp.bind (gF ρ 3) fun x => Wp.bind (Wp.ret []) fun xs => .ret (x :: xs)) fun ds => Wp.bind (Wp.calm (c_gapsT ds)) fun ys => .ret (Nw.l ys)) fun n => .ret n.dt) fun x => Wp.bind (Wp.ret []) fun xs => .ret (x :: xs)) pyReprD) fun x => Wp.bind (Wp.bind (Wp.bind (gR ρ 5) fun x => Wp.bind (Wp.ret []) fun xs => .ret (x :: xs)) pyReprD) fun y => pyNe x y) asB) (Wp.bind (Wp.bind (Wp.bind (Wp.bind (Wp.bind (Wp.bind (Wp.bind (gF ρ 3) fun x => Wp.bind (Wp.ret []) fun xs => .ret (x :: xs)) fun ds => Wp.bind (Wp.calm (c_wastesT ds)) fun ys => .ret (Nw.l ys)) fun n => .ret n.dt) fun x => Wp.bind (Wp.ret []) fun xs => .ret (x :: xs)) pyReprD) fun x => Wp.bind (Wp.bind (Wp.bind (gR ρ 6) fun x => Wp.bind (Wp.ret []) fun xs => .ret (x :: xs)) pyReprD) fun y => pyNe x y) asB)) ((Wp.bind (Wp.ret (Dt.bl false)) fun d => .ret (Fl.rt d))) ((Wp.ret (Fl.nx ρ))))
def ct_law_1 : Env → Wp Fl := fun ρ =>
    (Wp.fl (Wp.bind (Wp.bind (Wp.bind (Wp.ret []) fun xs => .ret (Nw.l xs)) fun d => .ret d.sl) fun x => .ret (Fl.nx (ρ.set 9 x))) fun ρ =>
    (Wp.fl (Wp.bind (Wp.bind (gF ρ 3) fun x => Wp.bind (Wp.ret []) fun xs => .ret (x :: xs)) fun ds => Wp.bind (relY R_gaps ds) fun YS => forL (norsB (appW 10 9 2)) YS ρ) fun ρ =>
    (wIf (Wp.bind (Wp.bind (gR ρ 9) fun x => Wp.bind (Wp.bind (gR ρ 5) fun x => Wp.bind (Wp.ret none) fun l => Wp.bind (Wp.bind (Wp.ret (Dt.int 2)) asI) fun h => pySl x l h) fun y => pyNe x y) asB) ((Wp.bind (Wp.ret (Dt.bl false)) fun d => .ret (Fl.rt d))) ((Wp.ret (Fl.nx ρ))))))
def lb_law_2 : Dt → Env → Wp Fl := fun x ρ => Wp.bind ((aN 2) x ρ) fun ρ =>
    (Wp.fl (Wp.bind (Wp.bind (Wp.bind (Wp.bind (gF ρ 1) fun x => Wp.bind (Wp.bind (Wp.ret (Dt.int 24)) fun x => Wp.bind (Wp.ret []) fun xs => .ret (x :: xs)) fun xs => .ret (x :: xs)) c__law_layout) fun d => .ret (Sl.fz d)) fun x => .ret (Fl.nx (ρ.set 3 x))) fun ρ =>
    (Wp.fl (Wp.bind (Wp.bind (Wp.bind (Wp.bind (gR ρ 3) fun x => Wp.bind (Wp.ret []) fun xs => .ret (x :: xs)) pyReprD) fun d => .ret (Sl.fz d)) fun u => Wp.bind (Wp.bind (Wp.bind (Wp.bind (gF ρ 3) fun x => Wp.bind (Wp.ret []) fun xs => .ret (x :: xs)) c__law_gaps) fun d => .ret (Sl.fz d)) fun v => Wp.bind (Wp.bind (Wp.bind (Wp.bind (gF ρ 3) fun x => Wp.bind (Wp.ret []) fun xs => .ret (x :: xs)) c__law_wastes) fun d => .ret (Sl.fz d)) fun w => .ret (Fl.nx (((ρ.set 4 u).set 5 v).set 6 w))) fun ρ =>
    (Wp.fl (Wp.bind (Wp.bind (Wp.bind (Wp.ret (Dt.int 2)) fun x => Wp.bind (Wp.ret []) fun xs => .ret (x :: xs)) itR1) fun xs => forL lb_law_0 xs ρ) fun ρ =>
    (Wp.fl (Wp.bind (Wp.bind (Wp.bind (Wp.bind (Wp.bind (Wp.bind (gF ρ 3) fun x => Wp.bind (Wp.ret []) fun xs => .ret (x :: xs)) c_is_safe) fun x => Wp.bind (Wp.bind (Wp.bind (Wp.bind (gF ρ 3) fun x => Wp.bind (Wp.ret []) fun xs => .ret (x :: xs)) c_is_sparing) fun x => Wp.bind (Wp.bind (Wp.bind (Wp.bind (gF ρ 3) fun x => Wp.bind (Wp.ret []) fun xs => .ret (x :: xs)) c_is_exact) fun x => Wp.bind (Wp.ret []) fun xs => .ret (x :: xs)) fun xs => .ret (x :: xs)) fun xs => .ret (x :: xs)) fun xs => .ret (Dt.lst xs)) fun d => .ret (Sl.fz d)) fun x => .ret (Fl.nx (ρ.set 8 x))) fun ρ =>
    (Wp.fl (wIf (wOr (Wp.bind (Wp.bind (Wp.bind (Wp.bind (gR ρ 8) fun x => Wp.bind (Wp.ret []) fun xs => .ret (x :: xs)) pyReprD) fun x => Wp.bind (Wp.bind (Wp.bind (Wp.bind (Wp.bind (Wp.bind (gR ρ 5) fun x => Wp.bind (Wp.bind (Wp.ret []) fun xs => .ret (Dt.lst xs)) fun y => pyEq x y) fun x => Wp.bind (Wp.bind (Wp.bind (gR ρ 6) fun x => Wp.bind (Wp.bind (Wp.ret []) fun xs => .ret (Dt.lst xs)) fun y => pyEq x y) fun x => Wp.bind (Wp.bind (Wp.bind (Wp.bind (gR ρ 5) fun x => Wp.bind (gR ρ 6) fun y => pyAdd x y) fun x => Wp.bind (Wp.bind (Wp.ret []) fun xs => .ret (Dt.lst xs)) fun y => pyEq x y) fun x => Wp.bind (Wp.ret []) fun xs => .ret (x :: xs)) fun xs => .ret (x :: xs)) fun xs => .ret (x :: xs)) fun xs => .ret (Dt.lst xs)) fun x => Wp.bind (Wp.ret []) fun xs => .ret (x :: xs)) pyReprD) fun y => pyNe x y) asB) (Wp.bind (Wp.bind (Wp.bind (Wp.bind (gR ρ 3) fun x => Wp.bind (Wp.ret []) fun xs => .ret (x :: xs)) pyReprD) fun x => Wp.bind (gR ρ 4) fun y => pyNe x y) asB)) ((Wp.bind (Wp.ret (Dt.bl false)) fun d => .ret (Fl.rt d))) ((Wp.ret (Fl.nx ρ)))) fun ρ =>
    ct_law_1 ρ)))))
def mb_law : Env → Wp Fl := fun ρ =>
    (Wp.fl (Wp.bind (Wp.bind (Wp.bind (Wp.bind (gF ρ 0) fun x => Wp.bind (Wp.ret []) fun xs => .ret (x :: xs)) c__law_begun) fun d => .ret (Sl.fz d)) fun x => .ret (Fl.nx (ρ.set 1 x))) fun ρ =>
    (Wp.fl (Wp.bind (Wp.bind (Wp.bind (Wp.bind (Wp.ret (Dt.int 2)) fun x => Wp.bind (Wp.bind (Wp.bind (Wp.bind (Wp.ret (Dt.int 60)) fun x => Wp.bind (Wp.bind (Wp.bind (Wp.bind (gR ρ 0) fun x => Wp.bind (Wp.ret []) fun xs => .ret (x :: xs)) pyLenT) fun x => Wp.bind (Wp.ret []) fun xs => .ret (x :: xs)) fun xs => .ret (x :: xs)) pyMin) fun x => Wp.bind (Wp.ret (Dt.int 6)) fun y => pyDiv x y) fun y => pyAdd x y) fun x => Wp.bind (Wp.ret []) fun xs => .ret (x :: xs)) itR1) fun xs => forL lb_law_2 xs ρ) fun ρ =>
    (Wp.bind (vAnd (Wp.bind (Wp.bind (Wp.bind (Wp.ret []) fun xs => .ret (Dt.tup xs)) fun x => Wp.bind (Wp.ret []) fun xs => .ret (x :: xs)) c__law_refused) (vAnd (Wp.bind (Wp.bind (Wp.ret Dt.non) fun x => Wp.bind (Wp.ret []) fun xs => .ret (x :: xs)) c__law_refused) (Wp.bind (Wp.bind (Wp.bind (Wp.ret []) fun xs => .ret (Dt.lst xs)) fun x => Wp.bind (Wp.ret []) fun xs => .ret (x :: xs)) c__law_refused))) fun d => .ret (Fl.rt d))))
theorem k_onlyN {α : Type} (T : List Str) (m : Wp α) (Q : α → Prop) (E : Xn → Prop) : onlyN T m Q E = m Q fun x => T.contains x.c = true ∧ E x := rfl
theorem le_is_safe (ds : List Dt) (Q : Dt → Prop) (E : Xn → Prop) (h : c_is_safe ds Q E) : fnWp 1 mb_is_safe ds Q E := by
  simp only [fnWp_def, mb_is_safe]
  rcases h with ⟨L, rfl, hL, h⟩ | ⟨d, e, rfl, hb, h⟩
  · simp only [List.map_cons, List.map_nil, List.replicate, List.length_cons, List.length_nil, Nat.reduceSub, Nat.reduceAdd, List.cons_append, List.nil_append, EV, k_onlyN]
    refine .inl ⟨L, rfl, hL, ?_⟩
    simp only [EV, gp_eq, (gp_ok hL).eq0]
    exact h
  · simp only [List.map_cons, List.map_nil, List.replicate, List.length_cons, List.length_nil, Nat.reduceSub, Nat.reduceAdd, List.cons_append, List.nil_append, EV, k_onlyN]
    exact .inr ⟨d, e, rfl, hb, by show (["BadLayout"] : List Str).contains "BadLayout" = true; decide +kernel, h⟩
theorem le_is_sparing (ds : List Dt) (Q : Dt → Prop) (E : Xn → Prop) (h : c_is_sparing ds Q E) : fnWp 1 mb_is_sparing ds Q E := by
  simp only [fnWp_def, mb_is_sparing]
  rcases h with ⟨L, rfl, hL, h⟩ | ⟨d, e, rfl, hb, h⟩
  · simp only [List.map_cons, List.map_nil, List.replicate, List.length_cons, List.length_nil, Nat.reduceSub, Nat.reduceAdd, List.cons_append, List.nil_append, EV, k_onlyN]
    refine .inl ⟨L, rfl, hL, ?_⟩
    simp only [EV, (wst_ok hL).eq0]
    exact h
  · simp only [List.map_cons, List.map_nil, List.replicate, List.length_cons, List.length_nil, Nat.reduceSub, Nat.reduceAdd, List.cons_append, List.nil_append, EV, k_onlyN]
    exact .inr ⟨d, e, rfl, hb, by show (["BadLayout"] : List Str).contains "BadLayout" = true; decide +kernel, h⟩
theorem le_is_exact (ds : List Dt) (Q : Dt → Prop) (E : Xn → Prop) (h : c_is_exact ds Q E) : fnWp 1 mb_is_exact ds Q E := by
  simp only [fnWp_def, mb_is_exact]
  rcases h with ⟨L, rfl, hL, h⟩ | ⟨d, e, rfl, hb, h⟩
  · simp only [List.map_cons, List.map_nil, List.replicate, List.length_cons, List.length_nil, Nat.reduceSub, Nat.reduceAdd, List.cons_append, List.nil_append, EV]
    refine .inl ⟨L, rfl, hL, ?_⟩
    cases c : (gpL L).isEmpty with
    | true =>
      rw [c] at h
      simp only [EV, if_true]
      exact .inl ⟨L, rfl, hL, by simpa [EV] using h⟩
    | false =>
      rw [c] at h
      simp only [EV, Bool.false_eq_true, if_false]
      simpa [EV] using h
  · simp only [List.map_cons, List.map_nil, List.replicate, List.length_cons, List.length_nil, Nat.reduceSub, Nat.reduceAdd, List.cons_append, List.nil_append, EV]
    exact .inr ⟨d, e, rfl, hb, h⟩
theorem le__law_wastes (ds : List Dt) (Q : Dt → Prop) (E : Xn → Prop) (h : c__law_wastes ds Q E) : fnWp 6 mb__law_wastes ds Q fun _ => False := by
  obtain ⟨L, rfl, hL, h⟩ := h
  have sl : sizeLine = 16777216 := by decide
  have l2 := hL.l2
  simp only [fnWp_def, mb__law_wastes, List.map_cons, List.map_nil, List.replicate, List.length_cons, List.length_nil, Nat.reduceSub, Nat.reduceAdd, List.cons_append, List.nil_append, EV]
  refine ⟨_, L, rfl, .t L, hL, ?_⟩
  simp only [EV]
  refine ⟨L, rfl, hL, ?_⟩
  simp only [EV, lawU, seenT, kw_keysK]
  refine k_for (fun k : Kd => Dt.str k.nm) (l := L) (fun pre ρ => ∃ (s4 : Sl), ρ = [.fz (layD L), .fz (.dct (mapT lstT (unders L))), .fz (.dct (mapT (fun k => lstT (watchedL L k)) (kwOf L))), .fz (.lst ((pre.flatMap (wstK L)).map prT)), s4, .no]) ⟨_, rfl⟩ ?_ ?_
  · rintro pre k rest ρ K e ⟨s4, rfl⟩ hK
    have hk : k ∈ L := by rw [e]; simp
    have hp : pre.length < 24 := by have := congrArg List.length e; simp at this; omega
    have hwl := watch_len (L := L) k
    have hpl := wst_len l2 pre
    simp only [lb__law_wastes_0, EV, look_seenT hL hk, (IsRow.l (watchedL L k)).it]
    refine k_comp Dt.str (fun x => !decide (x ∈ under L k.nm)) (fun x => Dt.tup [.str k.nm, .str x]) (l := watchedL L k) (by simp; omega) (fun x hx K1 K0 g1 g0 => ?_) ?_
    · simp only [EV, lookU hk, (IsRow.l (under L k.nm)).notIn]
      by_cases c : x ∈ under L k.nm
      · rw [if_pos c]; exact g0 (by simp [c])
      · rw [if_neg c]; exact g1 (by simp [c])
    have e1 : [] ++ ((watchedL L k).filter fun x => !decide (x ∈ under L k.nm)).map (fun x => Dt.tup [.str k.nm, .str x]) = (wstK L k).map prT := by rw [wstK, List.map_map]; rfl
    have e2 : (pre.flatMap (wstK L)).map prT ++ (wstK L k).map prT = ((pre ++ [k]).flatMap (wstK L)).map prT := by simp
    have h3 : (wstK L k).length ≤ 24 := by
      rw [wstK, List.length_map]; exact Nat.le_trans (List.length_filter_le _ _) (by omega)
    rw [e1]
    simp only [EV, e2]
    exact ⟨by simp only [List.length_map]; omega, hK _ ⟨_, rfl⟩⟩
  · rintro ρ ⟨s4, rfl⟩
    simp only [EV]
    exact h
theorem try_x {tb : List (PySem.Str × Bool)} {i j : Nat} {m : Env → Wp Fl} {ρ : Env} {Q : Fl → Prop} {E : Xn → Prop} (c : PySem.Str) (fs : List (PySem.Str × Dt)) (ht : tb.lookup c = some true) (h : ∀ (Q1 : Fl → Prop) (E1 : Xn → Prop), E1 ⟨c, fs⟩ → m ρ Q1 E1) (q : Q (.nx (((ρ.set i .no).set j (.fz (.exc c fs))).set i .no))) : tryC tb i j m ρ Q E := by
  apply h
  show (match tb.lookup c with | some true => _ | some false => _ | none => False)
  rw [ht]; exact q
theorem xf_place (d : Dt) (Q : Dt → Prop) (E : Xn → Prop) : pyXf ["BadLayout"] "place" (.exc "BadLayout" [("place", d)]) Q E = Q d := pyXf_ok (by decide +kernel) (by simp [List.lookup]) Q E
theorem nilL (Q : Dt → Prop) (E : Xn → Prop) : pyEq (.lst []) (.lst []) Q E = Q (.bl true) := by
  have h2 : Pl (.lst []) := (Pl.lst (n := 0) (by decide) fun x hx => by cases hx).1
  rw [pyEq_pl h2 h2, eqD_self h2]; rfl
theorem nilT (Q : Dt → Prop) (E : Xn → Prop) : pyNe (.tup []) (.tup []) Q E = Q (.bl false) := by
  have h2 : Pl (.tup []) := (Pl.tup (n := 0) (by decide) fun x hx => by cases hx).1
  rw [pyNe_pl h2 h2, eqD_self h2]; rfl
theorem le__law_refused (ds : List Dt) (Q : Dt → Prop) (E : Xn → Prop) (h : c__law_refused ds Q E) : fnWp 5 mb__law_refused ds Q fun _ => False := by
  obtain ⟨d, rfl, hb, h⟩ := h
  simp only [fnWp_def, mb__law_refused, List.map_cons, List.map_nil, List.replicate, List.length_cons, List.length_nil, Nat.reduceSub, Nat.reduceAdd, List.cons_append, List.nil_append, EV]
  refine ⟨⟨by decide, by decide⟩, ?_⟩
  refine k_for (fun i : Nat => Dt.int (0 + (i : Nat))) (l := List.range 5) (fun pre ρ => ∃ s2 s3 : Sl, ρ = [.fz d, .ol [], s2, s3, .no]) ⟨_, _, rfl⟩ ?_ ?_
  · rintro pre i rest ρ K e ⟨s2, s3, rfl⟩ hK
    have hi : i < 5 := by have : i ∈ List.range 5 := by rw [e]; simp
                          simpa using this
    simp only [lb__law_refused_1, EV]
    refine try_x "BadLayout" [("place", .tup [])] (by decide +kernel) (fun Q1 E1 e1 => ?_) ?_
    · simp only [tb__law_refused_0, EV, k_onlyN]
      have hx : (["BadLayout"] : List Str).contains "BadLayout" = true := by decide +kernel
      have hc : i = 0 ∨ i = 1 ∨ i = 2 ∨ i = 3 ∨ i = 4 := by omega
      rcases hc with rfl | rfl | rfl | rfl | rfl
      · rw [if_pos (by decide)]
        exact .inr ⟨d, _, rfl, hb, hx, e1⟩
      · rw [if_neg (by decide), if_pos (by decide)]
        exact .inr ⟨d, _, rfl, hb, hx, e1⟩
      · rw [if_neg (by decide), if_neg (by decide), show L2.atI [Dt.glo "is_safe", Dt.glo "is_sparing", Dt.glo "is_exact"] (0 + ((2 : Nat) : Int) - 2) = some (.glo "is_safe") from rfl, ofO_s]
        refine ⟨by decide +kernel, ?_⟩
        rw [show callTb [("is_safe", c_is_safe), ("is_sparing", c_is_sparing), ("is_exact", c_is_exact)] (.glo "is_safe") = c_is_safe from rfl]
        exact .inr ⟨d, _, rfl, hb, e1⟩
      · rw [if_neg (by decide), if_neg (by decide), show L2.atI [Dt.glo "is_safe", Dt.glo "is_sparing", Dt.glo "is_exact"] (0 + ((3 : Nat) : Int) - 2) = some (.glo "is_sparing") from rfl, ofO_s]
        refine ⟨by decide +kernel, ?_⟩
        rw [show callTb [("is_safe", c_is_safe), ("is_sparing", c_is_sparing), ("is_exact", c_is_exact)] (.glo "is_sparing") = c_is_sparing from rfl]
        exact .inr ⟨d, _, rfl, hb, e1⟩
      · rw [if_neg (by decide), if_neg (by decide), show L2.atI [Dt.glo "is_safe", Dt.glo "is_sparing", Dt.glo "is_exact"] (0 + ((4 : Nat) : Int) - 2) = some (.glo "is_exact") from rfl, ofO_s]
        refine ⟨by decide +kernel, ?_⟩
        rw [show callTb [("is_safe", c_is_safe), ("is_sparing", c_is_sparing), ("is_exact", c_is_exact)] (.glo "is_exact") = c_is_exact from rfl]
        exact .inr ⟨d, _, rfl, hb, e1⟩
    · simp only [EV, k_isN, xf_place, nilT, Bool.false_eq_true, if_false]
      exact hK _ ⟨_, _, rfl⟩
  · rintro ρ ⟨s2, s3, rfl⟩
    simp only [EV, nilL]
    exact h
end Mv


namespace Mv
open PySem L2 PyProof.Rows
theorem k_isTB (b : Bool) : Sh (.bl b) 0 1930 := by cases b <;> exact ⟨rfl, by decide, Nat.le_refl _⟩
theorem repr_b3 (a b c : Bool) (Q : Dt → Prop) (E : Xn → Prop) : pyReprD [.lst [.bl a, .bl b, .bl c]] Q E = Q (.str (shown (.lst [.bl a, .bl b, .bl c]))) :=
  k_reprS (n := 1) (w := 6000) ((Sh.lst (n := 0) (w := 1930) (m := 3) (fun x hx => by
    simp only [List.mem_cons, List.not_mem_nil, or_false] at hx
    rcases hx with rfl | rfl | rfl <;> exact k_isTB _) (by simp)).mono (Nat.le_refl _) (by omega)) (by decide) (by decide) Q E
theorem cut_two {α : Type} (l : List α) : cutD l none (some 2) = l.take 2 := by
  show cutD l none (some ((2 : Nat) : Int)) = _
  unfold cutD
  rw [HT.sIx_nat, HT.sIx_none, List.drop_zero, Nat.sub_zero]
  conv => rhs; rw [List.take_eq_take_min]
/-- the loop over the sleeping generator takes two at most -/
theorem loop_two (a b c d e f g h i : Sl) (YS : List Dt) (Q : Fl → Prop) (E : Xn → Prop) (q : ∀ s : Sl, Q (.nx [a, b, c, d, e, f, g, h, i, .ol (YS.take 2), s])) (s0 : Sl) : forL (norsB (appW 10 9 2)) YS [a, b, c, d, e, f, g, h, i, .ol [], s0] Q E := by
  have sl : sizeLine = 16777216 := by decide
  match YS, q with
  | [], q => exact q s0
  | [x], q =>
    show (0 + 1 < sizeLine) ∧ _
    exact ⟨by omega, q _⟩
  | x :: y :: r, q =>
    show (0 + 1 < sizeLine) ∧ _
    refine ⟨by omega, ?_⟩
    show (1 + 1 < sizeLine) ∧ _
    exact ⟨by omega, q _⟩
theorem le_law (ds : List Dt) (Q : Dt → Prop) (E : Xn → Prop) (h : c_law ds Q E) : fnWp 11 mb_law ds Q fun _ => False := by
  obtain ⟨ns, rfl, hl, h⟩ := h
  have sl : sizeLine = 16777216 := by decide
  simp only [fnWp_def, mb_law, List.map_cons, List.map_nil, List.replicate, List.length_cons, List.length_nil, Nat.reduceSub, Nat.reduceAdd, List.cons_append, List.nil_append, EV, k_lens]
  refine ⟨ns, rfl, hl, ⟨by decide, by decide⟩, ?_, ?_⟩
  · split <;> omega
  refine k_for (fun i : Nat => Dt.int (0 + (i : Nat))) (l := List.range _) (fun pre ρ => ∃ s2 s3 s4 s5 s6 s7 s8 s9 s10 : Sl, ρ = [.fz (.scr ns), .fz .drw, s2, s3, s4, s5, s6, s7, s8, s9, s10]) ⟨_, _, _, _, _, _, _, _, _, rfl⟩ ?_ ?_
  · rintro pre i rest ρ K e ⟨s2, s3, s4, s5, s6, s7, s8, s9, s10, rfl⟩ hK
    simp only [lb_law_2, EV]
    refine ⟨24, rfl, by decide, by decide, fun L hL _ => ?_⟩
    have pg := gp_ok hL
    have pw := wst_ok hL
    simp only [EV, reprS_lay hL]
    refine ⟨L, rfl, hL, L, rfl, hL, ?_⟩
    simp only [gp_eq]
    refine ⟨⟨by decide, by decide⟩, ?_⟩
    refine k_for (fun i : Nat => Dt.int (0 + (i : Nat))) (l := List.range _) (fun pre ρ => ∃ s7 : Sl, ρ = [.fz (.scr ns), .fz .drw, .fz (.int (0 + (i : Nat))), .fz (layD L), .fz (.str (shown (layD L))), .fz (.lst ((gpL L).map prT)), .fz (.lst ((wstL L).map prT)), s7, s8, s9, s10]) ⟨_, rfl⟩ ?_ ?_
    · rintro pre2 i2 rest2 ρ K2 e2 ⟨s7, rfl⟩ hK2
      simp only [lb_law_0, EV]
      refine .inl ⟨L, rfl, hL, ?_⟩
      simp only [EV, gp_eq, pg.repr, decide_true, Bool.not_true, Bool.false_eq_true, if_false]
      refine .inl ⟨L, rfl, hL, ?_⟩
      simp only [EV, pw.repr, decide_true, Bool.not_true, Bool.false_eq_true, if_false]
      exact hK2 _ ⟨_, rfl⟩
    rintro ρ ⟨s7, rfl⟩
    simp only [EV]
    refine .inl ⟨L, rfl, hL, ?_⟩
    refine .inl ⟨L, rfl, hL, ?_⟩
    refine .inl ⟨L, rfl, hL, ?_⟩
    simp only [EV, repr_b3, pg.eq0, pw.eq0]
    have lg := gp_len hL
    have lw := wsL_len hL
    have pgw : PsN (gpL L ++ wstL L) := ⟨by rw [List.length_append]; omega, fun p hp => (List.mem_append.mp hp).elim (pg.2 p) (pw.2 p)⟩
    refine ⟨by simp only [List.length_map]; omega, ?_⟩
    rw [← List.map_append, pgw.eq0, show (gpL L ++ wstL L).isEmpty = ((gpL L).isEmpty && (wstL L).isEmpty) from by cases gpL L <;> rfl]
    simp only [EV, repr_b3, reprS_lay hL, decide_true, Bool.not_true, Bool.false_eq_true, if_false, ct_law_1]
    refine ⟨_, ⟨L, rfl, hL, rfl⟩, ?_⟩
    refine loop_two _ _ _ _ _ _ _ _ _ _ _ _ (fun s => ?_) _
    simp only [EV, gp_eq]
    rw [cut_two, ← List.map_take, pg.take.ne]
    simp only [EV, Bool.false_eq_true, if_false]
    exact hK _ ⟨_, _, _, _, _, _, _, _, _, rfl⟩
  · rintro ρ ⟨s2, s3, s4, s5, s6, s7, s8, s9, s10, rfl⟩
    have b1 : BadPl (.tup []) (.tup []) := .nil
    have b2 : BadPl .non (.tup []) := .kind rfl (fun z => by cases z)
    have b3 : BadPl (.lst []) (.tup []) := .kind rfl (fun z => by cases z)
    simp only [EV]
    refine ⟨_, rfl, b1, ?_⟩
    simp only [EV, if_true]
    refine ⟨_, rfl, b2, ?_⟩
    simp only [EV, if_true]
    refine ⟨_, rfl, b3, ?_⟩
    simp only [EV]
    exact h
end Mv


namespace Mv
open PySem L2 PyProof.Rows

abbrev s__law_next : Stmt := topS 25
theorem sc__law_next : FnScope (["draw", "below", "great", "at", "found", "mixed"] : List Str) (["draw", "below"] : List Str) (defScope s__law_next) := ⟨rfl, rfl, rfl, by decide +kernel, rfl, by decide +kernel, by decide +kernel⟩
def Kp (a g : Addr) (H H' : Hp) : Prop := ∀ b o, b ≠ a → b ≠ g → H b = some o → H' b = some o
theorem Kp.new {a g p : Addr} {H H' : Hp} {o : HO} (k : Kp a g H H') (n : H' p = none) : Kp a g H (upd H' p o) := fun b u h1 h2 e => by
  have := k b u h1 h2 e
  rw [upd_ne (ne_of_none this n)]; exact this
theorem Kp.a {a g : Addr} {H H' : Hp} {o : HO} (k : Kp a g H H') : Kp a g H (upd H' a o) := fun b u h1 h2 e => by
  rw [upd_ne h1]; exact k b u h1 h2 e
theorem Kp.g {a g : Addr} {H H' : Hp} {o : HO} (k : Kp a g H H') : Kp a g H (upd H' g o) := fun b u h1 h2 e => by
  rw [upd_ne h2]; exact k b u h1 h2 e
theorem Kp.close {Z : Kx} {a g : Addr} {B H H' : Hp} (k : Kp a g H H') (ne : a ≠ g) (ha : H a = some (drwD Z a g)) (hg : H g = some (drwG Z g)) (hB : Ex B H) : Gr B H B (upd (upd H' a (drwD Z a g)) g (drwG Z g)) := by
  have all : ∀ b o, H b = some o → (upd (upd H' a (drwD Z a g)) g (drwG Z g)) b = some o := fun b o e => by
    by_cases eg : b = g
    · subst eg; rw [upd_same]; rw [hg] at e; exact e
    · rw [upd_ne eg]
      by_cases ea : b = a
      · subst ea; rw [upd_same]; rw [ha] at e; exact e
      · rw [upd_ne ea]; exact k b o ea eg e
  exact ⟨.refl _, fun b o e => all b o (hB b o e), fun b o n e => ⟨all b o e, n⟩⟩
theorem kmt : ¬ (Sum.inr ("mixed" : Str) : Key) = Sum.inr ("turn" : Str) := by decide +kernel
theorem kgt : ¬ (Sum.inr ("great" : Str) : Key) = Sum.inr ("turn" : Str) := by decide +kernel
theorem kmg : ¬ (Sum.inr ("mixed" : Str) : Key) = Sum.inr ("great" : Str) := by decide +kernel
theorem kgm : ¬ (Sum.inr ("great" : Str) : Key) = Sum.inr ("mixed" : Str) := by decide +kernel
theorem ktm : ¬ (Sum.inr ("turn" : Str) : Key) = Sum.inr ("mixed" : Str) := by decide +kernel
theorem lk_turn (g : Addr) (m t : Int) : valV (drwK g m t) (.inr "turn") = some (.int t) := by
  unfold drwK
  rw [valV_neg kmt, valV_neg kgt, valV_pos rfl]
theorem lk_great (g : Addr) (m t : Int) : valV (drwK g m t) (.inr "great") = some (.ref g) := by
  unfold drwK
  rw [valV_neg kmg, valV_pos rfl]
theorem lk_mixed (g : Addr) (m t : Int) : valV (drwK g m t) (.inr "mixed") = some (.int m) := by
  unfold drwK
  rw [valV_pos rfl]
theorem put_turn (g : Addr) (m t t' : Int) : putK (drwK g m t) (.inr "turn") (.int t') = drwK g m t' := by
  have h : ((drwK g m t).any fun kv => decide (kv.1 = (Sum.inr ("turn" : Str) : Key))) = true := by rw [valV_any, lk_turn]; rfl
  unfold putK
  rw [if_pos h]
  simp only [drwK, List.map_cons, List.map_nil, if_neg kmt, if_neg kgt, if_true]
theorem put_mixed (g : Addr) (m m' t : Int) : putK (drwK g m t) (.inr "mixed") (.int m') = drwK g m' t := by
  have h : ((drwK g m t).any fun kv => decide (kv.1 = (Sum.inr ("mixed" : Str) : Key))) = true := by rw [valV_any, lk_mixed]; rfl
  unfold putK
  rw [if_pos h]
  simp only [drwK, List.map_cons, List.map_nil, if_neg kgm, if_neg ktm, if_true]
theorem g_turn {H : Hp} {a g : Addr} {m t : Int} (e : H a = some (.dK (drwK g m t))) : DGet H a (.str "turn") (some (.int t)) := by
  have := DGet.k (k := Sum.inr "turn") e; rw [lk_turn] at this; exact this
theorem g_great {H : Hp} {a g : Addr} {m t : Int} (e : H a = some (.dK (drwK g m t))) : DGet H a (.str "great") (some (.ref g)) := by
  have := DGet.k (k := Sum.inr "great") e; rw [lk_great] at this; exact this
theorem g_mixed {H : Hp} {a g : Addr} {m t : Int} (e : H a = some (.dK (drwK g m t))) : DGet H a (.str "mixed") (some (.int m)) := by
  have := DGet.k (k := Sum.inr "mixed") e; rw [lk_mixed] at this; exact this
theorem p_turn {H : Hp} {a g : Addr} {m t t' : Int} (e : H a = some (.dK (drwK g m t))) : DPut H a (.str "turn") (.int t') (upd H a (.dK (drwK g m t'))) := by
  have := DPut.k (k := Sum.inr "turn") (v := .int t') e (by show 3 < sizeLine; decide); rw [put_turn] at this; exact this
theorem p_mixed {H : Hp} {a g : Addr} {m t m' : Int} (e : H a = some (.dK (drwK g m t))) : DPut H a (.str "mixed") (.int m') (upd H a (.dK (drwK g m' t))) := by
  have := DPut.k (k := Sum.inr "mixed") (v := .int m') e (by show 3 < sizeLine; decide); rw [put_mixed] at this; exact this
theorem at_mod {ns : List Int} {i : Int} (h0 : 0 ≤ i) (h : i < ns.length) : atI (ns.map V.int) i = some (.int (ns.getD i.toNat 0)) := by
  unfold atI ixN
  rw [if_pos h0, if_pos (by rw [List.length_map]; exact h)]
  have hl : i.toNat < ns.length := by omega
  simp [hl]
theorem ifT {c : Bool} {A B : Prop} (h : c = true) (x : A) : if c = true then A else B := by rw [if_pos h]; exact x
theorem ifF {c : Bool} {A B : Prop} (h : ¬ c = true) (x : B) : if c = true then A else B := by rw [if_neg h]; exact x
theorem dpInts {K : PySem.W.Frag} {H : Hp} : ∀ ns : List Int, DpAll K H (ns.map V.int) (ns.map PyData.int)
  | [] => .nil
  | n :: ns => .cons (.int n) (dpInts ns)
theorem cl0Ints : ∀ ns : List Int, PyData.canLayAll0 (ns.map PyData.int) = true
  | [] => rfl
  | n :: ns => by
    have := cl0Ints ns
    simp only [List.map_cons, PyData.canLayAll0, PyData.canLay0, Bool.and_eq_true]
    exact ⟨by trivial, this⟩
theorem dpthInts : ∀ ns : List Int, PyData.depthAll (ns.map PyData.int) ≤ 8
  | [] => by simp [PyData.depthAll]
  | n :: ns => by
    have := dpthInts ns
    exact Nat.max_le.mpr ⟨Nat.zero_le _, this⟩
theorem shInts (ns : List Int) : SeqAt.shaped (.list (ns.map PyData.int)) = true := by
  have h1 := cl0Ints ns
  have h2 := dpthInts ns
  unfold SeqAt.shaped
  exact Bool.and_eq_true_iff.mpr ⟨h1, decide_eq_true (show PyData.depthAll _ + 1 ≤ 64 by omega)⟩
section
variable {P : Program} {w : World} {K : PySem.W.Frag} {mg : Str → Option Value} {base : Heap} {fa : Addr} {fd : FuncData}
theorem ok__law_next (F : FunD K "_law_next" "_law_next" (defArgs s__law_next) (defBody s__law_next) (defScope s__law_next) [] [] fa fd) (b_int : mg "int" = none) (b_max : mg "max" = none) (b_len : mg "len" = none) :
    FnOk P w K mg base CX0 1 fa fd ["draw", "below"] (spM ⟨K, P, w⟩ 2 c__law_next) := by
  refine F.ok sc__law_next (fun vs H Q E h => h.1) fun cdv A outer s H vs Q E hr h => ?_
  obtain ⟨hl, B, ds, hB, r, q⟩ := h
  have hu := hr.u65
  have hu1 := hu_of hr
  have scn := sc__law_next.nd
  refine ⟨_, PSs.nox (pss_openD (pss_cons (ps_asg (pe_tup (pa_cons (pe_op op_add (pe_dget hu1 (pv 0) pe_str (fun _ _ => rfl)) pe_int) (pa_cons (pe_dget hu1 (pv 0) pe_str (fun _ _ => rfl)) pa_nil))) (pg_tup rfl (pgs_cons (pg_sub (pv 0) pe_str (set_dict hu1)) (pgs_cons (pg_name (i := 2) scn rfl (Or.inl rfl)) pgs_nil))))
    (pss_cons (ps_set (i := 3) scn rfl (Or.inl rfl) (pe_op op_mod (pe_callTy call_int1 rfl b_int (by decide +kernel) (pa_cons (pe_dget hu1 (pv 0) pe_str (fun _ _ => rfl)) pa_nil)) (pe_callB (call_max2 rfl) rfl b_max (by decide +kernel) (pa_cons pe_int (pa_cons (pe_callB call_len rfl b_len (by decide +kernel) (pa_cons (pv 2) pa_nil)) pa_nil)))))
    (pss_cons (ps_if (PW.pt (pw_and (pt_cmpR (op_neD hr.units) (pv 2) (pe_lst pa_nil) (nomark _)) (pw_and1 (pt_cmpR op_gt (pe_ix ix_list (pv 2) (pv 3) (fun _ _ => rfl)) pe_int (nomark _)))))
      (pss_cons (ps_set (i := 4) scn rfl (Or.inl rfl) (pe_op op_mod (pe_callTy call_int1 rfl b_int (by decide +kernel) (pa_cons (pe_ix ix_list (pv 2) (pv 3) (fun _ _ => rfl)) pa_nil)) (pv 1)))
      (pss_cons (ps_asg (pe_op op_fdiv (pe_ix ix_list (pv 2) (pv 3) (fun _ _ => rfl)) (pv 1)) (pg_sub (pv 2) (pv 3) set_list))
      (pss_one (ps_ret (pv 4))))) pss_nil)
    (pss_cons (ps_set (i := 5) scn rfl (Or.inl rfl) (pe_callTy call_int1 rfl b_int (by decide +kernel) (pa_cons (pe_op op_add (pe_op op_add (pe_op op_mul (pe_dget hu1 (pv 0) pe_str (fun _ _ => rfl)) pe_int) (pe_op op_mul pe_int (pe_dget hu1 (pv 0) pe_str (fun _ _ => rfl)))) pe_int) pa_nil)))
    (pss_cons (ps_dput hu1 (pv 0) pe_str (pe_op op_mod (pe_callTy call_int1 rfl b_int (by decide +kernel) (pa_cons (pv 5) pa_nil)) pe_int) rfl)
    (pss_one (ps_ret (pe_op op_mod (pe_callTy call_int1 rfl b_int (by decide +kernel) (pa_cons (pe_op op_fdiv (pe_dget hu1 (pv 0) pe_str (fun _ _ => rfl)) pe_int) pa_nil)) (pv 1))))))))))
    , ?_⟩
  unfold c__law_next at q
  split at q
  · rename_i n
    cases r with
    | cons r1 r =>
      cases r with
      | cons r2 r =>
        cases r
        cases r2
        cases r1 with
        | drw ne ba bg =>
          rename_i a g
          obtain ⟨⟨n0, n1⟩, q⟩ := q
          have Ha := hB _ _ ba
          have Hg := hB _ _ bg
          refine ⟨a, g, ne, Ha, Hg, fun m ts ns h1 h2 h3 => ?_⟩
          have ng : g ≠ a := Ne.symm ne
          have e1 : (upd (upd H a (.dK (drwK g m ts))) g (.lst (ns.map V.int))) a = some (.dK (drwK g m ts)) := by rw [upd_ne ne, upd_same]
          have k1 : Kp a g H (upd (upd H a (.dK (drwK g m ts))) g (.lst (ns.map V.int))) := (Kp.a (fun _ _ _ _ e => e)).g
          -- the tuple
          refine ⟨_, rfl, _, _, rfl, g_turn e1, _, _, rfl, rfl, _, rfl, _, _, rfl, g_great e1, by show 2 ≤ sizeLine; decide, fun p np => ?_⟩
          have pa : a ≠ p := ne_of_none e1 np
          have pg : g ≠ p := ne_of_none upd_same np
          have e2 : (upd (upd (upd H a (.dK (drwK g m ts))) g (.lst (ns.map V.int))) p (.tup [.int (ts + 1), .ref g])) a = some (.dK (drwK g m ts)) := by rw [upd_ne pa]; exact e1
          refine ⟨p, _, rfl, .inl (.inl upd_same), rfl, _, _, rfl, _, rfl, a, _, rfl, p_turn e2, _, _, rfl, rfl, ?_⟩
          generalize hH3 : upd (upd (upd (upd H a (.dK (drwK g m ts))) g (.lst (ns.map V.int))) p (.tup [.int (ts + 1), .ref g])) a (.dK (drwK g m (ts + 1))) = H3
          have e3 : H3 a = some (.dK (drwK g m (ts + 1))) := by rw [← hH3, upd_same]
          have f3 : H3 g = some (.lst (ns.map V.int)) := by rw [← hH3, upd_ne ng, upd_ne pg, upd_same]
          have k3 : Kp a g H H3 := by rw [← hH3]; exact (k1.new np).a
          clear hH3
          -- at
          refine ⟨_, rfl, _, _, rfl, g_turn e3, .inl ⟨_, rfl, _, rfl, _, _, rfl, .inl ⟨_, .inl (.inl f3), rfl⟩, _, _, rfl, _, _, rfl, rfl, ?_, ?_⟩⟩
          · split <;> omega
          generalize hj : (if ((ns.map V.int).length : Int) > 1 then ((ns.map V.int).length : Int) else 1) = j
          have j0 : 0 < j := by rw [← hj]; split <;> omega
          have at0 : 0 ≤ (ts + 1) % j := Int.emod_nonneg _ (by omega)
          have at1 : (ts + 1) % j < j := Int.emod_lt_of_pos _ j0
          -- if
          refine ⟨_, rfl, by show 0 ≤ sizeLine; decide, fun p2 np2 => ?_⟩
          have e4 : (upd H3 p2 (.lst [])) a = some (.dK (drwK g m (ts + 1))) := by rw [upd_ne (ne_of_none e3 np2)]; exact e3
          have f4 : (upd H3 p2 (.lst [])) g = some (.lst (ns.map V.int)) := by rw [upd_ne (ne_of_none f3 np2)]; exact f3
          have k4 : Kp a g H (upd H3 p2 (.lst [])) := k3.new np2
          have u4 : (upd H3 p2 (.lst [])) p2 = some (.lst []) := upd_same
          generalize upd H3 p2 (.lst []) = H4 at e4 f4 k4 u4
          refine ⟨.list (ns.map .int), .list [], .lst (.inl (.inl f4)) (dpInts _), .lst (.inl (.inl u4)) .nil, shInts _, rfl, ?_⟩
          refine ⟨_, rfl, ?_⟩
          by_cases hn : (!PyData.eqv (.list (ns.map .int)) (.list [])) = true
          · have hl0 : ns ≠ [] := fun e => by rw [e] at hn; revert hn; decide
            have hj2 : j = ns.length := by
              have : 0 < ns.length := List.length_pos_iff.mpr hl0
              rw [← hj, List.length_map]; split <;> omega
            have hat : atI (ns.map V.int) ((ts + 1) % j) = some (.int (ns.getD ((ts + 1) % j).toNat 0)) := at_mod at0 (by omega)
            have hix : ixN (ns.map V.int).length ((ts + 1) % j) = some ((ts + 1) % j).toNat := by
              unfold ixN
              rw [if_pos at0, if_pos (by rw [List.length_map]; omega)]
            refine ifT hn ⟨_, rfl, _, rfl, _, _, _, _, rfl, rfl, .inl (.inl f4), hat, _, _, rfl, rfl, _, rfl, ?_⟩
            by_cases hx : decide ((0 : Int) < ns.getD ((ts + 1) % j).toNat 0) = true
            · refine ifT hx ⟨_, rfl, _, rfl, _, _, _, _, rfl, rfl, .inl (.inl f4), hat, .inl ⟨_, rfl, _, rfl, _, _, rfl, rfl, n0, ?_⟩⟩
              refine ⟨_, rfl, _, rfl, _, _, _, _, rfl, rfl, .inl (.inl f4), hat, _, rfl, _, _, rfl, rfl, ⟨n0, n1⟩, ?_⟩
              refine ⟨_, rfl, _, rfl, _, _, _, _, rfl, rfl, f4, hix, _, rfl, m, ts + 1, ns.set ((ts + 1) % j).toNat (ns.getD ((ts + 1) % j).toNat 0 / n), h1, by omega, by rw [List.length_set]; exact h3, by rw [upd_ne ne]; exact e4, ?_, ?_⟩
              · rw [upd_same, List.map_set]
              · exact q _ (Int.emod_nonneg _ (by omega)) (Int.emod_lt_of_pos _ n0) _ _ _ (k4.g.close ne Ha Hg hB) (.int _)
            · refine ifF hx ?_
              refine ⟨_, rfl, _, _, rfl, g_mixed e4, _, _, rfl, rfl, .inr (by decide), _, rfl, _, _, rfl, g_turn e4, _, _, rfl, rfl, .inl (by decide), _, _, rfl, rfl, _, _, rfl, rfl, .inl ⟨_, rfl, ?_⟩⟩
              refine ⟨_, rfl, .inl ⟨_, rfl, _, _, rfl, rfl, (show (0:Int) < 2305843009213693951 by decide), _, rfl, a, _, rfl, p_mixed e4, ?_⟩⟩
              refine ⟨_, rfl, _, _, rfl, g_mixed upd_same, _, _, rfl, rfl, (show (0:Int) < 32749 ∧ (32749 : Int) < 1073741824 by decide), .inl ⟨_, rfl, _, rfl, _, _, rfl, rfl, n0, ?_⟩⟩
              refine ⟨_, ts + 1, ns, Int.emod_nonneg _ (by decide), by omega, h3, upd_same, by rw [upd_ne ng]; exact f4, ?_⟩
              exact q _ (Int.emod_nonneg _ (by omega)) (Int.emod_lt_of_pos _ n0) _ _ _ (k4.a.close ne Ha Hg hB) (.int _)
          · refine ifF hn ?_
            refine ⟨_, rfl, _, _, rfl, g_mixed e4, _, _, rfl, rfl, .inr (by decide), _, rfl, _, _, rfl, g_turn e4, _, _, rfl, rfl, .inl (by decide), _, _, rfl, rfl, _, _, rfl, rfl, .inl ⟨_, rfl, ?_⟩⟩
            refine ⟨_, rfl, .inl ⟨_, rfl, _, _, rfl, rfl, (show (0:Int) < 2305843009213693951 by decide), _, rfl, a, _, rfl, p_mixed e4, ?_⟩⟩
            refine ⟨_, rfl, _, _, rfl, g_mixed upd_same, _, _, rfl, rfl, (show (0:Int) < 32749 ∧ (32749 : Int) < 1073741824 by decide), .inl ⟨_, rfl, _, rfl, _, _, rfl, rfl, n0, ?_⟩⟩
            refine ⟨_, ts + 1, ns, Int.emod_nonneg _ (by decide), by omega, h3, upd_same, by rw [upd_ne ng]; exact f4, ?_⟩
            exact q _ (Int.emod_nonneg _ (by omega)) (Int.emod_lt_of_pos _ n0) _ _ _ (k4.a.close ne Ha Hg hB) (.int _)
  · exact q.elim
end

abbrev s_BadLayout___init__ : Stmt := inClass (topS 3) 0
theorem sc_BadLayout___init__ : FnScope (["self", "place"] : List Str) (["self", "place"] : List Str) (defScope s_BadLayout___init__) := ⟨rfl, rfl, rfl, by decide +kernel, rfl, by decide +kernel, by decide +kernel⟩
theorem ok_BadLayout___init__ {P : Program} {w : World} {K : PySem.W.Frag} {mg : Str → Option Value} {base : Heap} {fa : Addr} {fd : FuncData} (F : FunD K "__init__" "BadLayout.__init__" (defArgs s_BadLayout___init__) (defBody s_BadLayout___init__) (defScope s_BadLayout___init__) [] [] fa fd) (T : XcK K (He.ga K "BadLayout") "ValueError.__new__" "ValueError.__init__") (no_place : PySem.W.findIn K (.ref (He.ga K "BadLayout")) "place" = some none) (g_PartsError : mg "PartsError" = some (.ref (He.ga K "PartsError"))) (bi_PartsError : bioB K "PartsError" "ValueError.__init__" = true) :
    FnOk P w K mg base CX0 1 fa fd ["self", "place"] (spX (He.ga K "BadLayout") ["place"]) := by
  refine F.ok sc_BadLayout___init__ (fun vs H Q E h => xlen h) fun cdv A outer s H vs Q E hr h => ⟨_, PSs.nox (pss_cons (ps_expr (pe_bi (baseI_own rfl g_PartsError (bioB_ok bi_PartsError).1 (bioB_ok bi_PartsError).2.1 (bioB_ok bi_PartsError).2.2 (by decide +kernel)) (pa_cons (pv 0) (pa_cons pe_str pa_nil)))) (pss_one (ps_xs (pv 0) (pv 1)))), xi_read1 T no_place h⟩
abbrev s_is_name : Stmt := topS 11
theorem sc_is_name : FnScope (["thing", "sign"] : List Str) (["thing"] : List Str) (defScope s_is_name) := ⟨rfl, rfl, rfl, by decide +kernel, rfl, by decide +kernel, by decide +kernel⟩
theorem bd_is_name {gb : Bool} {P : Program} {w : World} {K : PySem.W.Frag} {mg : Str → Option Value} {base : Heap} {fa : Addr} (b_all : mg "all" = none) (b_isinstance : mg "isinstance" = none) (b_len : mg "len" = none) (b_str : mg "str" = none) (c_LETTERS : ∃ t, mg "LETTERS" = some (.str "abcdefghijklmnopqrstuvwxyz" t)) (c_LONGEST_NAME : ∃ t, mg "LONGEST_NAME" = some (.int 8 t)) :
    ∀ (cdv : Value) (A : Around) (outer : List PySem.Env) (s : Shared) (H : Hp) (E : XK), Gd gb A → Room 0 (A.deeper (PyProof.Rows.envOfC "is_name" (defScope s_is_name) s.heap.objs.size fa cdv)) → MSs (cxOf CX0 P w K mg base ["thing", "sign"] "is_name" (defScope s_is_name) fa cdv A outer s H E).nox EZ (defBody s_is_name) mb_is_name := by
  intro cdv A outer s H E hgd hr
  have hu := hr.u65
  have hu6 := hr.u66
  have scn := sc_is_name
  exact (mss_cons (ms_if (mt_w (mw_or (mt_not (mt_val (me_callB call_isi cd_pyIsi rfl b_isinstance (by decide +kernel) (mar_cons (mr_var 0) (mar_cons (ME.r (me_bty rfl b_str (by decide +kernel))) mar_nil))))) (mw_or1 (mt_not (mt_chain op_pyLe op_pyLe od_pyLe od_pyLe (ME.r me_int) (ME.r (me_callB cr_pyLenT cd_pyLenT rfl b_len (by decide +kernel) (mar_cons (mr_var 0) mar_nil))) (ME.r (me_globI rfl c_LONGEST_NAME))))))) (mss_one (ms_ret me_bl)) mss_nil)
      (mss_one (ms_ret (me_callB (cr_all rfl) cd_pyAll rfl b_all (by decide +kernel) (mar_cons (ME.r (MN.me (mn_lc (own := [("sign", 1)]) rfl scn.nd (mi_any (me_var 0)) (blkOk_by (N := ["thing", "sign"]) (sc := defScope s_is_name) (by decide +kernel)) (fun _ _ _ _ _ => (pg_name (i := 1) scn.nd rfl (Or.inl rfl))) (evc_name 1 (by decide)) (fun _ _ _ _ _ => mts_nil) (fun _ _ _ _ _ => (me_cmp (op_pyIn hu) od_pyIn (mr_var 1) (ME.r (me_globS rfl c_LETTERS)) rfl))))) mar_nil)))))
abbrev s_are_bases : Stmt := topS 13
theorem sc_are_bases : FnScope (["thing", "base"] : List Str) (["thing"] : List Str) (defScope s_are_bases) := ⟨rfl, rfl, rfl, by decide +kernel, rfl, by decide +kernel, by decide +kernel⟩
theorem bd_are_bases {gb : Bool} {P : Program} {w : World} {K : PySem.W.Frag} {mg : Str → Option Value} {base : Heap} {fa : Addr} (o_is_name : OwnG gb P w K mg base 1 "is_name" 1 c_is_name) (b_all : mg "all" = none) (b_isinstance : mg "isinstance" = none) (b_len : mg "len" = none) (b_set : mg "set" = none) (b_tuple : mg "tuple" = none) (c_MOST_BASES : ∃ t, mg "MOST_BASES" = some (.int 6 t)) :
    ∀ (cdv : Value) (A : Around) (outer : List PySem.Env) (s : Shared) (H : Hp) (E : XK), Gd gb A → Room 1 (A.deeper (PyProof.Rows.envOfC "are_bases" (defScope s_are_bases) s.heap.objs.size fa cdv)) → MSs (cxOf CX0 P w K mg base ["thing", "base"] "are_bases" (defScope s_are_bases) fa cdv A outer s H E).nox EZ (defBody s_are_bases) mb_are_bases := by
  intro cdv A outer s H E hgd hr
  have hu := hr.u65
  have hu6 := hr.u66
  have scn := sc_are_bases
  exact (mss_cons (ms_if (mt_w (mw_or (mt_not (mt_val (me_callB call_isi cd_pyIsi rfl b_isinstance (by decide +kernel) (mar_cons (mr_var 0) (mar_cons (ME.r (me_bty rfl b_tuple (by decide +kernel))) mar_nil))))) (mw_or (mt_cmp op_pyGt od_pyGt (ME.r (me_callB cr_pyLenT cd_pyLenT rfl b_len (by decide +kernel) (mar_cons (mr_var 0) mar_nil))) (ME.r (me_globI rfl c_MOST_BASES)) (nomark _)) (mw_or1 (mt_not (mt_val (me_callB (cr_all rfl) cd_pyAll rfl b_all (by decide +kernel) (mar_cons (ME.r (MN.me (mn_lc (own := [("base", 1)]) rfl scn.nd (mi_any (me_var 0)) (blkOk_by (N := ["thing", "base"]) (sc := defScope s_are_bases) (by decide +kernel)) (fun _ _ _ _ _ => (pg_name (i := 1) scn.nd rfl (Or.inl rfl))) (evc_name 1 (by decide)) (fun _ _ _ _ _ => mts_nil) (fun _ _ _ _ _ => (me_ownG o_is_name (hr.mono (by decide)) hgd (ma_cons (me_var 1) ma_nil)))))) mar_nil)))))))) (mss_one (ms_ret me_bl)) mss_nil)
      (mss_one (ms_ret (me_cmp (op_pyEq hu) od_pyEq (ME.r (me_callB cr_pyLenT cd_pyLenT rfl b_len (by decide +kernel) (mar_cons (ME.r (me_callTy (cr_setT rfl) cd_pySet rfl b_set (by decide +kernel) (mar_cons (mr_var 0) mar_nil))) mar_nil))) (ME.r (me_callB cr_pyLenT cd_pyLenT rfl b_len (by decide +kernel) (mar_cons (mr_var 0) mar_nil))) (nomark _)))))
abbrev s_is_integer : Stmt := topS 10
theorem sc_is_integer : FnScope (["thing", "least", "most"] : List Str) (["thing", "least", "most"] : List Str) (defScope s_is_integer) := ⟨rfl, rfl, rfl, by decide +kernel, rfl, by decide +kernel, by decide +kernel⟩
theorem bd_is_integer {gb : Bool} {P : Program} {w : World} {K : PySem.W.Frag} {mg : Str → Option Value} {base : Heap} {fa : Addr} (b_bool : mg "bool" = none) (b_int : mg "int" = none) (b_isinstance : mg "isinstance" = none) :
    ∀ (cdv : Value) (A : Around) (outer : List PySem.Env) (s : Shared) (H : Hp) (E : XK), Gd gb A → Room 0 (A.deeper (PyProof.Rows.envOfC "is_integer" (defScope s_is_integer) s.heap.objs.size fa cdv)) → MSs (cxOf CX0 P w K mg base ["thing", "least", "most"] "is_integer" (defScope s_is_integer) fa cdv A outer s H E).nox EZ (defBody s_is_integer) mb_is_integer := by
  intro cdv A outer s H E hgd hr
  have hu := hr.u65
  have hu6 := hr.u66
  have scn := sc_is_integer
  exact (mss_one (ms_ret (me_and (me_callB call_isi cd_pyIsi rfl b_isinstance (by decide +kernel) (mar_cons (mr_var 0) (mar_cons (ME.r (me_bty rfl b_int (by decide +kernel))) mar_nil))) (me_and (me_not (me_callB call_isi cd_pyIsi rfl b_isinstance (by decide +kernel) (mar_cons (mr_var 0) (mar_cons (ME.r (me_bty rfl b_bool (by decide +kernel))) mar_nil)))) (me_one (me_chain op_pyLe op_pyLe od_pyLe od_pyLe (mr_var 1) (mr_var 0) (mr_var 2)))))))
abbrev s_is_mark : Stmt := topS 12
theorem sc_is_mark : FnScope (["thing", "sign"] : List Str) (["thing"] : List Str) (defScope s_is_mark) := ⟨rfl, rfl, rfl, by decide +kernel, rfl, by decide +kernel, by decide +kernel⟩
theorem bd_is_mark {gb : Bool} {P : Program} {w : World} {K : PySem.W.Frag} {mg : Str → Option Value} {base : Heap} {fa : Addr} (b_all : mg "all" = none) (b_isinstance : mg "isinstance" = none) (b_list : mg "list" = none) (b_set : mg "set" = none) (b_sorted : mg "sorted" = none) (b_str : mg "str" = none) (c_LETTERS : ∃ t, mg "LETTERS" = some (.str "abcdefghijklmnopqrstuvwxyz" t)) :
    ∀ (cdv : Value) (A : Around) (outer : List PySem.Env) (s : Shared) (H : Hp) (E : XK), Gd gb A → Room 0 (A.deeper (PyProof.Rows.envOfC "is_mark" (defScope s_is_mark) s.heap.objs.size fa cdv)) → MSs (cxOf CX0 P w K mg base ["thing", "sign"] "is_mark" (defScope s_is_mark) fa cdv A outer s H E).nox EZ (defBody s_is_mark) mb_is_mark := by
  intro cdv A outer s H E hgd hr
  have hu := hr.u65
  have hu6 := hr.u66
  have scn := sc_is_mark
  exact (mss_cons (ms_if (mt_w (mw_or (mt_not (mt_val (me_callB call_isi cd_pyIsi rfl b_isinstance (by decide +kernel) (mar_cons (mr_var 0) (mar_cons (ME.r (me_bty rfl b_str (by decide +kernel))) mar_nil))))) (mw_or1 (mt_not (mt_val (me_callB (cr_all rfl) cd_pyAll rfl b_all (by decide +kernel) (mar_cons (ME.r (MN.me (mn_lc (own := [("sign", 1)]) rfl scn.nd (mi_any (me_var 0)) (blkOk_by (N := ["thing", "sign"]) (sc := defScope s_is_mark) (by decide +kernel)) (fun _ _ _ _ _ => (pg_name (i := 1) scn.nd rfl (Or.inl rfl))) (evc_name 1 (by decide)) (fun _ _ _ _ _ => mts_nil) (fun _ _ _ _ _ => (me_cmp (op_pyIn hu) od_pyIn (mr_var 1) (ME.r (me_globS rfl c_LETTERS)) rfl))))) mar_nil))))))) (mss_one (ms_ret me_bl)) mss_nil)
      (mss_one (ms_ret (me_cmp (op_pyEq hu) od_pyEq (ME.r (MN.me (mn_callTy (cr_pyListX rfl) cn_pyListX rfl b_list (by decide +kernel) (mar_cons (mr_var 0) mar_nil)))) (ME.r (MN.me (mn_callB (cr_sortT rfl) cn_pySort rfl b_sorted (by decide +kernel) (mar_cons (ME.r (me_callTy (cr_setT rfl) cd_pySet rfl b_set (by decide +kernel) (mar_cons (mr_var 0) mar_nil))) mar_nil)))) (nomark _)))))
abbrev s_is_kind : Stmt := topS 14
theorem sc_is_kind : FnScope (["thing", "name", "edition", "bases", "letter", "mark"] : List Str) (["thing"] : List Str) (defScope s_is_kind) := ⟨rfl, rfl, rfl, by decide +kernel, rfl, by decide +kernel, by decide +kernel⟩
theorem bd_is_kind {gb : Bool} {P : Program} {w : World} {K : PySem.W.Frag} {mg : Str → Option Value} {base : Heap} {fa : Addr} (o_are_bases : OwnG gb P w K mg base 2 "are_bases" 1 c_are_bases) (o_is_integer : OwnG gb P w K mg base 1 "is_integer" 3 c_is_integer) (o_is_mark : OwnG gb P w K mg base 1 "is_mark" 1 c_is_mark) (o_is_name : OwnG gb P w K mg base 1 "is_name" 1 c_is_name) (b_isinstance : mg "isinstance" = none) (b_len : mg "len" = none) (b_tuple : mg "tuple" = none) (c_MOST_EDITION : ∃ t, mg "MOST_EDITION" = some (.int 99 t)) :
    ∀ (cdv : Value) (A : Around) (outer : List PySem.Env) (s : Shared) (H : Hp) (E : XK), Gd gb A → Room 2 (A.deeper (PyProof.Rows.envOfC "is_kind" (defScope s_is_kind) s.heap.objs.size fa cdv)) → MSs (cxOf CX0 P w K mg base ["thing", "name", "edition", "bases", "letter", "mark"] "is_kind" (defScope s_is_kind) fa cdv A outer s H E).nox EZ (defBody s_is_kind) mb_is_kind := by
  intro cdv A outer s H E hgd hr
  have hu := hr.u65
  have hu6 := hr.u66
  have scn := sc_is_kind
  exact (mss_cons (ms_if (mt_w (mw_or (mt_not (mt_val (me_callB call_isi cd_pyIsi rfl b_isinstance (by decide +kernel) (mar_cons (mr_var 0) (mar_cons (ME.r (me_bty rfl b_tuple (by decide +kernel))) mar_nil))))) (mw_or1 (mt_cmp (op_pyNe hu) od_pyNe (ME.r (me_callB cr_pyLenT cd_pyLenT rfl b_len (by decide +kernel) (mar_cons (mr_var 0) mar_nil))) (ME.r me_int) (nomark _))))) (mss_one (ms_ret me_bl)) mss_nil)
      (mss_cons (ms_asg (me_var 0) (mg_tup rfl (mgs_cons (mg_name 1 scn.nd) (mgs_cons (mg_name 2 scn.nd) (mgs_cons (mg_name 3 scn.nd) (mgs_cons (mg_name 4 scn.nd) (mgs_cons (mg_name 5 scn.nd) mgs_nil)))))))
      (mss_cons (ms_if (mt_w (mw_or (mt_not (mt_val (me_ownG o_is_name (hr.mono (by decide)) hgd (ma_cons (me_var 1) ma_nil)))) (mw_or (mt_not (mt_val (me_ownG o_is_integer (hr.mono (by decide)) hgd (ma_cons (me_var 2) (ma_cons me_int (ma_cons (me_globI rfl c_MOST_EDITION) ma_nil)))))) (mw_or1 (mt_not (mt_val (me_ownG o_are_bases (hr.mono (by decide)) hgd (ma_cons (me_var 3) ma_nil)))))))) (mss_one (ms_ret me_bl)) mss_nil)
      (mss_one (ms_ret (me_and (me_ownG o_is_mark (hr.mono (by decide)) hgd (ma_cons (me_var 4) ma_nil)) (me_and (me_cmp (op_pyEq hu) od_pyEq (ME.r (me_callB cr_pyLenT cd_pyLenT rfl b_len (by decide +kernel) (mar_cons (mr_var 4) mar_nil))) (ME.r me_int) (nomark _)) (me_one (me_ownG o_is_mark (hr.mono (by decide)) hgd (ma_cons (me_var 5) ma_nil))))))))))
abbrev s_need_layoutX : Stmt := topS 15
theorem sc_need_layoutX : FnScope (["thing", "ahead", "edition", "number", "kind", "base"] : List Str) (["thing"] : List Str) (defScope s_need_layoutX) := ⟨rfl, rfl, rfl, by decide +kernel, rfl, by decide +kernel, by decide +kernel⟩
theorem bd_need_layoutX {gb : Bool} {P : Program} {w : World} {K : PySem.W.Frag} {mg : Str → Option Value} {base : Heap} {fa : Addr} (o_BadLayout : OwnE P w K mg base 1 "BadLayout" ["place"]) (o_is_kind : OwnG gb P w K mg base 3 "is_kind" 1 c_is_kind) (b_all : mg "all" = none) (b_enumerate : mg "enumerate" = none) (b_isinstance : mg "isinstance" = none) (b_len : mg "len" = none) (b_tuple : mg "tuple" = none) (c_MOST_KINDS : ∃ t, mg "MOST_KINDS" = some (.int 24 t)) :
    ∀ (cdv : Value) (A : Around) (outer : List PySem.Env) (s : Shared) (H : Hp) (E : XK), Gd gb A → Room 3 (A.deeper (PyProof.Rows.envOfC "need_layout" (defScope s_need_layoutX) s.heap.objs.size fa cdv)) → MSs (cxOf (L2.CX P w) P w K mg base ["thing", "ahead", "edition", "number", "kind", "base"] "need_layout" (defScope s_need_layoutX) fa cdv A outer s H E) (fun _ => E) (defBody s_need_layoutX) mb_need_layoutX := by
  intro cdv A outer s H E hgd hr
  have hu := hr.u65
  have hu6 := hr.u66
  have scn := sc_need_layoutX
  have tk : Takes (cxOf (L2.CX P w) P w K mg base ["thing", "ahead", "edition", "number", "kind", "base"] "need_layout" (defScope s_need_layoutX) fa cdv A outer s H E) (fun cls d _ H => E cls d H) := takes_of rfl rfl rfl rfl
  exact (mss_cons (ms_if (mt_w (mw_or (mt_not (mt_val (me_callB call_isi cd_pyIsi rfl b_isinstance (by decide +kernel) (mar_cons (mr_var 0) (mar_cons (ME.r (me_bty rfl b_tuple (by decide +kernel))) mar_nil))))) (mw_or1 (mt_not (mt_chain op_pyLe op_pyLe od_pyLe od_pyLe (ME.r me_int) (ME.r (me_callB cr_pyLenT cd_pyLenT rfl b_len (by decide +kernel) (mar_cons (mr_var 0) mar_nil))) (ME.r (me_globI rfl c_MOST_KINDS))))))) (mss_one (ms_raise rfl tk o_BadLayout (hr.mono (by decide)) (mac_cons (me_tup ma_nil) mac_nil))) mss_nil)
      (mss_cons (ms_tup2 (i := 1) (j := 2) rfl scn.nd (MN.x mn_dict0) (ME.x me_int))
      (mss_cons (ms_for (passes_of rfl) rfl (mi_enum rfl b_enumerate (me_var 0)) (mg_tup rfl (mgs_cons (mg_name 3 scn.nd) (mgs_cons (mg_name 4 scn.nd) mgs_nil))) (mss_cons (ms_if (mt_w (mw_or (mt_not (mt_val (me_ownG o_is_kind (hr.mono (by decide)) hgd (ma_cons (me_var 4) ma_nil)))) (mw_or (mt_cmp (op_pyIn hu) od_pyIn (ME.r (me_ix hu (mr_var 4) (ME.r me_int))) (mr_var 1) rfl) (mw_or1 (mt_cmp op_pyLt od_pyLt (ME.r (me_ix hu (mr_var 4) (ME.r me_int))) (mr_var 2) (nomark _)))))) (mss_one (ms_raise rfl tk o_BadLayout (hr.mono (by decide)) (mac_cons (me_tup (ma_cons (me_var 3) ma_nil)) mac_nil))) mss_nil)
      (mss_cons (ms_if (mt_not (mt_val (me_callB (cr_all rfl) cd_pyAll rfl b_all (by decide +kernel) (mar_cons (ME.r (MN.me (mn_lc (own := [("base", 5)]) rfl scn.nd (mi_any (me_ix hu (mr_var 4) (ME.r me_int))) (blkOk_by (N := ["thing", "ahead", "edition", "number", "kind", "base"]) (sc := defScope s_need_layoutX) (by decide +kernel)) (fun _ _ _ _ _ => (pg_name (i := 5) scn.nd rfl (Or.inl rfl))) (evc_name 5 (by decide)) (fun _ _ _ _ _ => mts_nil) (fun _ _ _ _ _ => (me_cmp (op_pyIn hu) od_pyIn (mr_var 5) (mr_var 1) rfl))))) mar_nil)))) (mss_one (ms_raise rfl tk o_BadLayout (hr.mono (by decide)) (mac_cons (me_tup (ma_cons (me_var 3) ma_nil)) mac_nil))) mss_nil)
      (mss_cons (ms_dput 1 hu me_bl (me_ix hu (mr_var 4) (ME.r me_int)))
      (mss_one (ms_set 2 scn.nd (ME.x (me_ix hu (mr_var 4) (ME.r me_int)))))))))
      (mss_one (ms_ret (me_var 0))))))
abbrev s_Chart___init__X : Stmt := inClass (topS 16) 0
theorem sc_Chart___init__X : FnScope (["self", "layout", "name", "edition", "bases", "letter", "mark", "own", "base", "kind", "other"] : List Str) (["self", "layout"] : List Str) (defScope s_Chart___init__X) := ⟨rfl, rfl, rfl, by decide +kernel, rfl, by decide +kernel, by decide +kernel⟩
theorem bd_Chart___init__X {gb : Bool} {P : Program} {w : World} {K : PySem.W.Frag} {mg : Str → Option Value} {base : Heap} {fa : Addr} (cl_Chart : Cls K (He.ga K "Chart")) (na_Chart_final : NoAttr K (He.ga K "Chart") "final") (na_Chart_kinds : NoAttr K (He.ga K "Chart") "kinds") (na_Chart_plan : NoAttr K (He.ga K "Chart") "plan") (na_Chart_roots : NoAttr K (He.ga K "Chart") "roots") (na_Chart_under : NoAttr K (He.ga K "Chart") "under") (o_need_layout : OwnX gb P w K mg base 4 "need_layout" 1 c_need_layoutX) (b_tuple : mg "tuple" = none) :
    ∀ (cdv : Value) (A : Around) (outer : List PySem.Env) (s : Shared) (H : Hp) (E : XK), Gd gb A → Room 4 (A.deeper (PyProof.Rows.envOfC "Chart.__init__" (defScope s_Chart___init__X) s.heap.objs.size fa cdv)) → MSs (cxOf (L2.CX P w) P w K mg base ["self", "layout", "name", "edition", "bases", "letter", "mark", "own", "base", "kind", "other"] "Chart.__init__" (defScope s_Chart___init__X) fa cdv A outer s H E) (fun _ => E) (defBody s_Chart___init__X) mb_Chart___init__X := by
  intro cdv A outer s H E hgd hr
  have hu := hr.u65
  have hu6 := hr.u66
  have scn := sc_Chart___init__X
  have tk : Takes (cxOf (L2.CX P w) P w K mg base ["self", "layout", "name", "edition", "bases", "letter", "mark", "own", "base", "kind", "other"] "Chart.__init__" (defScope s_Chart___init__X) fa cdv A outer s H E) (fun cls d _ H => E cls d H) := takes_of rfl rfl rfl rfl
  exact (mss_cons (ms_fset 0 "Chart" cl_Chart na_Chart_plan (ME.x (me_ownX tk o_need_layout (hr.mono (by decide)) hgd (ma_cons (me_var 1) ma_nil))))
      (mss_cons (ms_fset 0 "Chart" cl_Chart na_Chart_kinds (ME.x (MN.me (mn_dc (own := [("kind", 9)]) rfl scn.nd (mi_any (me_var 1)) (blkOk_by (N := ["self", "layout", "name", "edition", "bases", "letter", "mark", "own", "base", "kind", "other"]) (sc := defScope s_Chart___init__X) (by decide +kernel)) (fun _ _ _ _ _ => (pg_name (i := 9) scn.nd rfl (Or.inl rfl))) (evc_name 9 (by decide)) (fun _ _ _ _ _ => mts_nil) (fun _ _ _ _ _ => (me_ix hu (mr_var 9) (ME.r me_int))) (fun _ _ _ _ _ => (me_var 9))))))
      (mss_cons (ms_fset 0 "Chart" cl_Chart na_Chart_under (MN.x mn_dict0))
      (mss_cons (ms_fset 0 "Chart" cl_Chart na_Chart_roots (MN.x mn_dict0))
      (mss_cons (ms_fset 0 "Chart" cl_Chart na_Chart_final (ME.x (me_ix hu (ME.r (me_ix hu (mr_var 1) (ME.r (me_neg (ME.r me_int))))) (ME.r me_int))))
      (mss_one (ms_fzF 0 "roots" (ms_fzF 0 "under" (ms_for (passes_of rfl) rfl (mi_any (me_var 1)) (mg_tup rfl (mgs_cons (mg_name 2 scn.nd) (mgs_cons (mg_name 3 scn.nd) (mgs_cons (mg_name 4 scn.nd) (mgs_cons (mg_name 5 scn.nd) (mgs_cons (mg_name 6 scn.nd) mgs_nil)))))) (mss_cons (ms_set 7 scn.nd (MN.x (mn_dc (own := [("base", 8)]) rfl scn.nd (mi_any (me_var 4)) (blkOk_by (N := ["self", "layout", "name", "edition", "bases", "letter", "mark", "own", "base", "kind", "other"]) (sc := defScope s_Chart___init__X) (by decide +kernel)) (fun _ _ _ _ _ => (pg_name (i := 8) scn.nd rfl (Or.inl rfl))) (evc_name 8 (by decide)) (fun _ _ _ _ _ => mts_nil) (fun _ _ _ _ _ => (me_var 8)) (fun _ _ _ _ _ => me_bl))))
      (mss_cons (ms_for (passes_of rfl) rfl (mi_any (me_var 4)) (mg_name 8 scn.nd) (mss_one (ms_dupd 7 (MN.me (mn_dc (own := [("other", 10)]) rfl scn.nd (mi_any (me_ix hu (mr_self 0 "Chart" cl_Chart na_Chart_under) (mr_var 8))) (blkOk_by (N := ["self", "layout", "name", "edition", "bases", "letter", "mark", "own", "base", "kind", "other"]) (sc := defScope s_Chart___init__X) (by decide +kernel)) (fun _ _ _ _ _ => (pg_name (i := 10) scn.nd rfl (Or.inl rfl))) (evc_name 10 (by decide)) (fun _ _ _ _ _ => mts_nil) (fun _ _ _ _ _ => (me_var 10)) (fun _ _ _ _ _ => me_bl))))))
      (mss_cons (ms_fdput 0 "Chart" hu cl_Chart na_Chart_under (me_callTy call_tuple_of cd_pyTuple rfl b_tuple (by decide +kernel) (mar_cons (ME.r (MN.me (mn_lc (own := [("other", 10)]) rfl scn.nd (mi_any (me_self 0 "Chart" cl_Chart na_Chart_kinds)) (blkOk_by (N := ["self", "layout", "name", "edition", "bases", "letter", "mark", "own", "base", "kind", "other"]) (sc := defScope s_Chart___init__X) (by decide +kernel)) (fun _ _ _ _ _ => (pg_name (i := 10) scn.nd rfl (Or.inl rfl))) (evc_name 10 (by decide)) (fun _ _ _ _ _ => (mts_one (mt_cmp (op_pyIn hu) od_pyIn (mr_var 10) (mr_var 7) rfl))) (fun _ _ _ _ _ => (me_var 10))))) mar_nil)) (me_var 2))
      (mss_one (ms_fdput 0 "Chart" hu cl_Chart na_Chart_roots (me_callTy call_tuple_of cd_pyTuple rfl b_tuple (by decide +kernel) (mar_cons (ME.r (MN.me (mn_lc (own := [("other", 10)]) rfl scn.nd (mi_any (me_ix hu (mr_self 0 "Chart" cl_Chart na_Chart_under) (mr_var 2))) (blkOk_by (N := ["self", "layout", "name", "edition", "bases", "letter", "mark", "own", "base", "kind", "other"]) (sc := defScope s_Chart___init__X) (by decide +kernel)) (fun _ _ _ _ _ => (pg_name (i := 10) scn.nd rfl (Or.inl rfl))) (evc_name 10 (by decide)) (fun _ _ _ _ _ => (mts_one (mt_cmp (op_pyEq hu) od_pyEq (ME.r (me_ix hu (ME.r (me_ix hu (mr_self 0 "Chart" cl_Chart na_Chart_kinds) (mr_var 10))) (ME.r me_int))) (ME.r (me_tup ma_nil)) (nomark _)))) (fun _ _ _ _ _ => (me_var 10))))) mar_nil)) (me_var 2)))))))))))))))
abbrev s_Chart_since : Stmt := inClass (topS 16) 2
theorem sc_Chart_since : FnScope (["self", "name"] : List Str) (["self", "name"] : List Str) (defScope s_Chart_since) := ⟨rfl, rfl, rfl, by decide +kernel, rfl, by decide +kernel, by decide +kernel⟩
theorem bd_Chart_since {gb : Bool} {P : Program} {w : World} {K : PySem.W.Frag} {mg : Str → Option Value} {base : Heap} {fa : Addr} (cl_Chart : Cls K (He.ga K "Chart")) (na_Chart_kinds : NoAttr K (He.ga K "Chart") "kinds") :
    ∀ (cdv : Value) (A : Around) (outer : List PySem.Env) (s : Shared) (H : Hp) (E : XK), Gd gb A → Room 0 (A.deeper (PyProof.Rows.envOfC "Chart.since" (defScope s_Chart_since) s.heap.objs.size fa cdv)) → MSs (cxOf CX0 P w K mg base ["self", "name"] "Chart.since" (defScope s_Chart_since) fa cdv A outer s H E).nox EZ (defBody s_Chart_since) mb_Chart_since := by
  intro cdv A outer s H E hgd hr
  have hu := hr.u65
  have hu6 := hr.u66
  have scn := sc_Chart_since
  exact (mss_one (ms_ret (me_ix hu (ME.r (me_ix hu (ME.r (me_fld "Chart" cl_Chart na_Chart_kinds (me_var 0))) (mr_var 1))) (ME.r me_int))))
abbrev s_Chart_watched : Stmt := inClass (topS 16) 3
theorem sc_Chart_watched : FnScope (["self", "name", "edition", "mark", "kind"] : List Str) (["self", "name"] : List Str) (defScope s_Chart_watched) := ⟨rfl, rfl, rfl, by decide +kernel, rfl, by decide +kernel, by decide +kernel⟩
theorem bd_Chart_watched {gb : Bool} {P : Program} {w : World} {K : PySem.W.Frag} {mg : Str → Option Value} {base : Heap} {fa : Addr} (cl_Chart : Cls K (He.ga K "Chart")) (na_Chart_kinds : NoAttr K (He.ga K "Chart") "kinds") (na_Chart_plan : NoAttr K (He.ga K "Chart") "plan") (b_tuple : mg "tuple" = none) :
    ∀ (cdv : Value) (A : Around) (outer : List PySem.Env) (s : Shared) (H : Hp) (E : XK), Gd gb A → Room 0 (A.deeper (PyProof.Rows.envOfC "Chart.watched" (defScope s_Chart_watched) s.heap.objs.size fa cdv)) → MSs (cxOf CX0 P w K mg base ["self", "name", "edition", "mark", "kind"] "Chart.watched" (defScope s_Chart_watched) fa cdv A outer s H E).nox EZ (defBody s_Chart_watched) mb_Chart_watched := by
  intro cdv A outer s H E hgd hr
  have hu := hr.u65
  have hu6 := hr.u66
  have scn := sc_Chart_watched
  exact (mss_cons (ms_tup2 (i := 2) (j := 3) rfl scn.nd (ME.x (me_ix hu (ME.r (me_ix hu (ME.r (me_fld "Chart" cl_Chart na_Chart_kinds (me_var 0))) (mr_var 1))) (ME.r me_int))) (ME.x (me_ix hu (ME.r (me_ix hu (ME.r (me_fld "Chart" cl_Chart na_Chart_kinds (me_var 0))) (mr_var 1))) (ME.r me_int))))
      (mss_one (ms_ret (me_callTy call_tuple_of cd_pyTuple rfl b_tuple (by decide +kernel) (mar_cons (ME.r (MN.me (mn_lc (own := [("kind", 4)]) rfl scn.nd (mi_any (me_fld "Chart" cl_Chart na_Chart_plan (me_var 0))) (blkOk_by (N := ["self", "name", "edition", "mark", "kind"]) (sc := defScope s_Chart_watched) (by decide +kernel)) (fun _ _ _ _ _ => (pg_name (i := 4) scn.nd rfl (Or.inl rfl))) (evc_name 4 (by decide)) (fun _ _ _ _ _ => (mts_one (mt_w (mw_and (mt_cmp op_pyLt od_pyLt (ME.r (me_ix hu (mr_var 4) (ME.r me_int))) (mr_var 2) (nomark _)) (mw_and1 (mt_cmp (op_pyIn hu) od_pyIn (ME.r (me_ix hu (mr_var 4) (ME.r me_int))) (mr_var 3) rfl)))))) (fun _ _ _ _ _ => (me_ix hu (mr_var 4) (ME.r me_int)))))) mar_nil)))))
abbrev s_gapsT : Stmt := topS 18
theorem sc_gapsT : GScope (["layout", "chart", "name", "wanted", "seen", "base", "other"] : List Str) (["layout"] : List Str) (defScope s_gapsT) := ⟨rfl, rfl, rfl, by decide +kernel, rfl, by decide +kernel, by decide +kernel⟩
theorem bd_gapsT {P : Program} {w : World} {K : PySem.W.Frag} {mg : Str → Option Value} {base : Heap} {fa : Addr} (cl_Chart : Cls K (He.ga K "Chart")) (na_Chart_kinds : NoAttr K (He.ga K "Chart") "kinds") (na_Chart_under : NoAttr K (He.ga K "Chart") "under") (o_Chart : OwnIX false P w K mg base 5 "Chart" 1 c_ChartX) (o_Chart_since : OwnM false P w K mg base 1 "Chart" "since" 2 c_Chart_since) (o_Chart_watched : OwnM false P w K mg base 1 "Chart" "watched" 2 c_Chart_watched) (b_list : mg "list" = none) :
    ∀ (cdv : Value) (A : Around) (outer : List PySem.Env) (s : Shared) (H : Hp) (E : XK) (pn : List (Addr × Obj)), Room 6 (A.deeper (PyProof.Rows.envOfC "gaps" (defScope s_gapsT) s.heap.objs.size fa cdv)) → MYs (gcxOf P w K mg base ["layout", "chart", "name", "wanted", "seen", "base", "other"] "gaps" (defScope s_gapsT) fa cdv A outer s H E pn) (fun _ => E) (defBody s_gapsT) mb_gapsT := by
  intro cdv A outer s H E pn hr
  have hu := hr.u65
  have hu6 := hr.u66
  have scn := sc_gapsT
  have hgd : Gd false ((gcxOf P w K mg base ["layout", "chart", "name", "wanted", "seen", "base", "other"] "gaps" (defScope s_gapsT) fa cdv A outer s H E pn)).A := fun h => nomatch h
  have tk : Takes (gcxOf P w K mg base ["layout", "chart", "name", "wanted", "seen", "base", "other"] "gaps" (defScope s_gapsT) fa cdv A outer s H E pn) (fun cls d _ H => E cls d H) := takes_gcx
  exact (mys_cons (my_plain (ms_set 1 scn.nd (ME.x (me_makeX tk o_Chart (hr.mono (by decide)) hgd (ma_cons (me_var 0) ma_nil)))))
      (mys_cons (my_for owns_gcx rfl (mi_any (me_fld "Chart" cl_Chart na_Chart_kinds (me_var 1))) (mg_name 2 scn.nd) (mys_cons (my_plain (ms_par (i := 3) (j := 4) rfl scn.nd (MN.x (mn_callTy (cr_pyListX rfl) cn_pyListX rfl b_list (by decide +kernel) (mar_cons (ME.r (me_ix hu (ME.r (me_fld "Chart" cl_Chart na_Chart_under (me_var 1))) (mr_var 2))) mar_nil))) (ME.x (me_ownM "Chart" o_Chart_watched (hr.mono (by decide)) hgd (me_var 1) (ma_cons (me_var 2) ma_nil)))))
      (mys_cons (my_plain (ms_for owns_gcx rfl (mi_any (me_ix hu (ME.r (me_fld "Chart" cl_Chart na_Chart_under (me_var 1))) (mr_var 2))) (mg_name 5 scn.nd) (mss_one (ms_extend 3 (me_ownM "Chart" o_Chart_watched (hr.mono (by decide)) hgd (me_var 1) (ma_cons (me_var 5) ma_nil))))))
      (mys_cons (my_for owns_gcx rfl (mi_any (me_fld "Chart" cl_Chart na_Chart_kinds (me_var 1))) (mg_name 6 scn.nd) (mys_cons (my_if (mt_w (mw_and (mt_cmp (op_pyIn hu) od_pyIn (mr_var 6) (mr_var 3) rfl) (mw_and (mt_cmp (op_pyNotIn hu) od_pyNotIn (mr_var 6) (mr_var 4) rfl) (mw_and1 (mt_cmp op_pyLt od_pyLt (ME.r (me_ownM "Chart" o_Chart_since (hr.mono (by decide)) hgd (me_var 1) (ma_cons (me_var 6) ma_nil))) (ME.r (me_ownM "Chart" o_Chart_since (hr.mono (by decide)) hgd (me_var 1) (ma_cons (me_var 2) ma_nil))) (nomark _)))))) (mys_cons (my_yield (me_tup (ma_cons (me_var 2) (ma_cons (me_var 6) ma_nil))))
      mys_nil) mys_nil)
      mys_nil))
      mys_nil))))
      mys_nil))
theorem bh_gapsT {P : Program} {w : World} {K : PySem.W.Frag} {mg : Str → Option Value} {base : Heap} {fa : Addr} (cl_Chart : Cls K (He.ga K "Chart")) (na_Chart_kinds : NoAttr K (He.ga K "Chart") "kinds") (na_Chart_under : NoAttr K (He.ga K "Chart") "under") (o_Chart : OwnIX false P w K mg base 5 "Chart" 1 c_ChartX) (o_Chart_since : OwnM false P w K mg base 1 "Chart" "since" 2 c_Chart_since) (o_Chart_watched : OwnM false P w K mg base 1 "Chart" "watched" 2 c_Chart_watched) (b_list : mg "list" = none) :
    ∀ (cdv : Value) (A : Around) (out : List PySem.Env) (s : Shared) (H : Hp) (pn : List (Addr × Obj)) (YS : List Dt) (Cn : Tie), Room 6 (A.deeper (PyProof.Rows.envOfC "gaps" (defScope s_gapsT) s.heap.objs.size fa cdv)) → HSts (gmOf P w K mg base ["layout", "chart", "name", "wanted", "seen", "base", "other"] "gaps" (defScope s_gapsT) fa cdv A out s H pn YS Cn) (defBody s_gapsT) (mh_gapsT YS) := by
  intro cdv A out s H pn YS Cn hr0
  have gf : ∀ i : Ix, i.s.heap.objs.size = (gmOf P w K mg base ["layout", "chart", "name", "wanted", "seen", "base", "other"] "gaps" (defScope s_gapsT) fa cdv A out s H pn YS Cn).n0 → gcxOf P w K mg base ["layout", "chart", "name", "wanted", "seen", "base", "other"] "gaps" (defScope s_gapsT) fa cdv A out i.s i.H E0 pn = (gmOf P w K mg base ["layout", "chart", "name", "wanted", "seen", "base", "other"] "gaps" (defScope s_gapsT) fa cdv A out s H pn YS Cn).at i := fun i h => gm_at i h
  have hrr : ∀ i : Ix, i.s.heap.objs.size = (gmOf P w K mg base ["layout", "chart", "name", "wanted", "seen", "base", "other"] "gaps" (defScope s_gapsT) fa cdv A out s H pn YS Cn).n0 → Room 6 (A.deeper (PyProof.Rows.envOfC "gaps" (defScope s_gapsT) i.s.heap.objs.size fa cdv)) := fun i h => by rw [show i.s.heap.objs.size = s.heap.objs.size from h]; exact hr0
  exact (hys_cons (hy_plain (E := fun _ => E0) gf (fun i hi => (have hr := hrr i hi; have hu := hr.u65; have hu6 := hr.u66; have scn := sc_gapsT; have hgd : Gd false (gcxOf P w K mg base ["layout", "chart", "name", "wanted", "seen", "base", "other"] "gaps" (defScope s_gapsT) fa cdv A out i.s i.H E0 pn).A := (fun h => nomatch h); have tk : Takes (gcxOf P w K mg base ["layout", "chart", "name", "wanted", "seen", "base", "other"] "gaps" (defScope s_gapsT) fa cdv A out i.s i.H E0 pn) (fun cls d _ H => E0 cls d H) := takes_gcx; (ms_set 1 scn.nd (ME.x (me_makeX tk o_Chart (hr.mono (by decide)) hgd (ma_cons (me_var 0) ma_nil)))))))
      (hys_cons (hy_for (E := fun _ => E0) gf (fun i hi => owns_gcx) rfl (fun i hi => (have hr := hrr i hi; have hu := hr.u65; have hu6 := hr.u66; have scn := sc_gapsT; have hgd : Gd false (gcxOf P w K mg base ["layout", "chart", "name", "wanted", "seen", "base", "other"] "gaps" (defScope s_gapsT) fa cdv A out i.s i.H E0 pn).A := (fun h => nomatch h); have tk : Takes (gcxOf P w K mg base ["layout", "chart", "name", "wanted", "seen", "base", "other"] "gaps" (defScope s_gapsT) fa cdv A out i.s i.H E0 pn) (fun cls d _ H => E0 cls d H) := takes_gcx; (mi_any (me_fld "Chart" cl_Chart na_Chart_kinds (me_var 1))))) (fun i hi => (have hr := hrr i hi; have hu := hr.u65; have hu6 := hr.u66; have scn := sc_gapsT; have hgd : Gd false (gcxOf P w K mg base ["layout", "chart", "name", "wanted", "seen", "base", "other"] "gaps" (defScope s_gapsT) fa cdv A out i.s i.H E0 pn).A := (fun h => nomatch h); have tk : Takes (gcxOf P w K mg base ["layout", "chart", "name", "wanted", "seen", "base", "other"] "gaps" (defScope s_gapsT) fa cdv A out i.s i.H E0 pn) (fun cls d _ H => E0 cls d H) := takes_gcx; (mg_name 2 scn.nd))) (hys_cons (hy_plain (E := fun _ => E0) gf (fun i hi => (have hr := hrr i hi; have hu := hr.u65; have hu6 := hr.u66; have scn := sc_gapsT; have hgd : Gd false (gcxOf P w K mg base ["layout", "chart", "name", "wanted", "seen", "base", "other"] "gaps" (defScope s_gapsT) fa cdv A out i.s i.H E0 pn).A := (fun h => nomatch h); have tk : Takes (gcxOf P w K mg base ["layout", "chart", "name", "wanted", "seen", "base", "other"] "gaps" (defScope s_gapsT) fa cdv A out i.s i.H E0 pn) (fun cls d _ H => E0 cls d H) := takes_gcx; (ms_par (i := 3) (j := 4) rfl scn.nd (MN.x (mn_callTy (cr_pyListX rfl) cn_pyListX rfl b_list (by decide +kernel) (mar_cons (ME.r (me_ix hu (ME.r (me_fld "Chart" cl_Chart na_Chart_under (me_var 1))) (mr_var 2))) mar_nil))) (ME.x (me_ownM "Chart" o_Chart_watched (hr.mono (by decide)) hgd (me_var 1) (ma_cons (me_var 2) ma_nil)))))))
      (hys_cons (hy_plain (E := fun _ => E0) gf (fun i hi => (have hr := hrr i hi; have hu := hr.u65; have hu6 := hr.u66; have scn := sc_gapsT; have hgd : Gd false (gcxOf P w K mg base ["layout", "chart", "name", "wanted", "seen", "base", "other"] "gaps" (defScope s_gapsT) fa cdv A out i.s i.H E0 pn).A := (fun h => nomatch h); have tk : Takes (gcxOf P w K mg base ["layout", "chart", "name", "wanted", "seen", "base", "other"] "gaps" (defScope s_gapsT) fa cdv A out i.s i.H E0 pn) (fun cls d _ H => E0 cls d H) := takes_gcx; (ms_for owns_gcx rfl (mi_any (me_ix hu (ME.r (me_fld "Chart" cl_Chart na_Chart_under (me_var 1))) (mr_var 2))) (mg_name 5 scn.nd) (mss_one (ms_extend 3 (me_ownM "Chart" o_Chart_watched (hr.mono (by decide)) hgd (me_var 1) (ma_cons (me_var 5) ma_nil))))))))
      (hys_cons (hy_for (E := fun _ => E0) gf (fun i hi => owns_gcx) rfl (fun i hi => (have hr := hrr i hi; have hu := hr.u65; have hu6 := hr.u66; have scn := sc_gapsT; have hgd : Gd false (gcxOf P w K mg base ["layout", "chart", "name", "wanted", "seen", "base", "other"] "gaps" (defScope s_gapsT) fa cdv A out i.s i.H E0 pn).A := (fun h => nomatch h); have tk : Takes (gcxOf P w K mg base ["layout", "chart", "name", "wanted", "seen", "base", "other"] "gaps" (defScope s_gapsT) fa cdv A out i.s i.H E0 pn) (fun cls d _ H => E0 cls d H) := takes_gcx; (mi_any (me_fld "Chart" cl_Chart na_Chart_kinds (me_var 1))))) (fun i hi => (have hr := hrr i hi; have hu := hr.u65; have hu6 := hr.u66; have scn := sc_gapsT; have hgd : Gd false (gcxOf P w K mg base ["layout", "chart", "name", "wanted", "seen", "base", "other"] "gaps" (defScope s_gapsT) fa cdv A out i.s i.H E0 pn).A := (fun h => nomatch h); have tk : Takes (gcxOf P w K mg base ["layout", "chart", "name", "wanted", "seen", "base", "other"] "gaps" (defScope s_gapsT) fa cdv A out i.s i.H E0 pn) (fun cls d _ H => E0 cls d H) := takes_gcx; (mg_name 6 scn.nd))) (hys_cons (hy_if (E := fun _ => E0) gf (fun i hi => (have hr := hrr i hi; have hu := hr.u65; have hu6 := hr.u66; have scn := sc_gapsT; have hgd : Gd false (gcxOf P w K mg base ["layout", "chart", "name", "wanted", "seen", "base", "other"] "gaps" (defScope s_gapsT) fa cdv A out i.s i.H E0 pn).A := (fun h => nomatch h); have tk : Takes (gcxOf P w K mg base ["layout", "chart", "name", "wanted", "seen", "base", "other"] "gaps" (defScope s_gapsT) fa cdv A out i.s i.H E0 pn) (fun cls d _ H => E0 cls d H) := takes_gcx; (mt_w (mw_and (mt_cmp (op_pyIn hu) od_pyIn (mr_var 6) (mr_var 3) rfl) (mw_and (mt_cmp (op_pyNotIn hu) od_pyNotIn (mr_var 6) (mr_var 4) rfl) (mw_and1 (mt_cmp op_pyLt od_pyLt (ME.r (me_ownM "Chart" o_Chart_since (hr.mono (by decide)) hgd (me_var 1) (ma_cons (me_var 6) ma_nil))) (ME.r (me_ownM "Chart" o_Chart_since (hr.mono (by decide)) hgd (me_var 1) (ma_cons (me_var 2) ma_nil))) (nomark _)))))))) (hys_cons (hy_yield (E := fun _ => E0) gf (fun i hi => (have hr := hrr i hi; have hu := hr.u65; have hu6 := hr.u66; have scn := sc_gapsT; have hgd : Gd false (gcxOf P w K mg base ["layout", "chart", "name", "wanted", "seen", "base", "other"] "gaps" (defScope s_gapsT) fa cdv A out i.s i.H E0 pn).A := (fun h => nomatch h); have tk : Takes (gcxOf P w K mg base ["layout", "chart", "name", "wanted", "seen", "base", "other"] "gaps" (defScope s_gapsT) fa cdv A out i.s i.H E0 pn) (fun cls d _ H => E0 cls d H) := takes_gcx; (me_tup (ma_cons (me_var 2) (ma_cons (me_var 6) ma_nil))))))
      hys_nil) hys_nil)
      hys_nil))
      hys_nil))))
      hys_nil))
abbrev s_wastesT : Stmt := topS 19
theorem sc_wastesT : GScope (["layout", "chart", "name", "other"] : List Str) (["layout"] : List Str) (defScope s_wastesT) := ⟨rfl, rfl, rfl, by decide +kernel, rfl, by decide +kernel, by decide +kernel⟩
theorem bd_wastesT {P : Program} {w : World} {K : PySem.W.Frag} {mg : Str → Option Value} {base : Heap} {fa : Addr} (cl_Chart : Cls K (He.ga K "Chart")) (na_Chart_kinds : NoAttr K (He.ga K "Chart") "kinds") (na_Chart_under : NoAttr K (He.ga K "Chart") "under") (o_Chart : OwnIX false P w K mg base 5 "Chart" 1 c_ChartX) (o_Chart_watched : OwnM false P w K mg base 1 "Chart" "watched" 2 c_Chart_watched) :
    ∀ (cdv : Value) (A : Around) (outer : List PySem.Env) (s : Shared) (H : Hp) (E : XK) (pn : List (Addr × Obj)), Room 6 (A.deeper (PyProof.Rows.envOfC "wastes" (defScope s_wastesT) s.heap.objs.size fa cdv)) → MYs (gcxOf P w K mg base ["layout", "chart", "name", "other"] "wastes" (defScope s_wastesT) fa cdv A outer s H E pn) (fun _ => E) (defBody s_wastesT) mb_wastesT := by
  intro cdv A outer s H E pn hr
  have hu := hr.u65
  have hu6 := hr.u66
  have scn := sc_wastesT
  have hgd : Gd false ((gcxOf P w K mg base ["layout", "chart", "name", "other"] "wastes" (defScope s_wastesT) fa cdv A outer s H E pn)).A := fun h => nomatch h
  have tk : Takes (gcxOf P w K mg base ["layout", "chart", "name", "other"] "wastes" (defScope s_wastesT) fa cdv A outer s H E pn) (fun cls d _ H => E cls d H) := takes_gcx
  exact (mys_cons (my_plain (ms_set 1 scn.nd (ME.x (me_makeX tk o_Chart (hr.mono (by decide)) hgd (ma_cons (me_var 0) ma_nil)))))
      (mys_cons (my_for owns_gcx rfl (mi_any (me_fld "Chart" cl_Chart na_Chart_kinds (me_var 1))) (mg_name 2 scn.nd) (mys_cons (my_for owns_gcx rfl (mi_any (me_ownM "Chart" o_Chart_watched (hr.mono (by decide)) hgd (me_var 1) (ma_cons (me_var 2) ma_nil))) (mg_name 3 scn.nd) (mys_cons (my_if (mt_cmp (op_pyNotIn hu) od_pyNotIn (mr_var 3) (ME.r (me_ix hu (ME.r (me_fld "Chart" cl_Chart na_Chart_under (me_var 1))) (mr_var 2))) rfl) (mys_cons (my_yield (me_tup (ma_cons (me_var 2) (ma_cons (me_var 3) ma_nil))))
      mys_nil) mys_nil)
      mys_nil))
      mys_nil))
      mys_nil))
abbrev s__law_begun : Stmt := topS 24
theorem sc__law_begun : FnScope (["script", "mixed", "k", "cell"] : List Str) (["script"] : List Str) (defScope s__law_begun) := ⟨rfl, rfl, rfl, by decide +kernel, rfl, by decide +kernel, by decide +kernel⟩
theorem bd__law_begun {gb : Bool} {P : Program} {w : World} {K : PySem.W.Frag} {mg : Str → Option Value} {base : Heap} {fa : Addr} (b_enumerate : mg "enumerate" = none) (b_int : mg "int" = none) (b_len : mg "len" = none) :
    ∀ (cdv : Value) (A : Around) (outer : List PySem.Env) (s : Shared) (H : Hp) (E : XK), Gd gb A → Room 0 (A.deeper (PyProof.Rows.envOfC "_law_begun" (defScope s__law_begun) s.heap.objs.size fa cdv)) → MSs (cxOf CX0 P w K mg base ["script", "mixed", "k", "cell"] "_law_begun" (defScope s__law_begun) fa cdv A outer s H E).nox EZ (defBody s__law_begun) mb__law_begun := by
  intro cdv A outer s H E hgd hr
  have hu := hr.u65
  have hu6 := hr.u66
  have scn := sc__law_begun
  exact (mss_cons (ms_set 1 scn.nd (ME.x (me_op op_pyAdd od_pyAdd (ME.r me_int) (ME.r (me_op op_pyMul od_pyMul (ME.r me_int) (ME.r (me_callB cr_pyLenT cd_pyLenT rfl b_len (by decide +kernel) (mar_cons (mr_var 0) mar_nil))))))))
      (mss_cons (ms_for PassesOwn.never rfl (mi_enum rfl b_enumerate (me_var 0)) (mg_tup rfl (mgs_cons (mg_name 2 scn.nd) (mgs_cons (mg_name 3 scn.nd) mgs_nil))) (mss_one (ms_set 1 scn.nd (ME.x (me_op op_mod od_pyMod (ME.r (me_callTy cr_pyInt cd_pyInt rfl b_int (by decide +kernel) (mar_cons (ME.r (me_op op_pyAdd od_pyAdd (ME.r (me_op op_pyAdd od_pyAdd (ME.r (me_op op_pyMul od_pyMul (mr_var 1) (ME.r me_int))) (mr_var 3))) (ME.r (me_op op_pyMul od_pyMul (ME.r me_int) (mr_var 2))))) mar_nil))) (ME.r me_int))))))
      (mss_one (ms_retDrw (me_var 1) (mn_lc (own := [("cell", 3)]) rfl scn.nd (mi_any (me_var 0)) (blkOk_by (N := ["script", "mixed", "k", "cell"]) (sc := defScope s__law_begun) (by decide +kernel)) (fun _ _ _ _ _ => (pg_name (i := 3) scn.nd rfl (Or.inl rfl))) (evc_name 3 (by decide)) (fun _ _ _ _ _ => (mts_one (mt_cmp op_pyGe od_pyGe (mr_var 3) (ME.r (me_op op_pow od_pyPow (ME.r me_int) (ME.r me_int))) (nomark _)))) (fun _ _ _ _ _ => (me_var 3))) me_int))))
abbrev s__law_dates : Stmt := topS 35
theorem sc__law_dates : FnScope (["plan", "kind"] : List Str) (["plan"] : List Str) (defScope s__law_dates) := ⟨rfl, rfl, rfl, by decide +kernel, rfl, by decide +kernel, by decide +kernel⟩
theorem bd__law_dates {gb : Bool} {P : Program} {w : World} {K : PySem.W.Frag} {mg : Str → Option Value} {base : Heap} {fa : Addr} (b_dict : mg "dict" = none) :
    ∀ (cdv : Value) (A : Around) (outer : List PySem.Env) (s : Shared) (H : Hp) (E : XK), Gd gb A → Room 0 (A.deeper (PyProof.Rows.envOfC "_law_dates" (defScope s__law_dates) s.heap.objs.size fa cdv)) → MSs (cxOf CX0 P w K mg base ["plan", "kind"] "_law_dates" (defScope s__law_dates) fa cdv A outer s H E).nox EZ (defBody s__law_dates) mb__law_dates := by
  intro cdv A outer s H E hgd hr
  have hu := hr.u65
  have hu6 := hr.u66
  have scn := sc__law_dates
  exact (mss_one (ms_ret (MN.me (mn_callTy (cr_dict rfl) cn_dict rfl b_dict (by decide +kernel) (mar_cons (ME.r (MN.me (mn_lc (own := [("kind", 1)]) rfl scn.nd (mi_any (me_var 0)) (blkOk_by (N := ["plan", "kind"]) (sc := defScope s__law_dates) (by decide +kernel)) (fun _ _ _ _ _ => (pg_name (i := 1) scn.nd rfl (Or.inl rfl))) (evc_name 1 (by decide)) (fun _ _ _ _ _ => mts_nil) (fun _ _ _ _ _ => (me_tup (ma_cons (me_ix hu (mr_var 1) (ME.r me_int)) (ma_cons (me_ix hu (mr_var 1) (ME.r me_int)) ma_nil))))))) mar_nil)))))
abbrev s__law_seen : Stmt := topS 34
theorem sc__law_seen : FnScope (["plan", "found", "name", "ed", "bases", "letter", "mark", "kind"] : List Str) (["plan"] : List Str) (defScope s__law_seen) := ⟨rfl, rfl, rfl, by decide +kernel, rfl, by decide +kernel, by decide +kernel⟩
theorem bd__law_seen {gb : Bool} {P : Program} {w : World} {K : PySem.W.Frag} {mg : Str → Option Value} {base : Heap} {fa : Addr}  :
    ∀ (cdv : Value) (A : Around) (outer : List PySem.Env) (s : Shared) (H : Hp) (E : XK), Gd gb A → Room 0 (A.deeper (PyProof.Rows.envOfC "_law_seen" (defScope s__law_seen) s.heap.objs.size fa cdv)) → MSs (cxOf CX0 P w K mg base ["plan", "found", "name", "ed", "bases", "letter", "mark", "kind"] "_law_seen" (defScope s__law_seen) fa cdv A outer s H E).nox EZ (defBody s__law_seen) mb__law_seen := by
  intro cdv A outer s H E hgd hr
  have hu := hr.u65
  have hu6 := hr.u66
  have scn := sc__law_seen
  exact (mss_cons (ms_set 1 scn.nd (MN.x mn_dict0))
      (mss_cons (ms_for PassesOwn.never rfl (mi_any (me_var 0)) (mg_tup rfl (mgs_cons (mg_name 2 scn.nd) (mgs_cons (mg_name 3 scn.nd) (mgs_cons (mg_name 4 scn.nd) (mgs_cons (mg_name 5 scn.nd) (mgs_cons (mg_name 6 scn.nd) mgs_nil)))))) (mss_one (ms_dput 1 hu (MN.me (mn_lc (own := [("kind", 7)]) rfl scn.nd (mi_any (me_var 0)) (blkOk_by (N := ["plan", "found", "name", "ed", "bases", "letter", "mark", "kind"]) (sc := defScope s__law_seen) (by decide +kernel)) (fun _ _ _ _ _ => (pg_name (i := 7) scn.nd rfl (Or.inl rfl))) (evc_name 7 (by decide)) (fun _ _ _ _ _ => (mts_one (mt_w (mw_and (mt_cmp op_pyLt od_pyLt (ME.r (me_ix hu (mr_var 7) (ME.r me_int))) (mr_var 3) (nomark _)) (mw_and1 (mt_cmp (op_pyIn hu) od_pyIn (ME.r (me_ix hu (mr_var 7) (ME.r me_int))) (mr_var 6) rfl)))))) (fun _ _ _ _ _ => (me_ix hu (mr_var 7) (ME.r me_int))))) (me_var 2))))
      (mss_fz 1 (mss_one (ms_ret (me_var 1))))))
abbrev s__law_under : Stmt := topS 29
theorem sc__law_under : FnScope (["plan", "found", "name", "ed", "bases", "letter", "mark", "own", "base", "kind"] : List Str) (["plan"] : List Str) (defScope s__law_under) := ⟨rfl, rfl, rfl, by decide +kernel, rfl, by decide +kernel, by decide +kernel⟩
theorem bd__law_under {gb : Bool} {P : Program} {w : World} {K : PySem.W.Frag} {mg : Str → Option Value} {base : Heap} {fa : Addr}  :
    ∀ (cdv : Value) (A : Around) (outer : List PySem.Env) (s : Shared) (H : Hp) (E : XK), Gd gb A → Room 0 (A.deeper (PyProof.Rows.envOfC "_law_under" (defScope s__law_under) s.heap.objs.size fa cdv)) → MSs (cxOf CX0 P w K mg base ["plan", "found", "name", "ed", "bases", "letter", "mark", "own", "base", "kind"] "_law_under" (defScope s__law_under) fa cdv A outer s H E).nox EZ (defBody s__law_under) mb__law_under := by
  intro cdv A outer s H E hgd hr
  have hu := hr.u65
  have hu6 := hr.u66
  have scn := sc__law_under
  exact (mss_cons (ms_set 1 scn.nd (MN.x mn_dict0))
      (mss_cons (ms_for PassesOwn.never rfl (mi_any (me_var 0)) (mg_tup rfl (mgs_cons (mg_name 2 scn.nd) (mgs_cons (mg_name 3 scn.nd) (mgs_cons (mg_name 4 scn.nd) (mgs_cons (mg_name 5 scn.nd) (mgs_cons (mg_name 6 scn.nd) mgs_nil)))))) (mss_cons (ms_set 7 scn.nd (ME.x (me_lst ma_nil)))
      (mss_cons (ms_for PassesOwn.never rfl (mi_any (me_var 4)) (mg_name 8 scn.nd) (mss_one (ms_set 7 scn.nd (ME.x (me_op op_pyAdd od_pyAdd (ME.r (me_op op_pyAdd od_pyAdd (mr_var 7) (ME.r (me_ix hu (mr_var 1) (mr_var 8))))) (ME.r (me_lst (ma_cons (me_var 8) ma_nil))))))))
      (mss_one (ms_dput 1 hu (MN.me (mn_lc (own := [("kind", 9)]) rfl scn.nd (mi_any (me_var 0)) (blkOk_by (N := ["plan", "found", "name", "ed", "bases", "letter", "mark", "own", "base", "kind"]) (sc := defScope s__law_under) (by decide +kernel)) (fun _ _ _ _ _ => (pg_name (i := 9) scn.nd rfl (Or.inl rfl))) (evc_name 9 (by decide)) (fun _ _ _ _ _ => (mts_one (mt_cmp (op_pyIn hu) od_pyIn (ME.r (me_ix hu (mr_var 9) (ME.r me_int))) (mr_var 7) rfl))) (fun _ _ _ _ _ => (me_ix hu (mr_var 9) (ME.r me_int))))) (me_var 2))))))
      (mss_fz 1 (mss_one (ms_ret (me_var 1))))))
abbrev s__law_gaps : Stmt := topS 36
theorem sc__law_gaps : FnScope (["plan", "under", "seen", "dates", "found", "name", "other", "must", "base"] : List Str) (["plan"] : List Str) (defScope s__law_gaps) := ⟨rfl, rfl, rfl, by decide +kernel, rfl, by decide +kernel, by decide +kernel⟩
theorem bd__law_gaps {gb : Bool} {P : Program} {w : World} {K : PySem.W.Frag} {mg : Str → Option Value} {base : Heap} {fa : Addr} (o__law_dates : OwnG gb P w K mg base 1 "_law_dates" 1 c__law_dates) (o__law_seen : OwnG gb P w K mg base 1 "_law_seen" 1 c__law_seen) (o__law_under : OwnG gb P w K mg base 1 "_law_under" 1 c__law_under) :
    ∀ (cdv : Value) (A : Around) (outer : List PySem.Env) (s : Shared) (H : Hp) (E : XK), Gd gb A → Room 1 (A.deeper (PyProof.Rows.envOfC "_law_gaps" (defScope s__law_gaps) s.heap.objs.size fa cdv)) → MSs (cxOf CX0 P w K mg base ["plan", "under", "seen", "dates", "found", "name", "other", "must", "base"] "_law_gaps" (defScope s__law_gaps) fa cdv A outer s H E).nox EZ (defBody s__law_gaps) mb__law_gaps := by
  intro cdv A outer s H E hgd hr
  have hu := hr.u65
  have hu6 := hr.u66
  have scn := sc__law_gaps
  exact (mss_cons (ms_par (i := 1) (j := 2) rfl scn.nd (ME.x (me_ownG o__law_under (hr.mono (by decide)) hgd (ma_cons (me_var 0) ma_nil))) (ME.x (me_ownG o__law_seen (hr.mono (by decide)) hgd (ma_cons (me_var 0) ma_nil))))
      (mss_cons (ms_par (i := 3) (j := 4) rfl scn.nd (ME.x (me_ownG o__law_dates (hr.mono (by decide)) hgd (ma_cons (me_var 0) ma_nil))) (MN.x (mn_lst ma_nil)))
      (mss_cons (ms_for PassesOwn.never rfl (mi_any (me_var 3)) (mg_name 5 scn.nd) (mss_one (ms_for PassesOwn.never rfl (mi_any (me_var 3)) (mg_name 6 scn.nd) (mss_cons (ms_set 7 scn.nd (ME.x (me_cmp (op_pyIn hu) od_pyIn (mr_var 6) (ME.r (me_ix hu (mr_var 1) (mr_var 5))) rfl)))
      (mss_cons (ms_for PassesOwn.never rfl (mi_any (me_ix hu (mr_var 1) (mr_var 5))) (mg_name 8 scn.nd) (mss_one (ms_set 7 scn.nd (ME.x (me_or (me_var 7) (me_one (me_cmp (op_pyIn hu) od_pyIn (mr_var 6) (ME.r (me_ix hu (mr_var 2) (mr_var 8))) rfl)))))))
      (mss_one (ms_if (mt_w (mw_and (mt_val (me_var 7)) (mw_and (mt_cmp op_pyLt od_pyLt (ME.r (me_ix hu (mr_var 3) (mr_var 6))) (ME.r (me_ix hu (mr_var 3) (mr_var 5))) (nomark _)) (mw_and1 (mt_cmp (op_pyNotIn hu) od_pyNotIn (mr_var 6) (ME.r (me_ix hu (mr_var 2) (mr_var 5))) rfl))))) (mss_one (ms_append 4 (me_tup (ma_cons (me_var 5) (ma_cons (me_var 6) ma_nil))))) mss_nil)))))))
      (mss_fz 4 (mss_one (ms_ret (me_var 4)))))))
abbrev s__law_sign : Stmt := topS 27
theorem sc__law_sign : FnScope (["at"] : List Str) (["at"] : List Str) (defScope s__law_sign) := ⟨rfl, rfl, rfl, by decide +kernel, rfl, by decide +kernel, by decide +kernel⟩
theorem bd__law_sign {gb : Bool} {P : Program} {w : World} {K : PySem.W.Frag} {mg : Str → Option Value} {base : Heap} {fa : Addr} (b_int : mg "int" = none) :
    ∀ (cdv : Value) (A : Around) (outer : List PySem.Env) (s : Shared) (H : Hp) (E : XK), Gd gb A → Room 0 (A.deeper (PyProof.Rows.envOfC "_law_sign" (defScope s__law_sign) s.heap.objs.size fa cdv)) → MSs (cxOf CX0 P w K mg base ["at"] "_law_sign" (defScope s__law_sign) fa cdv A outer s H E).nox EZ (defBody s__law_sign) mb__law_sign := by
  intro cdv A outer s H E hgd hr
  have hu := hr.u65
  have hu6 := hr.u66
  have scn := sc__law_sign
  exact (mss_one (ms_ret (me_ix hu (ME.r me_str) (ME.r (me_op op_mod od_pyMod (ME.r (me_callTy cr_pyInt cd_pyInt rfl b_int (by decide +kernel) (mar_cons (mr_var 0) mar_nil))) (ME.r me_int))))))
abbrev s__law_titles : Stmt := topS 26
theorem sc__law_titles : FnScope (["draw", "signs", "start", "way", "row", "stem", "turn", "words", "k", "sign"] : List Str) (["draw"] : List Str) (defScope s__law_titles) := ⟨rfl, rfl, rfl, by decide +kernel, rfl, by decide +kernel, by decide +kernel⟩
theorem bd__law_titles {gb : Bool} {P : Program} {w : World} {K : PySem.W.Frag} {mg : Str → Option Value} {base : Heap} {fa : Addr} (o__law_next : OwnG gb P w K mg base 1 "_law_next" 2 c__law_next) (b_int : mg "int" = none) (b_range : mg "range" = none) :
    ∀ (cdv : Value) (A : Around) (outer : List PySem.Env) (s : Shared) (H : Hp) (E : XK), Gd gb A → Room 1 (A.deeper (PyProof.Rows.envOfC "_law_titles" (defScope s__law_titles) s.heap.objs.size fa cdv)) → MSs (cxOf CX0 P w K mg base ["draw", "signs", "start", "way", "row", "stem", "turn", "words", "k", "sign"] "_law_titles" (defScope s__law_titles) fa cdv A outer s H E).nox EZ (defBody s__law_titles) mb__law_titles := by
  intro cdv A outer s H E hgd hr
  have hu := hr.u65
  have hu6 := hr.u66
  have scn := sc__law_titles
  exact (mss_cons (ms_tup2 (i := 1) (j := 2) rfl scn.nd (ME.x me_str) (ME.x (me_ownG o__law_next (hr.mono (by decide)) hgd (ma_cons (me_var 0) (ma_cons me_int ma_nil)))))
      (mss_cons (ms_set 3 scn.nd (ME.x (me_ownG o__law_next (hr.mono (by decide)) hgd (ma_cons (me_var 0) (ma_cons me_int ma_nil)))))
      (mss_cons (ms_if (mt_cmp (op_pyEq hu) od_pyEq (mr_var 3) (ME.r me_int) (nomark _)) (mss_cons (ms_set 7 scn.nd (ME.x (me_lst (ma_cons me_str (ma_cons me_str (ma_cons me_str (ma_cons me_str (ma_cons me_str (ma_cons me_str (ma_cons me_str (ma_cons me_str (ma_cons me_str (ma_cons me_str ma_nil)))))))))))))
      (mss_cons (ms_set 7 scn.nd (ME.x (me_op op_pyAdd od_pyAdd (mr_var 7) (ME.r (me_lst (ma_cons me_str (ma_cons me_str (ma_cons me_str (ma_cons me_str (ma_cons me_str (ma_cons me_str (ma_cons me_str (ma_cons me_str ma_nil)))))))))))))
      (mss_cons (ms_set 7 scn.nd (ME.x (me_op op_pyAdd od_pyAdd (mr_var 7) (ME.r (me_lst (ma_cons me_str (ma_cons me_str (ma_cons me_str (ma_cons me_str (ma_cons me_str (ma_cons me_str ma_nil)))))))))))
      (mss_one (ms_ret (me_op op_pyAdd od_pyAdd (ME.r (me_slice (mr_var 7) (mo_some (me_op op_mod od_pyMod (mr_var 2) (ME.r me_int))) mo_none)) (ME.r (me_slice (mr_var 7) mo_none (mo_some (me_op op_mod od_pyMod (mr_var 2) (ME.r me_int))))))))))) mss_nil)
      (mss_cons (ms_fzA 4 (ms_setLc 4 (own := [("k", 8)]) rfl scn.nd (mi_range1 rfl b_range (ma_cons me_int ma_nil)) (blkOk_by (N := ["draw", "signs", "start", "way", "row", "stem", "turn", "words", "k", "sign"]) (sc := defScope s__law_titles) (by decide +kernel)) (fun _ _ _ _ _ => (pg_name (i := 8) scn.nd rfl (Or.inl rfl))) (evc_name 8 (by decide)) (fun _ _ _ _ _ => mts_nil) (fun _ _ _ _ _ => (me_ix hu (mr_var 1) (ME.r (me_op op_mod od_pyMod (ME.r (me_callTy cr_pyInt cd_pyInt rfl b_int (by decide +kernel) (mar_cons (ME.r (me_op op_pyAdd od_pyAdd (mr_var 2) (ME.r (me_op op_pyMul od_pyMul (ME.r me_int) (mr_var 8))))) mar_nil))) (ME.r me_int))))) (sw_true rfl rfl rfl (by decide +kernel))))
      (mss_cons (ms_set 5 scn.nd (ME.x me_str))
      (mss_cons (ms_for PassesOwn.never rfl (mi_range1 rfl b_range (ma_cons (me_ownG o__law_next (hr.mono (by decide)) hgd (ma_cons (me_var 0) (ma_cons me_int ma_nil))) ma_nil)) (mg_name 6 scn.nd) (mss_one (ms_set 5 scn.nd (ME.x (me_op op_pyAdd od_pyAdd (mr_var 5) (ME.r (me_ix hu (mr_var 1) (ME.r (me_ownG o__law_next (hr.mono (by decide)) hgd (ma_cons (me_var 0) (ma_cons me_int ma_nil)))))))))))
      (mss_cons (ms_if (mt_cmp (op_pyEq hu) od_pyEq (mr_var 3) (ME.r me_int) (nomark _)) (mss_one (ms_ret (me_var 4))) mss_nil)
      (mss_one (ms_ret (MN.me (mn_lc (own := [("sign", 9)]) rfl scn.nd (mi_any (me_var 4)) (blkOk_by (N := ["draw", "signs", "start", "way", "row", "stem", "turn", "words", "k", "sign"]) (sc := defScope s__law_titles) (by decide +kernel)) (fun _ _ _ _ _ => (pg_name (i := 9) scn.nd rfl (Or.inl rfl))) (evc_name 9 (by decide)) (fun _ _ _ _ _ => mts_nil) (fun _ _ _ _ _ => (me_if (mt_cmp (op_pyEq hu) od_pyEq (mr_var 3) (ME.r me_int) (nomark _)) (me_op op_pyAdd od_pyAdd (mr_var 5) (mr_var 9)) (me_op op_pyAdd od_pyAdd (mr_var 9) (mr_var 5)))))))))))))))
abbrev s__law_frame : Stmt := topS 28
theorem sc__law_frame : FnScope (["draw", "most", "titles", "many", "rows", "pool", "start", "ed", "k", "bases", "turn", "at", "base"] : List Str) (["draw", "most"] : List Str) (defScope s__law_frame) := ⟨rfl, rfl, rfl, by decide +kernel, rfl, by decide +kernel, by decide +kernel⟩
theorem bd__law_frame {gb : Bool} {P : Program} {w : World} {K : PySem.W.Frag} {mg : Str → Option Value} {base : Heap} {fa : Addr} (o__law_next : OwnG gb P w K mg base 1 "_law_next" 2 c__law_next) (o__law_sign : OwnG gb P w K mg base 1 "_law_sign" 1 c__law_sign) (o__law_titles : OwnG gb P w K mg base 2 "_law_titles" 1 c__law_titles) (b_len : mg "len" = none) (b_min : mg "min" = none) (b_range : mg "range" = none) (b_tuple : mg "tuple" = none) :
    ∀ (cdv : Value) (A : Around) (outer : List PySem.Env) (s : Shared) (H : Hp) (E : XK), Gd gb A → Room 2 (A.deeper (PyProof.Rows.envOfC "_law_frame" (defScope s__law_frame) s.heap.objs.size fa cdv)) → MSs (cxOf CX0 P w K mg base ["draw", "most", "titles", "many", "rows", "pool", "start", "ed", "k", "bases", "turn", "at", "base"] "_law_frame" (defScope s__law_frame) fa cdv A outer s H E).nox EZ (defBody s__law_frame) mb__law_frame := by
  intro cdv A outer s H E hgd hr
  have hu := hr.u65
  have hu6 := hr.u66
  have scn := sc__law_frame
  exact (mss_cons (ms_par3 (i := 2) (j := 3) (l := 4) rfl scn.nd (ME.x (me_ownG o__law_titles (hr.mono (by decide)) hgd (ma_cons (me_var 0) ma_nil))) (ME.x (me_op op_pyAdd od_pyAdd (ME.r me_int) (ME.r (me_ownG o__law_next (hr.mono (by decide)) hgd (ma_cons (me_var 0) (ma_cons (me_var 1) ma_nil)))))) (MN.x (mn_lst ma_nil)))
      (mss_cons (ms_par3 (i := 5) (j := 6) (l := 7) rfl scn.nd (ME.x (me_ix hu (ME.r (me_lst (ma_cons me_int (ma_cons me_int (ma_cons me_int ma_nil))))) (ME.r (me_ownG o__law_next (hr.mono (by decide)) hgd (ma_cons (me_var 0) (ma_cons me_int ma_nil)))))) (ME.x (me_ownG o__law_next (hr.mono (by decide)) hgd (ma_cons (me_var 0) (ma_cons me_int ma_nil)))) (ME.x me_int))
      (mss_cons (ms_for PassesOwn.never rfl (mi_range1 rfl b_range (ma_cons (me_var 3) ma_nil)) (mg_name 8 scn.nd) (mss_cons (ms_set 7 scn.nd (ME.x (me_callB (call_min2 rfl) cd_pyMin rfl b_min (by decide +kernel) (mar_cons (ME.r me_int) (mar_cons (ME.r (me_op op_pyAdd od_pyAdd (mr_var 7) (ME.r (me_ix hu (ME.r (me_lst (ma_cons me_int (ma_cons me_int (ma_cons me_int (ma_cons me_int (ma_cons me_int (ma_cons me_int (ma_cons me_int (ma_cons me_int ma_nil)))))))))) (ME.r (me_ownG o__law_next (hr.mono (by decide)) hgd (ma_cons (me_var 0) (ma_cons me_int ma_nil)))))))) mar_nil)))))
      (mss_cons (ms_set 9 scn.nd (MN.x (mn_lst ma_nil)))
      (mss_cons (ms_for PassesOwn.never rfl (mi_range1 rfl b_range (ma_cons (me_ix hu (ME.r (me_lst (ma_cons me_int (ma_cons me_int (ma_cons me_int (ma_cons me_int (ma_cons me_int (ma_cons me_int (ma_cons me_int (ma_cons me_int ma_nil)))))))))) (ME.r (me_ownG o__law_next (hr.mono (by decide)) hgd (ma_cons (me_var 0) (ma_cons me_int ma_nil))))) ma_nil)) (mg_name 10 scn.nd) (mss_cons (ms_set 12 scn.nd (ME.x (me_ix hu (mr_var 2) (ME.r (me_ownG o__law_next (hr.mono (by decide)) hgd (ma_cons (me_var 0) (ma_cons (me_op op_pyAdd od_pyAdd (mr_var 8) (ME.r me_int)) ma_nil)))))))
      (mss_one (ms_if (mt_w (mw_and (mt_cmp (op_pyNe hu) od_pyNe (mr_var 12) (ME.r (me_ix hu (mr_var 2) (mr_var 8))) (nomark _)) (mw_and (mt_cmp (op_pyNotIn hu) od_pyNotIn (mr_var 12) (mr_var 9) rfl) (mw_and1 (mt_cmp op_pyLt od_pyLt (ME.r (me_callB cr_pyLenT cd_pyLenT rfl b_len (by decide +kernel) (mar_cons (mr_var 9) mar_nil))) (ME.r me_int) (nomark _)))))) (mss_one (ms_append 9 (me_var 12))) mss_nil))))
      (mss_cons (ms_set 11 scn.nd (ME.x (me_op op_pyAdd od_pyAdd (ME.r (me_op op_pyAdd od_pyAdd (mr_var 6) (ME.r (me_op op_pyMul od_pyMul (ME.r me_int) (mr_var 8))))) (ME.r (me_ownG o__law_next (hr.mono (by decide)) hgd (ma_cons (me_var 0) (ma_cons me_int ma_nil)))))))
      (mss_cons (ms_if (mt_cmp op_pyLt od_pyLt (mr_var 5) (ME.r me_int) (nomark _)) (mss_one (ms_set 11 scn.nd (ME.x (me_op op_pyAdd od_pyAdd (mr_var 6) (ME.r (me_op op_pyMul od_pyMul (ME.r me_int) (ME.r (me_ownG o__law_next (hr.mono (by decide)) hgd (ma_cons (me_var 0) (ma_cons (me_var 5) ma_nil)))))))))) mss_nil)
      (mss_one (ms_append 4 (me_tup (ma_cons (me_ix hu (mr_var 2) (mr_var 8)) (ma_cons (me_var 7) (ma_cons (me_callTy call_tuple_of cd_pyTuple rfl b_tuple (by decide +kernel) (mar_cons (mr_var 9) mar_nil)) (ma_cons (me_ownG o__law_sign (hr.mono (by decide)) hgd (ma_cons (me_var 11) ma_nil)) (ma_cons me_str ma_nil))))))))))))))
      (mss_fz 4 (mss_one (ms_ret (me_var 4)))))))
abbrev s__law_word : Stmt := topS 30
theorem sc__law_word : FnScope (["signs", "k"] : List Str) (["signs"] : List Str) (defScope s__law_word) := ⟨rfl, rfl, rfl, by decide +kernel, rfl, by decide +kernel, by decide +kernel⟩
theorem bd__law_word {gb : Bool} {P : Program} {w : World} {K : PySem.W.Frag} {mg : Str → Option Value} {base : Heap} {fa : Addr} (o__law_sign : OwnG gb P w K mg base 1 "_law_sign" 1 c__law_sign) (b_range : mg "range" = none) :
    ∀ (cdv : Value) (A : Around) (outer : List PySem.Env) (s : Shared) (H : Hp) (E : XK), Gd gb A → Room 1 (A.deeper (PyProof.Rows.envOfC "_law_word" (defScope s__law_word) s.heap.objs.size fa cdv)) → MSs (cxOf CX0 P w K mg base ["signs", "k"] "_law_word" (defScope s__law_word) fa cdv A outer s H E).nox EZ (defBody s__law_word) mb__law_word := by
  intro cdv A outer s H E hgd hr
  have hu := hr.u65
  have hu6 := hr.u66
  have scn := sc__law_word
  exact (mss_one (ms_ret (me_join me_str (ME.r (MN.me (mn_lc (own := [("k", 1)]) rfl scn.nd (mi_range1 rfl b_range (ma_cons me_int ma_nil)) (blkOk_by (N := ["signs", "k"]) (sc := defScope s__law_word) (by decide +kernel)) (fun _ _ _ _ _ => (pg_name (i := 1) scn.nd rfl (Or.inl rfl))) (evc_name 1 (by decide)) (fun _ _ _ _ _ => (mts_one (mt_cmp (op_pyIn hu) od_pyIn (ME.r (me_ownG o__law_sign (hr.mono (by decide)) hgd (ma_cons (me_var 1) ma_nil))) (mr_var 0) rfl))) (fun _ _ _ _ _ => (me_ownG o__law_sign (hr.mono (by decide)) hgd (ma_cons (me_var 1) ma_nil)))))))))
abbrev s__law_marks : Stmt := topS 31
theorem sc__law_marks : FnScope (["draw", "rows", "way", "under", "marks", "name", "ed", "bases", "letter", "mark", "own", "kind", "turn"] : List Str) (["draw", "rows", "way"] : List Str) (defScope s__law_marks) := ⟨rfl, rfl, rfl, by decide +kernel, rfl, by decide +kernel, by decide +kernel⟩
theorem bd__law_marks {gb : Bool} {P : Program} {w : World} {K : PySem.W.Frag} {mg : Str → Option Value} {base : Heap} {fa : Addr} (o__law_next : OwnG gb P w K mg base 1 "_law_next" 2 c__law_next) (o__law_under : OwnG gb P w K mg base 1 "_law_under" 1 c__law_under) (o__law_word : OwnG gb P w K mg base 2 "_law_word" 1 c__law_word) (b_len : mg "len" = none) (b_list : mg "list" = none) (b_range : mg "range" = none) :
    ∀ (cdv : Value) (A : Around) (outer : List PySem.Env) (s : Shared) (H : Hp) (E : XK), Gd gb A → Room 2 (A.deeper (PyProof.Rows.envOfC "_law_marks" (defScope s__law_marks) s.heap.objs.size fa cdv)) → MSs (cxOf CX0 P w K mg base ["draw", "rows", "way", "under", "marks", "name", "ed", "bases", "letter", "mark", "own", "kind", "turn"] "_law_marks" (defScope s__law_marks) fa cdv A outer s H E).nox EZ (defBody s__law_marks) mb__law_marks := by
  intro cdv A outer s H E hgd hr
  have hu := hr.u65
  have hu6 := hr.u66
  have scn := sc__law_marks
  exact (mss_cons (ms_par (i := 3) (j := 4) rfl scn.nd (ME.x (me_ownG o__law_under (hr.mono (by decide)) hgd (ma_cons (me_var 1) ma_nil))) (MN.x mn_dict0))
      (mss_cons (ms_for PassesOwn.never rfl (mi_any (me_var 1)) (mg_tup rfl (mgs_cons (mg_name 5 scn.nd) (mgs_cons (mg_name 6 scn.nd) (mgs_cons (mg_name 7 scn.nd) (mgs_cons (mg_name 8 scn.nd) (mgs_cons (mg_name 9 scn.nd) mgs_nil)))))) (mss_cons (ms_set 10 scn.nd (MN.x (mn_lst ma_nil)))
      (mss_cons (ms_for PassesOwn.never rfl (mi_any (me_var 1)) (mg_name 11 scn.nd) (mss_one (ms_if (mt_cmp (op_pyIn hu) od_pyIn (ME.r (me_ix hu (mr_var 11) (ME.r me_int))) (ME.r (me_ix hu (mr_var 3) (mr_var 5))) rfl) (mss_cons (ms_set 10 scn.nd (MN.x (mn_add (mr_var 10) (ME.r (MN.me (mn_callTy (cr_pyListX rfl) cn_pyListX rfl b_list (by decide +kernel) (mar_cons (ME.r (me_ix hu (mr_var 4) (ME.r (me_ix hu (mr_var 11) (ME.r me_int))))) mar_nil)))))))
      (mss_one (ms_if (mt_w (mw_or (mt_cmp (op_pyEq hu) od_pyEq (mr_var 2) (ME.r me_int) (nomark _)) (mw_or1 (mt_cmp op_pyLt od_pyLt (ME.r (me_ix hu (mr_var 11) (ME.r me_int))) (mr_var 6) (nomark _))))) (mss_one (ms_append 10 (me_ix hu (mr_var 11) (ME.r me_int)))) mss_nil))) mss_nil)))
      (mss_cons (ms_if (mt_cmp (op_pyEq hu) od_pyEq (mr_var 2) (ME.r me_int) (nomark _)) (mss_cons (ms_set 10 scn.nd (MN.x (mn_lst ma_nil)))
      (mss_one (ms_for PassesOwn.never rfl (mi_range1 rfl b_range (ma_cons (me_ownG o__law_next (hr.mono (by decide)) hgd (ma_cons (me_var 0) (ma_cons me_int ma_nil))) ma_nil)) (mg_name 12 scn.nd) (mss_one (ms_append 10 (me_ix hu (ME.r (me_ix hu (mr_var 1) (ME.r (me_ownG o__law_next (hr.mono (by decide)) hgd (ma_cons (me_var 0) (ma_cons (me_callB cr_pyLenT cd_pyLenT rfl b_len (by decide +kernel) (mar_cons (mr_var 1) mar_nil)) ma_nil)))))) (ME.r me_int))))))) mss_nil)
      (mss_fz 10 (mss_one (ms_dput 4 hu (me_ownG o__law_word (hr.mono (by decide)) hgd (ma_cons (me_var 10) ma_nil)) (me_var 5))))))))
      (mss_fz 4 (mss_one (ms_ret (me_var 4))))))
abbrev s__law_marked : Stmt := topS 32
theorem sc__law_marked : FnScope (["draw", "rows", "way", "marks", "found", "name", "ed", "bases", "letter", "mark", "told", "some", "sign", "more", "kind", "one"] : List Str) (["draw", "rows", "way"] : List Str) (defScope s__law_marked) := ⟨rfl, rfl, rfl, by decide +kernel, rfl, by decide +kernel, by decide +kernel⟩
theorem bd__law_marked {gb : Bool} {P : Program} {w : World} {K : PySem.W.Frag} {mg : Str → Option Value} {base : Heap} {fa : Addr} (o__law_marks : OwnG gb P w K mg base 3 "_law_marks" 3 c__law_marks) (o__law_next : OwnG gb P w K mg base 1 "_law_next" 2 c__law_next) (o__law_sign : OwnG gb P w K mg base 1 "_law_sign" 1 c__law_sign) (o__law_word : OwnG gb P w K mg base 2 "_law_word" 1 c__law_word) (b_len : mg "len" = none) (b_tuple : mg "tuple" = none) :
    ∀ (cdv : Value) (A : Around) (outer : List PySem.Env) (s : Shared) (H : Hp) (E : XK), Gd gb A → Room 3 (A.deeper (PyProof.Rows.envOfC "_law_marked" (defScope s__law_marked) s.heap.objs.size fa cdv)) → MSs (cxOf CX0 P w K mg base ["draw", "rows", "way", "marks", "found", "name", "ed", "bases", "letter", "mark", "told", "some", "sign", "more", "kind", "one"] "_law_marked" (defScope s__law_marked) fa cdv A outer s H E).nox EZ (defBody s__law_marked) mb__law_marked := by
  intro cdv A outer s H E hgd hr
  have hu := hr.u65
  have hu6 := hr.u66
  have scn := sc__law_marked
  exact (mss_cons (ms_par (i := 3) (j := 4) rfl scn.nd (ME.x (me_ownG o__law_marks (hr.mono (by decide)) hgd (ma_cons (me_var 0) (ma_cons (me_var 1) (ma_cons (me_var 2) ma_nil))))) (MN.x (mn_lst ma_nil)))
      (mss_cons (ms_for PassesOwn.never rfl (mi_any (me_var 1)) (mg_tup rfl (mgs_cons (mg_name 5 scn.nd) (mgs_cons (mg_name 6 scn.nd) (mgs_cons (mg_name 7 scn.nd) (mgs_cons (mg_name 8 scn.nd) (mgs_cons (mg_name 9 scn.nd) mgs_nil)))))) (mss_cons (ms_set 10 scn.nd (ME.x (me_ix hu (mr_var 3) (mr_var 5))))
      (mss_cons (ms_if (mt_w (mw_and (mt_cmp (op_pyEq hu) od_pyEq (mr_var 2) (ME.r me_int) (nomark _)) (mw_and1 (mt_cmp (op_pyEq hu) od_pyEq (ME.r (me_ownG o__law_next (hr.mono (by decide)) hgd (ma_cons (me_var 0) (ma_cons me_int ma_nil)))) (ME.r me_int) (nomark _))))) (mss_cons (ms_setLc 11 (own := [("kind", 14)]) rfl scn.nd (mi_any (me_var 1)) (blkOk_by (N := ["draw", "rows", "way", "marks", "found", "name", "ed", "bases", "letter", "mark", "told", "some", "sign", "more", "kind", "one"]) (sc := defScope s__law_marked) (by decide +kernel)) (fun _ _ _ _ _ => (pg_name (i := 14) scn.nd rfl (Or.inl rfl))) (evc_name 14 (by decide)) (fun _ _ _ _ _ => (mts_one (mt_cmp op_pyLt od_pyLt (ME.r (me_ix hu (mr_var 14) (ME.r me_int))) (mr_var 6) (nomark _)))) (fun _ _ _ _ _ => (me_ix hu (mr_var 14) (ME.r me_int))) (sw_true rfl rfl rfl (by decide +kernel)))
      (mss_cons (ms_append 11 (me_ownG o__law_sign (hr.mono (by decide)) hgd (ma_cons (me_ownG o__law_next (hr.mono (by decide)) hgd (ma_cons (me_var 0) (ma_cons me_int ma_nil))) ma_nil)))
      (mss_cons (ms_set 12 scn.nd (ME.x (me_ix hu (mr_var 11) (ME.r (me_ownG o__law_next (hr.mono (by decide)) hgd (ma_cons (me_var 0) (ma_cons (me_callB cr_pyLenT cd_pyLenT rfl b_len (by decide +kernel) (mar_cons (mr_var 11) mar_nil)) ma_nil)))))))
      (mss_cons (ms_set 13 scn.nd (ME.x (me_if (mt_cmp (op_pyIn hu) od_pyIn (mr_var 12) (mr_var 10) rfl) (me_lst ma_nil) (me_lst (ma_cons (me_var 12) ma_nil)))))
      (mss_one (ms_set 10 scn.nd (ME.x (me_ownG o__law_word (hr.mono (by decide)) hgd (ma_cons (me_op op_pyAdd od_pyAdd (ME.r (MN.me (mn_lc (own := [("one", 15)]) rfl scn.nd (mi_any (me_var 10)) (blkOk_by (N := ["draw", "rows", "way", "marks", "found", "name", "ed", "bases", "letter", "mark", "told", "some", "sign", "more", "kind", "one"]) (sc := defScope s__law_marked) (by decide +kernel)) (fun _ _ _ _ _ => (pg_name (i := 15) scn.nd rfl (Or.inl rfl))) (evc_name 15 (by decide)) (fun _ _ _ _ _ => (mts_one (mt_cmp (op_pyNe hu) od_pyNe (mr_var 15) (mr_var 12) (nomark _)))) (fun _ _ _ _ _ => (me_var 15))))) (mr_var 13)) ma_nil))))))))) mss_nil)
      (mss_one (ms_append 4 (me_tup (ma_cons (me_var 5) (ma_cons (me_var 6) (ma_cons (me_var 7) (ma_cons (me_var 8) (ma_cons (me_var 10) ma_nil)))))))))))
      (mss_one (ms_ret (me_callTy call_tuple_of cd_pyTuple rfl b_tuple (by decide +kernel) (mar_cons (mr_var 4) mar_nil))))))
abbrev s__law_layout : Stmt := topS 33
theorem sc__law_layout : FnScope (["draw", "most", "rows"] : List Str) (["draw", "most"] : List Str) (defScope s__law_layout) := ⟨rfl, rfl, rfl, by decide +kernel, rfl, by decide +kernel, by decide +kernel⟩
theorem bd__law_layout {gb : Bool} {P : Program} {w : World} {K : PySem.W.Frag} {mg : Str → Option Value} {base : Heap} {fa : Addr} (o__law_frame : OwnG gb P w K mg base 3 "_law_frame" 2 c__law_frame) (o__law_marked : OwnG gb P w K mg base 4 "_law_marked" 3 c__law_marked) (o__law_next : OwnG gb P w K mg base 1 "_law_next" 2 c__law_next) :
    ∀ (cdv : Value) (A : Around) (outer : List PySem.Env) (s : Shared) (H : Hp) (E : XK), Gd gb A → Room 4 (A.deeper (PyProof.Rows.envOfC "_law_layout" (defScope s__law_layout) s.heap.objs.size fa cdv)) → MSs (cxOf CX0 P w K mg base ["draw", "most", "rows"] "_law_layout" (defScope s__law_layout) fa cdv A outer s H E).nox EZ (defBody s__law_layout) mb__law_layout := by
  intro cdv A outer s H E hgd hr
  have hu := hr.u65
  have hu6 := hr.u66
  have scn := sc__law_layout
  exact (mss_cons (ms_set 2 scn.nd (ME.x (me_ownG o__law_frame (hr.mono (by decide)) hgd (ma_cons (me_var 0) (ma_cons (me_var 1) ma_nil)))))
      (mss_one (ms_ret (me_ownG o__law_marked (hr.mono (by decide)) hgd (ma_cons (me_var 0) (ma_cons (me_var 2) (ma_cons (me_ownG o__law_next (hr.mono (by decide)) hgd (ma_cons (me_var 0) (ma_cons me_int ma_nil))) ma_nil)))))))
abbrev s_is_safe : Stmt := topS 20
theorem sc_is_safe : FnScope (["layout"] : List Str) (["layout"] : List Str) (defScope s_is_safe) := ⟨rfl, rfl, rfl, by decide +kernel, rfl, by decide +kernel, by decide +kernel⟩
theorem bd_is_safe {gb : Bool} {P : Program} {w : World} {K : PySem.W.Frag} {mg : Str → Option Value} {base : Heap} {fa : Addr} (o_gaps : OwnY P w K mg base 7 "gaps" 1 c_gapsT) (ns_tb : nsB K (["BadLayout"] : List Str) = true) (b_list : mg "list" = none) :
    ∀ (cdv : Value) (A : Around) (outer : List PySem.Env) (s : Shared) (H : Hp) (E : XK), Gd gb A → Room 10 (A.deeper (PyProof.Rows.envOfC "is_safe" (defScope s_is_safe) s.heap.objs.size fa cdv)) → MSs (cxOf (L2.CX P w) P w K mg base ["layout"] "is_safe" (defScope s_is_safe) fa cdv A outer s H E) (fun _ => E) (defBody s_is_safe) mb_is_safe := by
  intro cdv A outer s H E hgd hr
  have hu := hr.u65
  have hu6 := hr.u66
  have scn := sc_is_safe
  have tk : Takes (cxOf (L2.CX P w) P w K mg base ["layout"] "is_safe" (defScope s_is_safe) fa cdv A outer s H E) (fun cls d _ H => E cls d H) := takes_of rfl rfl rfl rfl
  exact (mss_one (ms_ret (me_cmp (op_pyEq hu) od_pyEq (ME.r (MN.me (mn_listYX tk ns_tb o_gaps (hr.mono (by decide)) rfl b_list (ma_cons (me_var 0) ma_nil)))) (ME.r (me_lst ma_nil)) (nomark _))))
abbrev s_is_sparing : Stmt := topS 21
theorem sc_is_sparing : FnScope (["layout"] : List Str) (["layout"] : List Str) (defScope s_is_sparing) := ⟨rfl, rfl, rfl, by decide +kernel, rfl, by decide +kernel, by decide +kernel⟩
theorem bd_is_sparing {gb : Bool} {P : Program} {w : World} {K : PySem.W.Frag} {mg : Str → Option Value} {base : Heap} {fa : Addr} (o_wastes : OwnY P w K mg base 7 "wastes" 1 c_wastesT) (ns_tb : nsB K (["BadLayout"] : List Str) = true) (b_list : mg "list" = none) :
    ∀ (cdv : Value) (A : Around) (outer : List PySem.Env) (s : Shared) (H : Hp) (E : XK), Gd gb A → Room 10 (A.deeper (PyProof.Rows.envOfC "is_sparing" (defScope s_is_sparing) s.heap.objs.size fa cdv)) → MSs (cxOf (L2.CX P w) P w K mg base ["layout"] "is_sparing" (defScope s_is_sparing) fa cdv A outer s H E) (fun _ => E) (defBody s_is_sparing) mb_is_sparing := by
  intro cdv A outer s H E hgd hr
  have hu := hr.u65
  have hu6 := hr.u66
  have scn := sc_is_sparing
  have tk : Takes (cxOf (L2.CX P w) P w K mg base ["layout"] "is_sparing" (defScope s_is_sparing) fa cdv A outer s H E) (fun cls d _ H => E cls d H) := takes_of rfl rfl rfl rfl
  exact (mss_one (ms_ret (me_cmp (op_pyEq hu) od_pyEq (ME.r (MN.me (mn_listYX tk ns_tb o_wastes (hr.mono (by decide)) rfl b_list (ma_cons (me_var 0) ma_nil)))) (ME.r (me_lst ma_nil)) (nomark _))))
abbrev s_is_exact : Stmt := topS 22
theorem sc_is_exact : FnScope (["layout"] : List Str) (["layout"] : List Str) (defScope s_is_exact) := ⟨rfl, rfl, rfl, by decide +kernel, rfl, by decide +kernel, by decide +kernel⟩
theorem bd_is_exact {gb : Bool} {P : Program} {w : World} {K : PySem.W.Frag} {mg : Str → Option Value} {base : Heap} {fa : Addr} (o_is_safe : OwnX gb P w K mg base 11 "is_safe" 1 c_is_safe) (o_is_sparing : OwnX gb P w K mg base 11 "is_sparing" 1 c_is_sparing) :
    ∀ (cdv : Value) (A : Around) (outer : List PySem.Env) (s : Shared) (H : Hp) (E : XK), Gd gb A → Room 11 (A.deeper (PyProof.Rows.envOfC "is_exact" (defScope s_is_exact) s.heap.objs.size fa cdv)) → MSs (cxOf (L2.CX P w) P w K mg base ["layout"] "is_exact" (defScope s_is_exact) fa cdv A outer s H E) (fun _ => E) (defBody s_is_exact) mb_is_exact := by
  intro cdv A outer s H E hgd hr
  have hu := hr.u65
  have hu6 := hr.u66
  have scn := sc_is_exact
  have tk : Takes (cxOf (L2.CX P w) P w K mg base ["layout"] "is_exact" (defScope s_is_exact) fa cdv A outer s H E) (fun cls d _ H => E cls d H) := takes_of rfl rfl rfl rfl
  exact (mss_one (ms_ret (me_and (me_ownX tk o_is_safe (hr.mono (by decide)) hgd (ma_cons (me_var 0) ma_nil)) (me_one (me_ownX tk o_is_sparing (hr.mono (by decide)) hgd (ma_cons (me_var 0) ma_nil))))))
abbrev s__law_refused : Stmt := topS 38
theorem sc__law_refused : FnScope (["thing", "found", "turn", "caught", "e"] : List Str) (["thing"] : List Str) (defScope s__law_refused) := ⟨rfl, rfl, rfl, by decide +kernel, rfl, by decide +kernel, by decide +kernel⟩
theorem bd__law_refused {gb : Bool} {P : Program} {w : World} {K : PySem.W.Frag} {mg : Str → Option Value} {base : Heap} {fa : Addr} (x_BadLayout_BadLayout : PySem.W.exmOne K (.ref (He.ga K "BadLayout")) (.ref (He.ga K "BadLayout")) = some true) (o_gaps : OwnY P w K mg base 7 "gaps" 1 c_gapsT) (o_wastes : OwnY P w K mg base 7 "wastes" 1 c_wastesT) (g_BadLayout : mg "BadLayout" = some (.ref (He.ga K "BadLayout"))) (g_is_exact : mg "is_exact" = some (.ref (He.ga K "is_exact"))) (g_is_safe : mg "is_safe" = some (.ref (He.ga K "is_safe"))) (g_is_sparing : mg "is_sparing" = some (.ref (He.ga K "is_sparing"))) (ns_tb : nsB K (["BadLayout"] : List Str) = true) (o_is_exact : OwnX gb P w K mg base 12 "is_exact" 1 c_is_exact) (o_is_safe : OwnX gb P w K mg base 11 "is_safe" 1 c_is_safe) (o_is_sparing : OwnX gb P w K mg base 11 "is_sparing" 1 c_is_sparing) (xf_place : ∀ c ∈ (["BadLayout"] : List Str), XfC K (He.ga K c) ∧ PySem.W.findIn K (.ref (He.ga K c)) "place" = some none) (b_list : mg "list" = none) (b_range : mg "range" = none) :
    ∀ (cdv : Value) (A : Around) (outer : List PySem.Env) (s : Shared) (H : Hp) (E : XK), Gd gb A → Room 12 (A.deeper (PyProof.Rows.envOfC "_law_refused" (defScope s__law_refused) s.heap.objs.size fa cdv)) → MSs (cxOf CX0 P w K mg base ["thing", "found", "turn", "caught", "e"] "_law_refused" (defScope s__law_refused) fa cdv A outer s H E).nox EZ (defBody s__law_refused) mb__law_refused := by
  intro cdv A outer s H E hgd hr
  have hu := hr.u65
  have hu6 := hr.u66
  have scn := sc__law_refused
  exact (mss_cons (ms_set 1 scn.nd (MN.x (mn_lst ma_nil)))
      (mss_cons (ms_for PassesOwn.never rfl (mi_range1 rfl b_range (ma_cons me_int ma_nil)) (mg_name 2 scn.nd) (mss_cons (ms_set 3 scn.nd (ME.x me_non))
      (mss_cons (ms_tryC 4 3 [("BadLayout", true)] scn.nd takesZ (hasTb_cons x_BadLayout_BadLayout hasTb_nil) g_BadLayout (fun W1 pn1 xe1 tk1 pw1 => (mb_if (mt_cmp (op_pyEq hu) od_pyEq (mr_var 2) (ME.r me_int) (nomark _)) (mb_append 1 (MN.me (mn_listYX tk1 ns_tb o_gaps (hr.mono (by decide)) rfl b_list (ma_cons (me_var 0) ma_nil)))) (mb_if (mt_cmp (op_pyEq hu) od_pyEq (mr_var 2) (ME.r me_int) (nomark _)) (mb_append 1 (MN.me (mn_listYX tk1 ns_tb o_wastes (hr.mono (by decide)) rfl b_list (ma_cons (me_var 0) ma_nil)))) (mb_append 1 (me_callE (tb := [("is_safe", c_is_safe), ("is_sparing", c_is_sparing), ("is_exact", c_is_exact)]) tk1 (me_ix hu (ME.r (me_lst (ma_cons (me_globF rfl g_is_safe) (ma_cons (me_globF rfl g_is_sparing) (ma_cons (me_globF rfl g_is_exact) ma_nil))))) (ME.r (me_op op_sub od_pySub (mr_var 2) (ME.r me_int)))) (heldX_cons (own_liftX o_is_safe (by decide)) g_is_safe (heldX_cons (own_liftX o_is_sparing (by decide)) g_is_sparing (heldX_cons o_is_exact g_is_exact heldX_nil))) (hr.mono (by decide)) hgd (ma_cons (me_var 0) ma_nil)))))))
      (mss_one (ms_if (mt_w (mw_or (mt_cmp op_pyIs od_pyIs (mr_var 3) (ME.r me_non) (nomark _)) (mw_or1 (mt_cmp (op_pyNe hu) od_pyNe (ME.r (me_xfld ["BadLayout"] xf_place (me_var 3))) (ME.r (me_tup ma_nil)) (nomark _))))) (mss_one (ms_ret me_bl)) mss_nil)))))
      (mss_one (ms_ret (me_cmp (op_pyEq hu) od_pyEq (mr_var 1) (ME.r (me_lst ma_nil)) (nomark _))))))
abbrev s__law_wastes : Stmt := topS 37
theorem sc__law_wastes : FnScope (["plan", "under", "seen", "found", "name", "other"] : List Str) (["plan"] : List Str) (defScope s__law_wastes) := ⟨rfl, rfl, rfl, by decide +kernel, rfl, by decide +kernel, by decide +kernel⟩
theorem bd__law_wastes {gb : Bool} {P : Program} {w : World} {K : PySem.W.Frag} {mg : Str → Option Value} {base : Heap} {fa : Addr} (o__law_seen : OwnG gb P w K mg base 1 "_law_seen" 1 c__law_seen) (o__law_under : OwnG gb P w K mg base 1 "_law_under" 1 c__law_under) :
    ∀ (cdv : Value) (A : Around) (outer : List PySem.Env) (s : Shared) (H : Hp) (E : XK), Gd gb A → Room 1 (A.deeper (PyProof.Rows.envOfC "_law_wastes" (defScope s__law_wastes) s.heap.objs.size fa cdv)) → MSs (cxOf CX0 P w K mg base ["plan", "under", "seen", "found", "name", "other"] "_law_wastes" (defScope s__law_wastes) fa cdv A outer s H E).nox EZ (defBody s__law_wastes) mb__law_wastes := by
  intro cdv A outer s H E hgd hr
  have hu := hr.u65
  have hu6 := hr.u66
  have scn := sc__law_wastes
  exact (mss_cons (ms_tup3 (i := 1) (j := 2) (l := 3) rfl scn.nd (ME.x (me_ownG o__law_under (hr.mono (by decide)) hgd (ma_cons (me_var 0) ma_nil))) (ME.x (me_ownG o__law_seen (hr.mono (by decide)) hgd (ma_cons (me_var 0) ma_nil))) (ME.x (me_lst ma_nil)))
      (mss_cons (ms_for PassesOwn.never rfl (mi_any (me_var 2)) (mg_name 4 scn.nd) (mss_one (ms_set 3 scn.nd (ME.x (me_op op_pyAdd od_pyAdd (mr_var 3) (ME.r (MN.me (mn_lc (own := [("other", 5)]) rfl scn.nd (mi_any (me_ix hu (mr_var 2) (mr_var 4))) (blkOk_by (N := ["plan", "under", "seen", "found", "name", "other"]) (sc := defScope s__law_wastes) (by decide +kernel)) (fun _ _ _ _ _ => (pg_name (i := 5) scn.nd rfl (Or.inl rfl))) (evc_name 5 (by decide)) (fun _ _ _ _ _ => (mts_one (mt_cmp (op_pyNotIn hu) od_pyNotIn (mr_var 5) (ME.r (me_ix hu (mr_var 1) (mr_var 4))) rfl))) (fun _ _ _ _ _ => (me_tup (ma_cons (me_var 4) (ma_cons (me_var 5) ma_nil))))))))))))
      (mss_one (ms_ret (me_var 3)))))
abbrev s_law : Stmt := topS 39
theorem sc_law : FnScope (["script", "draw", "turn", "plan", "kept", "lacks", "more", "again", "told", "row", "pair"] : List Str) (["script"] : List Str) (defScope s_law) := ⟨rfl, rfl, rfl, by decide +kernel, rfl, by decide +kernel, by decide +kernel⟩
theorem bd_law {P : Program} {w : World} {K : PySem.W.Frag} {mg : Str → Option Value} {base : Heap} {fa : Addr} (o_gaps : OwnY P w K mg base 7 "gaps" 1 c_gapsT) (o_wastes : OwnY P w K mg base 7 "wastes" 1 c_wastesT) (g_gaps : mg "gaps" = some (.ref (He.ga K "gaps"))) (oh_gaps : OwnH P w K mg base 7 "gaps" 1 R_gaps) (o__law_begun : OwnG true P w K mg base 1 "_law_begun" 1 c__law_begun) (o__law_gaps : OwnG true P w K mg base 2 "_law_gaps" 1 c__law_gaps) (o__law_layout : OwnG true P w K mg base 5 "_law_layout" 2 c__law_layout) (o__law_refused : OwnG true P w K mg base 13 "_law_refused" 1 c__law_refused) (o__law_wastes : OwnG true P w K mg base 2 "_law_wastes" 1 c__law_wastes) (o_is_exact : OwnX true P w K mg base 12 "is_exact" 1 c_is_exact) (o_is_safe : OwnX true P w K mg base 11 "is_safe" 1 c_is_safe) (o_is_sparing : OwnX true P w K mg base 11 "is_sparing" 1 c_is_sparing) (hS : (K.lookup sysModules).isSome = true) (b_len : mg "len" = none) (b_list : mg "list" = none) (b_min : mg "min" = none) (b_range : mg "range" = none) (b_repr : mg "repr" = none) :
    ∀ (cdv : Value) (A : Around) (outer : List PySem.Env) (s : Shared) (H : Hp) (E : XK), Gd true A → Room 13 (A.deeper (PyProof.Rows.envOfC "law" (defScope s_law) s.heap.objs.size fa cdv)) → MSs (cxOf CX0 P w K mg base ["script", "draw", "turn", "plan", "kept", "lacks", "more", "again", "told", "row", "pair"] "law" (defScope s_law) fa cdv A outer s H E).nox EZ (defBody s_law) mb_law := by
  intro cdv A outer s H E hgd hr
  have hu := hr.u65
  have hu6 := hr.u66
  have scn := sc_law
  exact (mss_cons (ms_set 1 scn.nd (ME.x (me_ownG o__law_begun (hr.mono (by decide)) hgd (ma_cons (me_var 0) ma_nil))))
      (mss_cons (ms_for PassesOwn.never rfl (mi_range1 rfl b_range (ma_cons (me_op op_pyAdd od_pyAdd (ME.r me_int) (ME.r (me_op op_fdiv od_pyDiv (ME.r (me_callB (call_min2 rfl) cd_pyMin rfl b_min (by decide +kernel) (mar_cons (ME.r me_int) (mar_cons (ME.r (me_callB cr_pyLenT cd_pyLenT rfl b_len (by decide +kernel) (mar_cons (mr_var 0) mar_nil))) mar_nil)))) (ME.r me_int)))) ma_nil)) (mg_name 2 scn.nd) (mss_cons (ms_set 3 scn.nd (ME.x (me_ownG o__law_layout (hr.mono (by decide)) hgd (ma_cons (me_var 1) (ma_cons me_int ma_nil)))))
      (mss_cons (ms_par3 (i := 4) (j := 5) (l := 6) rfl scn.nd (ME.x (me_callB (cr_reprD hu6 (hgd rfl) hS) cd_reprD rfl b_repr (by decide +kernel) (mar_cons (mr_var 3) mar_nil))) (ME.x (me_ownG o__law_gaps (hr.mono (by decide)) hgd (ma_cons (me_var 3) ma_nil))) (ME.x (me_ownG o__law_wastes (hr.mono (by decide)) hgd (ma_cons (me_var 3) ma_nil))))
      (mss_cons (ms_for PassesOwn.never rfl (mi_range1 rfl b_range (ma_cons me_int ma_nil)) (mg_name 7 scn.nd) (mss_one (ms_if (mt_w (mw_or (mt_cmp (op_pyNe hu) od_pyNe (ME.r (me_callB (cr_reprD hu6 (hgd rfl) hS) cd_reprD rfl b_repr (by decide +kernel) (mar_cons (ME.r (MN.me (mn_listY o_gaps (hr.mono (by decide)) rfl b_list (ma_cons (me_var 3) ma_nil)))) mar_nil))) (ME.r (me_callB (cr_reprD hu6 (hgd rfl) hS) cd_reprD rfl b_repr (by decide +kernel) (mar_cons (mr_var 5) mar_nil))) (nomark _)) (mw_or1 (mt_cmp (op_pyNe hu) od_pyNe (ME.r (me_callB (cr_reprD hu6 (hgd rfl) hS) cd_reprD rfl b_repr (by decide +kernel) (mar_cons (ME.r (MN.me (mn_listY o_wastes (hr.mono (by decide)) rfl b_list (ma_cons (me_var 3) ma_nil)))) mar_nil))) (ME.r (me_callB (cr_reprD hu6 (hgd rfl) hS) cd_reprD rfl b_repr (by decide +kernel) (mar_cons (mr_var 6) mar_nil))) (nomark _))))) (mss_one (ms_ret me_bl)) mss_nil)))
      (mss_cons (ms_set 8 scn.nd (ME.x (me_lst (ma_cons (me_ownX takesZ o_is_safe (hr.mono (by decide)) hgd (ma_cons (me_var 3) ma_nil)) (ma_cons (me_ownX takesZ o_is_sparing (hr.mono (by decide)) hgd (ma_cons (me_var 3) ma_nil)) (ma_cons (me_ownX takesZ o_is_exact (hr.mono (by decide)) hgd (ma_cons (me_var 3) ma_nil)) ma_nil))))))
      (mss_cons (ms_if (mt_w (mw_or (mt_cmp (op_pyNe hu) od_pyNe (ME.r (me_callB (cr_reprD hu6 (hgd rfl) hS) cd_reprD rfl b_repr (by decide +kernel) (mar_cons (mr_var 8) mar_nil))) (ME.r (me_callB (cr_reprD hu6 (hgd rfl) hS) cd_reprD rfl b_repr (by decide +kernel) (mar_cons (ME.r (me_lst (ma_cons (me_cmp (op_pyEq hu) od_pyEq (mr_var 5) (ME.r (me_lst ma_nil)) (nomark _)) (ma_cons (me_cmp (op_pyEq hu) od_pyEq (mr_var 6) (ME.r (me_lst ma_nil)) (nomark _)) (ma_cons (me_cmp (op_pyEq hu) od_pyEq (ME.r (me_op op_pyAdd od_pyAdd (mr_var 5) (mr_var 6))) (ME.r (me_lst ma_nil)) (nomark _)) ma_nil))))) mar_nil))) (nomark _)) (mw_or1 (mt_cmp (op_pyNe hu) od_pyNe (ME.r (me_callB (cr_reprD hu6 (hgd rfl) hS) cd_reprD rfl b_repr (by decide +kernel) (mar_cons (mr_var 3) mar_nil))) (mr_var 4) (nomark _))))) (mss_one (ms_ret me_bl)) mss_nil)
      (mss_cons (ms_set 9 scn.nd (MN.x (mn_lst ma_nil)))
      (mss_cons (ms_forY PassesOwn.never rfl oh_gaps (hr.mono (by decide)) (ma_cons (me_var 3) ma_nil) (mtn_app (i := 10) (j := 9) scn.nd rfl b_len))
      (mss_one (ms_if (mt_cmp (op_pyNe hu) od_pyNe (mr_var 9) (ME.r (me_slice (mr_var 5) mo_none (mo_some me_int))) (nomark _)) (mss_one (ms_ret me_bl)) mss_nil))))))))))
      (mss_one (ms_ret (me_and (me_ownG o__law_refused (hr.mono (by decide)) hgd (ma_cons (me_tup ma_nil) ma_nil)) (me_and (me_ownG o__law_refused (hr.mono (by decide)) hgd (ma_cons me_non ma_nil)) (me_one (me_ownG o__law_refused (hr.mono (by decide)) hgd (ma_cons (me_lst ma_nil) ma_nil)))))))))
theorem facts {P : Program} {w : World} {K : PySem.W.Frag} {h : Heap} {mg : Str → Option Value} {f : Addr} (X : K.In h) (G : h.Ns mainGlobals mg) (hfa0 : mg ("law" : Str) = some (.ref f)) (c : He.SaysD hfa hfn K) (cx : ∀ f ∈ hfx, f K = true) (cp : ∀ d ∈ hpn, fnWA K (gAd K d.c d.f) = d.val) :
    ∃ fd : FuncData, (∀ (s : Shared) (v : Value), BindsTo s fd ⟨[v], []⟩ [("script", v)]) ∧ ∀ base : Heap, K.In base → base.Ns mainGlobals mg → FnG true P w K mg base CX0 14 f fd ["script"] (spM ⟨K, P, w⟩ 1 c_law) := by
  obtain ⟨fd_BadLayout___init__, F_BadLayout___init__⟩ := c.def_ 0 (d := d_BadLayout___init__) rfl
  obtain ⟨fd_is_integer, F_is_integer⟩ := c.def_ 1 (d := d_is_integer) rfl
  obtain ⟨fd_is_name, F_is_name⟩ := c.def_ 2 (d := d_is_name) rfl
  obtain ⟨fd_is_mark, F_is_mark⟩ := c.def_ 3 (d := d_is_mark) rfl
  obtain ⟨fd_are_bases, F_are_bases⟩ := c.def_ 4 (d := d_are_bases) rfl
  obtain ⟨fd_is_kind, F_is_kind⟩ := c.def_ 5 (d := d_is_kind) rfl
  obtain ⟨fd_need_layout, F_need_layout⟩ := c.def_ 6 (d := d_need_layout) rfl
  obtain ⟨fd_Chart___init__, F_Chart___init__⟩ := c.def_ 7 (d := d_Chart___init__) rfl
  obtain ⟨fd_Chart_since, F_Chart_since⟩ := c.def_ 8 (d := d_Chart_since) rfl
  obtain ⟨fd_Chart_watched, F_Chart_watched⟩ := c.def_ 9 (d := d_Chart_watched) rfl
  obtain ⟨fd_gaps, F_gaps⟩ := c.def_ 10 (d := d_gaps) rfl
  obtain ⟨fd_wastes, F_wastes⟩ := c.def_ 11 (d := d_wastes) rfl
  obtain ⟨fd_is_safe, F_is_safe⟩ := c.def_ 12 (d := d_is_safe) rfl
  obtain ⟨fd_is_sparing, F_is_sparing⟩ := c.def_ 13 (d := d_is_sparing) rfl
  obtain ⟨fd_is_exact, F_is_exact⟩ := c.def_ 14 (d := d_is_exact) rfl
  obtain ⟨fd__law_begun, F__law_begun⟩ := c.def_ 15 (d := d__law_begun) rfl
  obtain ⟨fd__law_next, F__law_next⟩ := c.def_ 16 (d := d__law_next) rfl
  obtain ⟨fd__law_titles, F__law_titles⟩ := c.def_ 17 (d := d__law_titles) rfl
  obtain ⟨fd__law_sign, F__law_sign⟩ := c.def_ 18 (d := d__law_sign) rfl
  obtain ⟨fd__law_frame, F__law_frame⟩ := c.def_ 19 (d := d__law_frame) rfl
  obtain ⟨fd__law_under, F__law_under⟩ := c.def_ 20 (d := d__law_under) rfl
  obtain ⟨fd__law_word, F__law_word⟩ := c.def_ 21 (d := d__law_word) rfl
  obtain ⟨fd__law_marks, F__law_marks⟩ := c.def_ 22 (d := d__law_marks) rfl
  obtain ⟨fd__law_marked, F__law_marked⟩ := c.def_ 23 (d := d__law_marked) rfl
  obtain ⟨fd__law_layout, F__law_layout⟩ := c.def_ 24 (d := d__law_layout) rfl
  obtain ⟨fd__law_seen, F__law_seen⟩ := c.def_ 25 (d := d__law_seen) rfl
  obtain ⟨fd__law_dates, F__law_dates⟩ := c.def_ 26 (d := d__law_dates) rfl
  obtain ⟨fd__law_gaps, F__law_gaps⟩ := c.def_ 27 (d := d__law_gaps) rfl
  obtain ⟨fd__law_wastes, F__law_wastes⟩ := c.def_ 28 (d := d__law_wastes) rfl
  obtain ⟨fd__law_refused, F__law_refused⟩ := c.def_ 29 (d := d__law_refused) rfl
  obtain ⟨fd_law, F_law⟩ := c.def_ 30 (d := d_law) rfl
  have b_all := He.free_ok X G (c.fact 0 (f := .free "all") rfl)
  have b_isinstance := He.free_ok X G (c.fact 1 (f := .free "isinstance") rfl)
  have b_len := He.free_ok X G (c.fact 2 (f := .free "len") rfl)
  have b_str := He.free_ok X G (c.fact 3 (f := .free "str") rfl)
  have c_LETTERS := He.str_ok X G (c.fact 4 (f := .str "LETTERS" "abcdefghijklmnopqrstuvwxyz") rfl)
  have c_LONGEST_NAME := He.int_ok X G (c.fact 5 (f := .int "LONGEST_NAME" 8) rfl)
  have b_set := He.free_ok X G (c.fact 6 (f := .free "set") rfl)
  have b_tuple := He.free_ok X G (c.fact 7 (f := .free "tuple") rfl)
  have c_MOST_BASES := He.int_ok X G (c.fact 8 (f := .int "MOST_BASES" 6) rfl)
  have b_bool := He.free_ok X G (c.fact 9 (f := .free "bool") rfl)
  have b_int := He.free_ok X G (c.fact 10 (f := .free "int") rfl)
  have b_list := He.free_ok X G (c.fact 11 (f := .free "list") rfl)
  have b_sorted := He.free_ok X G (c.fact 12 (f := .free "sorted") rfl)
  have c_MOST_EDITION := He.int_ok X G (c.fact 13 (f := .int "MOST_EDITION" 99) rfl)
  have b_enumerate := He.free_ok X G (c.fact 14 (f := .free "enumerate") rfl)
  have c_MOST_KINDS := He.int_ok X G (c.fact 15 (f := .int "MOST_KINDS" 24) rfl)
  have cl_Chart := He.cls_ok (c.fact 16 (f := .cls "Chart") rfl)
  have na_Chart_final := He.noat_ok (c.fact 17 (f := .noat "Chart" "final") rfl)
  have na_Chart_kinds := He.noat_ok (c.fact 18 (f := .noat "Chart" "kinds") rfl)
  have na_Chart_plan := He.noat_ok (c.fact 19 (f := .noat "Chart" "plan") rfl)
  have na_Chart_roots := He.noat_ok (c.fact 20 (f := .noat "Chart" "roots") rfl)
  have na_Chart_under := He.noat_ok (c.fact 21 (f := .noat "Chart" "under") rfl)
  have g_Chart := He.glo_ok X G (c.fact 22 (f := .glo "Chart") rfl)
  have mk_Chart := He.mkr_ok (c.fact 23 (f := .mkr "Chart") rfl)
  have mt_Chart_since := He.meth_ok (c.fact 24 (f := .meth "Chart" "since") rfl)
  have mt_Chart_watched := He.meth_ok (c.fact 25 (f := .meth "Chart" "watched") rfl)
  have b_dict := He.free_ok X G (c.fact 26 (f := .free "dict") rfl)
  have b_range := He.free_ok X G (c.fact 27 (f := .free "range") rfl)
  have b_min := He.free_ok X G (c.fact 28 (f := .free "min") rfl)
  have x_BadLayout_BadLayout := He.exm_ok (c.fact 29 (f := .exm "BadLayout" "BadLayout" true) rfl)
  have g_BadLayout := He.glo_ok X G (c.fact 30 (f := .glo "BadLayout") rfl)
  have g_is_exact := He.glo_ok X G (c.fact 31 (f := .glo "is_exact") rfl)
  have g_is_safe := He.glo_ok X G (c.fact 32 (f := .glo "is_safe") rfl)
  have g_is_sparing := He.glo_ok X G (c.fact 33 (f := .glo "is_sparing") rfl)
  have g_gaps := He.glo_ok X G (c.fact 34 (f := .glo "gaps") rfl)
  have b_repr := He.free_ok X G (c.fact 35 (f := .free "repr") rfl)
  have b_max := He.free_ok X G (c.fact 36 (f := .free "max") rfl)
  have mt_BadLayout___init__ := He.meth_ok (c.fact 37 (f := .meth "BadLayout" "__init__") rfl)
  have no_BadLayout_place := He.noat_ok (c.fact 38 (f := .noat "BadLayout" "place") rfl)
  have g_PartsError := He.glo_ok X G (c.fact 39 (f := .glo "PartsError") rfl)
  have g_is_integer := He.glo_ok X G (c.fact 40 (f := .glo "is_integer") rfl)
  have g_is_name := He.glo_ok X G (c.fact 41 (f := .glo "is_name") rfl)
  have g_is_mark := He.glo_ok X G (c.fact 42 (f := .glo "is_mark") rfl)
  have g_are_bases := He.glo_ok X G (c.fact 43 (f := .glo "are_bases") rfl)
  have g_is_kind := He.glo_ok X G (c.fact 44 (f := .glo "is_kind") rfl)
  have g_need_layout := He.glo_ok X G (c.fact 45 (f := .glo "need_layout") rfl)
  have g_wastes := He.glo_ok X G (c.fact 46 (f := .glo "wastes") rfl)
  have g__law_begun := He.glo_ok X G (c.fact 47 (f := .glo "_law_begun") rfl)
  have g__law_next := He.glo_ok X G (c.fact 48 (f := .glo "_law_next") rfl)
  have g__law_titles := He.glo_ok X G (c.fact 49 (f := .glo "_law_titles") rfl)
  have g__law_sign := He.glo_ok X G (c.fact 50 (f := .glo "_law_sign") rfl)
  have g__law_frame := He.glo_ok X G (c.fact 51 (f := .glo "_law_frame") rfl)
  have g__law_under := He.glo_ok X G (c.fact 52 (f := .glo "_law_under") rfl)
  have g__law_word := He.glo_ok X G (c.fact 53 (f := .glo "_law_word") rfl)
  have g__law_marks := He.glo_ok X G (c.fact 54 (f := .glo "_law_marks") rfl)
  have g__law_marked := He.glo_ok X G (c.fact 55 (f := .glo "_law_marked") rfl)
  have g__law_layout := He.glo_ok X G (c.fact 56 (f := .glo "_law_layout") rfl)
  have g__law_seen := He.glo_ok X G (c.fact 57 (f := .glo "_law_seen") rfl)
  have g__law_dates := He.glo_ok X G (c.fact 58 (f := .glo "_law_dates") rfl)
  have g__law_gaps := He.glo_ok X G (c.fact 59 (f := .glo "_law_gaps") rfl)
  have g__law_wastes := He.glo_ok X G (c.fact 60 (f := .glo "_law_wastes") rfl)
  have g__law_refused := He.glo_ok X G (c.fact 61 (f := .glo "_law_refused") rfl)
  have g_law := He.glo_ok X G (c.fact 62 (f := .glo "law") rfl)
  have ns_tb := id (cx hx_0 (List.mem_of_getElem? (i := 0) rfl))
  have xf_place := xflB_ok (cx hx_1 (List.mem_of_getElem? (i := 1) rfl))
  have hS := id (cx hx_2 (List.mem_of_getElem? (i := 2) rfl))
  have xc_BadLayout := xcB_ok xb_VE (cx hx_3 (List.mem_of_getElem? (i := 3) rfl))
  have bi_PartsError := id (cx hx_4 (List.mem_of_getElem? (i := 4) rfl))
  have e := hfa0.symm.trans g_law
  cases e
  have bnd := FunD.bindsA (ps := ["script"]) F_law fun _ _ _ _ _ _ us hl => match us, hl with | [_], _ => rfl
  refine ⟨fd_law, fun s v => bnd s [v] rfl, fun base _ _ => ?_⟩
  have o_BadLayout : OwnE P w K mg base 1 "BadLayout" ["place"] := ⟨_, _, _, _, _, xc_BadLayout, mt_BadLayout___init__.at_, beq_iff_eq.mp mt_BadLayout___init__.fn, ok_BadLayout___init__ F_BadLayout___init__ xc_BadLayout no_BadLayout_place g_PartsError bi_PartsError, g_BadLayout, (FunD.bindsN (ps := ["self", "place"]) F_BadLayout___init__ fun _ _ _ _ _ _ us hl => match us, hl with | [_, _], _ => rfl)⟩
  have o__law_next : ∀ gb : Bool, OwnG gb P w K mg base 1 "_law_next" 2 c__law_next := fun gb => ⟨mn_c__law_next, _, _, _, FnG.of (ok__law_next F__law_next b_int b_max b_len), g__law_next, F__law_next.kp, (FunD.bindsN (ps := ["draw", "below"]) F__law_next fun _ _ _ _ _ _ us hl => match us, hl with | [_, _], _ => rfl)⟩
  have o_is_name : ∀ gb : Bool, OwnG gb P w K mg base 1 "is_name" 1 c_is_name := fun gb => ⟨mn_c_is_name, _, _, _, fn_mG F_is_name sc_is_name (fun ds _ => le_is_name ds) (bd_is_name b_all b_isinstance b_len b_str c_LETTERS c_LONGEST_NAME), g_is_name, F_is_name.kp, (FunD.bindsN (ps := ["thing"]) F_is_name fun _ _ _ _ _ _ us hl => match us, hl with | [_], _ => rfl)⟩
  have o_are_bases : ∀ gb : Bool, OwnG gb P w K mg base 2 "are_bases" 1 c_are_bases := fun gb => ⟨mn_c_are_bases, _, _, _, fn_mG F_are_bases sc_are_bases (fun ds _ => le_are_bases ds) (bd_are_bases (o_is_name gb) b_all b_isinstance b_len b_set b_tuple c_MOST_BASES), g_are_bases, F_are_bases.kp, (FunD.bindsN (ps := ["thing"]) F_are_bases fun _ _ _ _ _ _ us hl => match us, hl with | [_], _ => rfl)⟩
  have o_is_integer : ∀ gb : Bool, OwnG gb P w K mg base 1 "is_integer" 3 c_is_integer := fun gb => ⟨mn_c_is_integer, _, _, _, fn_mG F_is_integer sc_is_integer (fun ds _ => le_is_integer ds) (bd_is_integer b_bool b_int b_isinstance), g_is_integer, F_is_integer.kp, (FunD.bindsN (ps := ["thing", "least", "most"]) F_is_integer fun _ _ _ _ _ _ us hl => match us, hl with | [_, _, _], _ => rfl)⟩
  have o_is_mark : ∀ gb : Bool, OwnG gb P w K mg base 1 "is_mark" 1 c_is_mark := fun gb => ⟨mn_c_is_mark, _, _, _, fn_mG F_is_mark sc_is_mark (fun ds _ => le_is_mark ds) (bd_is_mark b_all b_isinstance b_list b_set b_sorted b_str c_LETTERS), g_is_mark, F_is_mark.kp, (FunD.bindsN (ps := ["thing"]) F_is_mark fun _ _ _ _ _ _ us hl => match us, hl with | [_], _ => rfl)⟩
  have o_is_kind : ∀ gb : Bool, OwnG gb P w K mg base 3 "is_kind" 1 c_is_kind := fun gb => ⟨mn_c_is_kind, _, _, _, fn_mG F_is_kind sc_is_kind (fun ds _ => le_is_kind ds) (bd_is_kind (o_are_bases gb) (o_is_integer gb) (o_is_mark gb) (o_is_name gb) b_isinstance b_len b_tuple c_MOST_EDITION), g_is_kind, F_is_kind.kp, (FunD.bindsN (ps := ["thing"]) F_is_kind fun _ _ _ _ _ _ us hl => match us, hl with | [_], _ => rfl)⟩
  have o_need_layout : ∀ gb : Bool, OwnX gb P w K mg base 4 "need_layout" 1 c_need_layoutX := fun gb => ⟨mn_c_need_layoutX, _, _, _, fn_mX F_need_layout sc_need_layoutX (fun ds _ => le_need_layoutX ds) (bd_need_layoutX o_BadLayout (o_is_kind gb) b_all b_enumerate b_isinstance b_len b_tuple c_MOST_KINDS), g_need_layout, F_need_layout.kp, (FunD.bindsN (ps := ["thing"]) F_need_layout fun _ _ _ _ _ _ us hl => match us, hl with | [_], _ => rfl)⟩
  have o_Chart : ∀ gb : Bool, OwnIX gb P w K mg base 5 "Chart" 1 c_ChartX := fun gb => ⟨mn_c_ChartX, _, _, _, fn_iX "Chart" F_Chart___init__ sc_Chart___init__X rfl (fun x ds _ => le_ChartX x ds) (bd_Chart___init__X cl_Chart na_Chart_final na_Chart_kinds na_Chart_plan na_Chart_roots na_Chart_under (o_need_layout gb) b_tuple), g_Chart, mk_Chart, (FunD.bindsN (ps := ["self", "layout"]) F_Chart___init__ fun _ _ _ _ _ _ us hl => match us, hl with | [_, _], _ => rfl)⟩
  have o_Chart_since : ∀ gb : Bool, OwnM gb P w K mg base 1 "Chart" "since" 2 c_Chart_since := fun gb => ⟨mn_c_Chart_since, _, _, _, fn_mG F_Chart_since sc_Chart_since (fun ds _ => le_Chart_since ds) (bd_Chart_since cl_Chart na_Chart_kinds), cl_Chart, mt_Chart_since, (FunD.bindsN (ps := ["self", "name"]) F_Chart_since fun _ _ _ _ _ _ us hl => match us, hl with | [_, _], _ => rfl)⟩
  have o_Chart_watched : ∀ gb : Bool, OwnM gb P w K mg base 1 "Chart" "watched" 2 c_Chart_watched := fun gb => ⟨mn_c_Chart_watched, _, _, _, fn_mG F_Chart_watched sc_Chart_watched (fun ds _ => le_Chart_watched ds) (bd_Chart_watched cl_Chart na_Chart_kinds na_Chart_plan b_tuple), cl_Chart, mt_Chart_watched, (FunD.bindsN (ps := ["self", "name"]) F_Chart_watched fun _ _ _ _ _ _ us hl => match us, hl with | [_, _], _ => rfl)⟩
  have o_gaps : OwnY P w K mg base 7 "gaps" 1 c_gapsT := ⟨mn_c_gapsT, _, _, _, fn_y F_gaps sc_gapsT (fun ds _ => le_gapsT ds) (bd_gapsT cl_Chart na_Chart_kinds na_Chart_under (o_Chart false) (o_Chart_since false) (o_Chart_watched false) b_list), g_gaps, F_gaps.kp, (FunD.bindsN (ps := ["layout"]) F_gaps fun _ _ _ _ _ _ us hl => match us, hl with | [_], _ => rfl)⟩
  have oh_gaps : OwnH P w K mg base 7 "gaps" 1 R_gaps := ⟨_, _, ["layout"], fn_h F_gaps sc_gapsT (fun _ => rfl) (fun ds YS _ h => lh_gapsT ds YS h) (bh_gapsT cl_Chart na_Chart_kinds na_Chart_under (o_Chart false) (o_Chart_since false) (o_Chart_watched false) b_list), rfl, g_gaps, F_gaps.kp, (FunD.bindsN (ps := ["layout"]) F_gaps fun _ _ _ _ _ _ us hl => match us, hl with | [_], _ => rfl)⟩
  have o_wastes : OwnY P w K mg base 7 "wastes" 1 c_wastesT := ⟨mn_c_wastesT, _, _, _, fn_y F_wastes sc_wastesT (fun ds _ => le_wastesT ds) (bd_wastesT cl_Chart na_Chart_kinds na_Chart_under (o_Chart false) (o_Chart_watched false)), g_wastes, F_wastes.kp, (FunD.bindsN (ps := ["layout"]) F_wastes fun _ _ _ _ _ _ us hl => match us, hl with | [_], _ => rfl)⟩
  have o__law_begun : ∀ gb : Bool, OwnG gb P w K mg base 1 "_law_begun" 1 c__law_begun := fun gb => ⟨mn_c__law_begun, _, _, _, fn_mG F__law_begun sc__law_begun (fun ds _ => le__law_begun ds) (bd__law_begun b_enumerate b_int b_len), g__law_begun, F__law_begun.kp, (FunD.bindsN (ps := ["script"]) F__law_begun fun _ _ _ _ _ _ us hl => match us, hl with | [_], _ => rfl)⟩
  have o__law_dates : ∀ gb : Bool, OwnG gb P w K mg base 1 "_law_dates" 1 c__law_dates := fun gb => ⟨mn_c__law_dates, _, _, _, fn_mG F__law_dates sc__law_dates (fun ds _ => le__law_dates ds) (bd__law_dates b_dict), g__law_dates, F__law_dates.kp, (FunD.bindsN (ps := ["plan"]) F__law_dates fun _ _ _ _ _ _ us hl => match us, hl with | [_], _ => rfl)⟩
  have o__law_seen : ∀ gb : Bool, OwnG gb P w K mg base 1 "_law_seen" 1 c__law_seen := fun gb => ⟨mn_c__law_seen, _, _, _, fn_mG F__law_seen sc__law_seen (fun ds _ => le__law_seen ds) (bd__law_seen ), g__law_seen, F__law_seen.kp, (FunD.bindsN (ps := ["plan"]) F__law_seen fun _ _ _ _ _ _ us hl => match us, hl with | [_], _ => rfl)⟩
  have o__law_under : ∀ gb : Bool, OwnG gb P w K mg base 1 "_law_under" 1 c__law_under := fun gb => ⟨mn_c__law_under, _, _, _, fn_mG F__law_under sc__law_under (fun ds _ => le__law_under ds) (bd__law_under ), g__law_under, F__law_under.kp, (FunD.bindsN (ps := ["plan"]) F__law_under fun _ _ _ _ _ _ us hl => match us, hl with | [_], _ => rfl)⟩
  have o__law_gaps : ∀ gb : Bool, OwnG gb P w K mg base 2 "_law_gaps" 1 c__law_gaps := fun gb => ⟨mn_c__law_gaps, _, _, _, fn_mG F__law_gaps sc__law_gaps (fun ds _ => le__law_gaps ds) (bd__law_gaps (o__law_dates gb) (o__law_seen gb) (o__law_under gb)), g__law_gaps, F__law_gaps.kp, (FunD.bindsN (ps := ["plan"]) F__law_gaps fun _ _ _ _ _ _ us hl => match us, hl with | [_], _ => rfl)⟩
  have o__law_sign : ∀ gb : Bool, OwnG gb P w K mg base 1 "_law_sign" 1 c__law_sign := fun gb => ⟨mn_c__law_sign, _, _, _, fn_mG F__law_sign sc__law_sign (fun ds _ => le__law_sign ds) (bd__law_sign b_int), g__law_sign, F__law_sign.kp, (FunD.bindsN (ps := ["at"]) F__law_sign fun _ _ _ _ _ _ us hl => match us, hl with | [_], _ => rfl)⟩
  have o__law_titles : ∀ gb : Bool, OwnG gb P w K mg base 2 "_law_titles" 1 c__law_titles := fun gb => ⟨mn_c__law_titles, _, _, _, fn_mG F__law_titles sc__law_titles (fun ds _ => le__law_titles ds) (bd__law_titles (o__law_next gb) b_int b_range), g__law_titles, F__law_titles.kp, (FunD.bindsN (ps := ["draw"]) F__law_titles fun _ _ _ _ _ _ us hl => match us, hl with | [_], _ => rfl)⟩
  have o__law_frame : ∀ gb : Bool, OwnG gb P w K mg base 3 "_law_frame" 2 c__law_frame := fun gb => ⟨mn_c__law_frame, _, _, _, fn_mG F__law_frame sc__law_frame (fun ds _ => le__law_frame ds) (bd__law_frame (o__law_next gb) (o__law_sign gb) (o__law_titles gb) b_len b_min b_range b_tuple), g__law_frame, F__law_frame.kp, (FunD.bindsN (ps := ["draw", "most"]) F__law_frame fun _ _ _ _ _ _ us hl => match us, hl with | [_, _], _ => rfl)⟩
  have o__law_word : ∀ gb : Bool, OwnG gb P w K mg base 2 "_law_word" 1 c__law_word := fun gb => ⟨mn_c__law_word, _, _, _, fn_mG F__law_word sc__law_word (fun ds _ => le__law_word ds) (bd__law_word (o__law_sign gb) b_range), g__law_word, F__law_word.kp, (FunD.bindsN (ps := ["signs"]) F__law_word fun _ _ _ _ _ _ us hl => match us, hl with | [_], _ => rfl)⟩
  have o__law_marks : ∀ gb : Bool, OwnG gb P w K mg base 3 "_law_marks" 3 c__law_marks := fun gb => ⟨mn_c__law_marks, _, _, _, fn_mG F__law_marks sc__law_marks (fun ds _ => le__law_marks ds) (bd__law_marks (o__law_next gb) (o__law_under gb) (o__law_word gb) b_len b_list b_range), g__law_marks, F__law_marks.kp, (FunD.bindsN (ps := ["draw", "rows", "way"]) F__law_marks fun _ _ _ _ _ _ us hl => match us, hl with | [_, _, _], _ => rfl)⟩
  have o__law_marked : ∀ gb : Bool, OwnG gb P w K mg base 4 "_law_marked" 3 c__law_marked := fun gb => ⟨mn_c__law_marked, _, _, _, fn_mG F__law_marked sc__law_marked (fun ds _ => le__law_marked ds) (bd__law_marked (o__law_marks gb) (o__law_next gb) (o__law_sign gb) (o__law_word gb) b_len b_tuple), g__law_marked, F__law_marked.kp, (FunD.bindsN (ps := ["draw", "rows", "way"]) F__law_marked fun _ _ _ _ _ _ us hl => match us, hl with | [_, _, _], _ => rfl)⟩
  have o__law_layout : ∀ gb : Bool, OwnG gb P w K mg base 5 "_law_layout" 2 c__law_layout := fun gb => ⟨mn_c__law_layout, _, _, _, fn_mG F__law_layout sc__law_layout (fun ds _ => le__law_layout ds) (bd__law_layout (o__law_frame gb) (o__law_marked gb) (o__law_next gb)), g__law_layout, F__law_layout.kp, (FunD.bindsN (ps := ["draw", "most"]) F__law_layout fun _ _ _ _ _ _ us hl => match us, hl with | [_, _], _ => rfl)⟩
  have o_is_safe : ∀ gb : Bool, OwnX gb P w K mg base 11 "is_safe" 1 c_is_safe := fun gb => ⟨mn_c_is_safe, _, _, _, fn_mX F_is_safe sc_is_safe (fun ds _ => le_is_safe ds) (bd_is_safe o_gaps ns_tb b_list), g_is_safe, F_is_safe.kp, (FunD.bindsN (ps := ["layout"]) F_is_safe fun _ _ _ _ _ _ us hl => match us, hl with | [_], _ => rfl)⟩
  have o_is_sparing : ∀ gb : Bool, OwnX gb P w K mg base 11 "is_sparing" 1 c_is_sparing := fun gb => ⟨mn_c_is_sparing, _, _, _, fn_mX F_is_sparing sc_is_sparing (fun ds _ => le_is_sparing ds) (bd_is_sparing o_wastes ns_tb b_list), g_is_sparing, F_is_sparing.kp, (FunD.bindsN (ps := ["layout"]) F_is_sparing fun _ _ _ _ _ _ us hl => match us, hl with | [_], _ => rfl)⟩
  have o_is_exact : ∀ gb : Bool, OwnX gb P w K mg base 12 "is_exact" 1 c_is_exact := fun gb => ⟨mn_c_is_exact, _, _, _, fn_mX F_is_exact sc_is_exact (fun ds _ => le_is_exact ds) (bd_is_exact (o_is_safe gb) (o_is_sparing gb)), g_is_exact, F_is_exact.kp, (FunD.bindsN (ps := ["layout"]) F_is_exact fun _ _ _ _ _ _ us hl => match us, hl with | [_], _ => rfl)⟩
  have o__law_refused : ∀ gb : Bool, OwnG gb P w K mg base 13 "_law_refused" 1 c__law_refused := fun gb => ⟨mn_c__law_refused, _, _, _, fn_mG F__law_refused sc__law_refused (fun ds _ => le__law_refused ds) (bd__law_refused x_BadLayout_BadLayout o_gaps o_wastes g_BadLayout g_is_exact g_is_safe g_is_sparing ns_tb (o_is_exact gb) (o_is_safe gb) (o_is_sparing gb) xf_place b_list b_range), g__law_refused, F__law_refused.kp, (FunD.bindsN (ps := ["thing"]) F__law_refused fun _ _ _ _ _ _ us hl => match us, hl with | [_], _ => rfl)⟩
  have o__law_wastes : ∀ gb : Bool, OwnG gb P w K mg base 2 "_law_wastes" 1 c__law_wastes := fun gb => ⟨mn_c__law_wastes, _, _, _, fn_mG F__law_wastes sc__law_wastes (fun ds _ => le__law_wastes ds) (bd__law_wastes (o__law_seen gb) (o__law_under gb)), g__law_wastes, F__law_wastes.kp, (FunD.bindsN (ps := ["plan"]) F__law_wastes fun _ _ _ _ _ _ us hl => match us, hl with | [_], _ => rfl)⟩
  exact fn_mG F_law sc_law (fun ds _ => le_law ds) (bd_law o_gaps o_wastes g_gaps oh_gaps (o__law_begun true) (o__law_gaps true) (o__law_layout true) (o__law_refused true) (o__law_wastes true) (o_is_exact true) (o_is_safe true) (o_is_sparing true) hS b_len b_list b_min b_range b_repr)
end Mv
open PySem PySem.W PySem.Calls PyProof.Rows
set_option maxRecDepth 100000 in
set_option maxHeartbeats 0 in
theorem PySem.Challenge.cw_carriedparts_k10_gaps_and_wastes_holds : PySem.Challenge.rw_carriedparts_k10_gaps_and_wastes.Holds := by
  w_on; o_law
  refine HandSHeadRun.head_any (r := OpenLaw.row PySem.Challenge.rw_carriedparts_k10_gaps_and_wastes) (q := view (OpenLaw.row PySem.Challenge.rw_carriedparts_k10_gaps_and_wastes).prog [39]) (H := Mv.hhk) (ob := Mv.hob) (M := 16000) (loose := ([("_wall" : PySem.Str), ("PartsError" : PySem.Str), ("BadLayout" : PySem.Str), ("MOST_KINDS" : PySem.Str), ("MOST_BASES" : PySem.Str), ("MOST_EDITION" : PySem.Str), ("LONGEST_NAME" : PySem.Str), ("LETTERS" : PySem.Str), ("is_integer" : PySem.Str), ("is_name" : PySem.Str), ("is_mark" : PySem.Str), ("are_bases" : PySem.Str), ("is_kind" : PySem.Str), ("need_layout" : PySem.Str), ("Chart" : PySem.Str), ("gaps" : PySem.Str), ("wastes" : PySem.Str), ("is_safe" : PySem.Str), ("is_sparing" : PySem.Str), ("is_exact" : PySem.Str), ("_law_begun" : PySem.Str), ("_law_next" : PySem.Str), ("_law_titles" : PySem.Str), ("_law_sign" : PySem.Str), ("_law_frame" : PySem.Str), ("_law_under" : PySem.Str), ("_law_word" : PySem.Str), ("_law_marks" : PySem.Str), ("_law_marked" : PySem.Str), ("_law_layout" : PySem.Str), ("_law_seen" : PySem.Str), ("_law_dates" : PySem.Str), ("_law_gaps" : PySem.Str), ("_law_wastes" : PySem.Str), ("_law_refused" : PySem.Str)] : List PySem.Str)) (d := HandSHeadRun.topDef (OpenLaw.row PySem.Challenge.rw_carriedparts_k10_gaps_and_wastes).prog 39) (kwd := []) Mv.hob_eq
    (by kernel_rfl) (fun s => by kernel_rfl) Mv.hrun (by kernel_rfl) (by kernel_rfl) (by kernel_rfl) (by rfl) (by first | assumption | decide +kernel) (by decide +kernel) ⟨rfl, rfl, rfl, rfl, rfl, by decide +kernel⟩ ?hw ?hc
  case hw => w_witness2
  case hc =>
    refine Mv.walk_G (l := PySem.Challenge.rw_carriedparts_k10_gaps_and_wastes) (n := 63) (k := 14) (x := "script") (CX := L2.CX0) rfl (by decide) (by kernel_rfl) ⟨rfl, by decide, by decide⟩ ?F (fun _ _ _ _ z => z)
    intro w mg fa h Y G hmg0
    obtain ⟨K, KX, c, cx, cp⟩ := Y
    have hmg : mg ("law" : PySem.Str) = some (.ref fa) := by
      have e : (HandSHeadRun.topDef (OpenLaw.row PySem.Challenge.rw_carriedparts_k10_gaps_and_wastes).prog 39).name = ("law" : PySem.Str) := by kernel_rfl
      rw [← e]
      exact hmg0
    obtain ⟨fd, hb, hF⟩ := Mv.facts (P := (PySem.Challenge.rw_carriedparts_k10_gaps_and_wastes).prog) (w := w) KX G hmg c cx cp
    refine ⟨K, fd, Mv.spM ⟨K, (PySem.Challenge.rw_carriedparts_k10_gaps_and_wastes).prog, w⟩ 1 Mv.c_law, KX, hb, fun H a ns hl hO hS => ?_, hF⟩
    exact Mv.law_start hl hO hS
