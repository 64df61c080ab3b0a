import PyProof.Rows.All
import HandS.Base
import HandS.Words
import HandS.Call
import HandS.Exc
import HandS.Head0
import HandS.Head1
import HandS.Head2
import HandS.HeadHook1
import HandS.HeadHook2
import HandS.HeadHook3
import Wide.All
import OpenK.AllK
import Wide.FinOn
import HandS.ForMost
import HandS.TryOnly
import HandS.ExcOwn
import HandS.CallSlots
import HandS.ExcCtx
import HandS.TryMany
import HandS.Wide
import HandS.TupAny
import HandS.TupMul
import HandS.Deep
import HandS.IsInst
import PyProof.StrOps2
import HandS.WordsExc
import HandS.EndBits
import HandS.RaiseMore
import HandS.ExcInitHot
import HandS.ExcField
import HandS.ExcIs
import KE.KExcIs
import PyProof.RulesMatch
import HandS.NoneIn
import HandS.More
import HandS.Property
import HandS.Style
import HandS.DictComp
import KE.KRevSl
import HandS.DictEq
import HandS.HotCalls
import HandS.SetFor
import HandS.Text
import HandS.Iter
import HandS.TupLe
import KE.KDictKeyed
import HandS.Conv
import HandS.SlotsOwn
import HandS.OwnEq
import HandS.Star
import HandS.Defaults
import OpenK.KOps
import HandS.DictTup
import HandS.Zip
import HandS.HeadEnd
import HandS.TupLen
import HandS.Flow
import HandS.IterVal
import HandS.GenList
import HandS.Nested
import PySem.Challenge.RW_patchfacts_k10_store_parts
set_option Elab.async false
set_option linter.all false
set_option maxRecDepth 100000
set_option maxHeartbeats 2000000
set_option maxRecDepth 100000
set_option maxHeartbeats 2000000
set_option autoImplicit false
section
variable {A : Type _} {x y : A} {l : List A} {n : Nat}
theorem gz_ : (x :: l)[0]? = some x := rfl
theorem gs_ : (x :: l)[n + 1]? = l[n]? := rfl
theorem sz_ : (x :: l).set 0 y = y :: l := rfl
theorem ss_ : (x :: l).set (n + 1) y = x :: l.set n y := rfl
end
namespace VL
open PySem PySem.Spec PyProof.Rows L2
abbrev Fr : Type := PySem.W.Frag
section
variable {o : Option (Option Value)} {p : Option Bool} {v : Option Value} {r : Option (List Value)}
def tR (o : Option (Option Value)) : Bool := match o with | some (some (.ref _)) => true | _ => false
def aR (o : Option (Option Value)) : Addr := match o with | some (some (.ref a)) => a | _ => 0
theorem tR_ok (h : tR o = true) : o = some (some (.ref (aR o))) := by
  cases o with
  | none => cases h
  | some o => cases o with
    | none => cases h
    | some v => cases v <;> first | rfl | cases h
def tN (o : Option (Option Value)) : Bool := match o with | some none => true | _ => false
theorem tN_ok (h : tN o = true) : o = some none := by
  cases o with
  | none => cases h
  | some o => cases o with
    | none => rfl
    | some v => cases h
def tB (o : Option (Option Value)) (n : String) : Bool := match o with | some (some (.builtin m)) => decide (m = n) | _ => false
theorem tB_ok {n : String} (h : tB o n = true) : o = some (some (.builtin n)) := by
  cases o with
  | none => cases h
  | some o => cases o with
    | none => cases h
    | some v =>
      cases v <;> first | cases h | skip
      case builtin m =>
        have e : m = n := of_decide_eq_true h
        rw [e]
def tO (p : Option Bool) (b : Bool) : Bool := match p with | some c => c == b | none => false
theorem tO_ok {b : Bool} (h : tO p b = true) : p = some b := by
  cases p with
  | none => cases h
  | some c =>
    have e : c = b := beq_iff_eq.mp h
    rw [e]
def tT (v : Option Value) (n : String) : Bool := match v with | some (.type m) => decide (m = n) | _ => false
theorem tT_ok {n : String} (h : tT v n = true) : v = some (.type n) := by
  cases v with
  | none => cases h
  | some v =>
    cases v <;> first | cases h | skip
    case type m =>
      have e : m = n := of_decide_eq_true h
      rw [e]
def tP (r : Option (List Value)) : Bool := match r with | some (.ref _ :: _) => true | _ => false
def aP (r : Option (List Value)) : Addr := match r with | some (.ref a :: _) => a | _ => 0
def rP (r : Option (List Value)) : List Value := match r with | some (_ :: l) => l | _ => []
theorem tP_ok (h : tP r = true) : r = some (.ref (aP r) :: rP r) := by
  cases r with
  | none => cases h
  | some l => cases l with
    | nil => cases h
    | cons v l => cases v <;> first | rfl | cases h
def kT (o : Option (Option Value)) : Tok := match o with | some (some (.int _ t)) => t | some (some (.str _ t)) => t | _ => default
def tI (o : Option (Option Value)) (i : Int) : Bool := match o with | some (some (.int j _)) => decide (j = i) | _ => false
theorem tI_ok {i : Int} (h : tI o i = true) : o = some (some (.int i (kT o))) := by
  cases o with
  | none => cases h
  | some o => cases o with
    | none => cases h
    | some v =>
      cases v <;> first | cases h | skip
      case int j t =>
        have e : j = i := of_decide_eq_true h
        subst e
        rfl
def tS (o : Option (Option Value)) (s : Str) : Bool := match o with | some (some (.str z _)) => decide (z = s) | _ => false
theorem tS_ok {s : Str} (h : tS o s = true) : o = some (some (.str s (kT o))) := by
  cases o with
  | none => cases h
  | some o => cases o with
    | none => cases h
    | some v =>
      cases v <;> first | cases h | skip
      case str z t =>
        have e : z = s := of_decide_eq_true h
        subst e
        rfl
end
def gA (K : Fr) (x : Str) : Addr := aR (PySem.W.nsIn K mainGlobals x)
def mA (K : Fr) (C : Addr) (m : Str) : Addr := aR (PySem.W.findIn K (.ref C) m)
def pA (K : Fr) (C : Addr) (m : Str) : Addr := aP (PySem.W.recIn K (mA K C m) "property")
structure FnT where
  at_ : Fr → Addr
  name : Str
  qual : Str
  st : Stmt
abbrev FnAt (K : Fr) (f : Addr) (n q : Str) (st : Stmt) : Prop := ∃ (oc : Value) (od : Option Addr) (sl : Array (Option Value)) (kV dc pm : Value) (an : Option Addr) (cd ct : Value),
  K.lookup f = some ⟨oc, od, .func (PySem.W.fnOf n q (defArgs st) (defBody st) (defScope st) .none kV dc pm an cd ct), sl⟩ ∧ PySem.W.codeIn K cd q = true ∧ PySem.W.keepIn K (.ref f) = true
def fnT (K : Fr) (f : Addr) : He.FnV := match K.lookup f with
  | some ⟨_, _, .func fd, _⟩ => some (fd.name, fd.qualname, fd.params, fd.body, fd.scope, fd.globals, fd.closure, fd.defaults, fd.builtins)
  | _ => none
def FnT.val (d : FnT) : He.FnV := some (d.name, d.qual, defArgs d.st, .stmts (defBody d.st), defScope d.st, mainGlobals, [], .none, builtinsNs)
def FnT.ok (K : Fr) (d : FnT) : Bool := match K.lookup (d.at_ K) with
  | some ⟨_, _, .func fd, _⟩ => PySem.W.codeIn K fd.code d.qual && PySem.W.keepIn K (.ref (d.at_ K))
  | _ => false
theorem FnT.get {K : Fr} {d : FnT} (e : fnT K (d.at_ K) = d.val) (c : d.ok K = true) : FnAt K (d.at_ K) d.name d.qual d.st := by
  unfold fnT at e
  unfold FnT.ok at c
  cases z : K.lookup (d.at_ K) with
  | none => rw [z] at c; cases c
  | some b =>
    obtain ⟨u1, u2, u3, u4⟩ := b
    rw [z] at c e
    cases u3 <;> first | cases c | skip
    case func fd =>
      obtain ⟨w1, w2, w3, w4, w5, w6, w7, w8, w9, w10, w11, w12, w13, w14, w15⟩ := fd
      have e : (some (w1, w2, w3, w4, w5, w6, w7, w8, w15) : He.FnV) = some (d.name, d.qual, defArgs d.st, .stmts (defBody d.st), defScope d.st, mainGlobals, [], .none, builtinsNs) := e
      simp only [Option.some.injEq, Prod.mk.injEq] at e
      obtain ⟨e1, e2, e3, e4, e5, e6, e7, e8, e9⟩ := e
      subst e1 e2 e3 e4 e5 e6 e7 e8 e9
      have c : (PySem.W.codeIn K w13 d.qual && PySem.W.keepIn K (.ref (d.at_ K))) = true := c
      obtain ⟨c1, c2⟩ := Bool.and_eq_true_iff.mp c
      exact ⟨u1, u2, u4, w9, w10, w11, w12, w13, w14, z, c1, c2⟩
def entT (e : DictEntry) : Option (Str × Int) := match e.key, e.val with
  | .str z _, .int m _ => some (z, m)
  | _, _ => none
abbrev DcV : Type := Option (List (Option (Str × Int)) × List (Option (Str × Int)))
def dcT (K : Fr) (a : Addr) : DcV := match K.lookup a with
  | some ⟨.type c, none, .dict es _, sl⟩ => (match decide (c = "dict") && (sl.isEmpty && !(a == sysModules)) with
    | true => some (es.toList.map He.keyOf, es.toList.map entT)
    | false => none)
  | _ => none
abbrev DcAt (K : Fr) (P : Params) (a : Addr) (l : List (Str × Int)) : Prop := ∃ (es : Array DictEntry) (n : Nat), K.lookup a = some ⟨.type "dict", none, .dict es n, #[]⟩ ∧ PySem.W.KeysLit P es.toList ∧ (a == sysModules) = false ∧ es.toList.map entT = l.map some
theorem dcT_ok {K : Fr} {P : Params} {a : Addr} {l : List (Str × Int)} (h : dcT K a = some (He.keysIn P (l.map (·.1)), l.map some)) : DcAt K P a l := by
  unfold dcT at h
  split at h
  · rename_i c es n sl ho
    split at h
    · rename_i hc
      obtain ⟨h1, h2⟩ := Bool.and_eq_true_iff.mp hc
      obtain ⟨h3, h4⟩ := Bool.and_eq_true_iff.mp h2
      have h1 := of_decide_eq_true h1
      have h3 : sl = #[] := Array.isEmpty_iff.mp h3
      subst h1 h3
      have h := Option.some.inj h
      refine ⟨es, n, ho, He.keysLit_of (congrArg (·.1) h), ?_, congrArg (·.2) h⟩
      cases q : (a == sysModules) with
      | false => rfl
      | true => rw [q] at h4; cases h4
    · cases h
  · cases h
structure TopT where
  ts : List (Fr → Bool)
  fn : List FnT
  dc : List (Str × List (Str × Int))
abbrev AlT : Type := Bool × (List He.FnV × List DcV)
def obsT (t : TopT) (K : Fr) : AlT := ((t.ts.all fun f => f K) && t.fn.all fun d => d.ok K, t.fn.map fun d => fnT K (d.at_ K), t.dc.map fun d => dcT K (gA K d.1))
def valT (t : TopT) (P : Params) : AlT := (true, t.fn.map FnT.val, t.dc.map fun d => some (He.keysIn P (d.2.map (·.1)), d.2.map some))
def SaysT (t : TopT) (P : Params) (K : Fr) : Prop := obsT t K = valT t P
def adrT (lo n : Nat) : List Addr := mainGlobals :: (List.range (n - lo)).map fun i => i + lo
def hookT (lo : Nat) (t : TopT) : PySem.W.Hook where
  α := AlT
  obs := fun s => obsT t (He.frG s.heap.get? (adrT lo s.heap.objs.size))
  val := fun w => valT t w.params
  says := fun w h => ∃ K : Fr, K.In h ∧ SaysT t w.params K
  of := fun _ _ e => ⟨_, He.frG_in, e⟩
  keeps := fun _ _ _ ⟨K, hK, c⟩ k => ⟨K, PySem.W.Frag.In.keeps hK k, c⟩
def obT (lo : Nat) (t : TopT) (s : PySem.W.SharedT) : AlT := obsT t (He.frG (HandSHeadRun.getT s) (adrT lo s.n))
theorem obT_eq (lo : Nat) (t : TopT) (s : PySem.W.SharedT) : obT lo t s = (hookT lo t).obs s.abs := by
  have e : HandSHeadRun.getT s = s.abs.heap.get? := funext (HandSHeadRun.getT_eq s)
  have e2 : s.abs.heap.objs.size = s.n := PySem.W.absHeap_size s.tree s.n s.life
  unfold obT
  rw [e, ← e2]
  rfl
section
variable {t : TopT} {P : Params} {K : Fr}
theorem SaysT.test (c : SaysT t P K) (i : Nat) {f : Fr → Bool} (h : t.ts[i]? = some f) : f K = true := by
  have c1 : ((t.ts.all fun f => f K) && t.fn.all fun d => d.ok K) = true := congrArg (fun z : AlT => z.1) c
  exact List.all_eq_true.mp (Bool.and_eq_true_iff.mp c1).1 f (List.mem_of_getElem? h)
theorem SaysT.defn (c : SaysT t P K) (i : Nat) {d : FnT} (h : t.fn[i]? = some d) : FnAt K (d.at_ K) d.name d.qual d.st := by
  have c1 : ((t.ts.all fun f => f K) && t.fn.all fun d => d.ok K) = true := congrArg (fun z : AlT => z.1) c
  have c2 : t.fn.map (fun d => fnT K (d.at_ K)) = t.fn.map FnT.val := congrArg (fun z : AlT => z.2.1) c
  have e : (t.fn.map fun d => fnT K (d.at_ K))[i]? = (t.fn.map FnT.val)[i]? := by rw [c2]
  rw [List.getElem?_map, List.getElem?_map, h] at e
  exact FnT.get (Option.some.inj e) (List.all_eq_true.mp (Bool.and_eq_true_iff.mp c1).2 d (List.mem_of_getElem? h))
theorem SaysT.dict (c : SaysT t P K) (i : Nat) {d : Str × List (Str × Int)} (h : t.dc[i]? = some d) : DcAt K P (gA K d.1) d.2 := by
  have c2 : (t.dc.map fun d => dcT K (gA K d.1)) = t.dc.map fun d => some (He.keysIn P (d.2.map (·.1)), d.2.map some) := congrArg (fun z : AlT => z.2.2) c
  have e : (t.dc.map fun d => dcT K (gA K d.1))[i]? = (t.dc.map fun d => (some (He.keysIn P (d.2.map (·.1)), d.2.map some) : DcV))[i]? := by rw [c2]
  rw [List.getElem?_map, List.getElem?_map, h] at e
  exact dcT_ok (Option.some.inj e)
end
end VL

namespace VL
open PySem L2
set_option maxHeartbeats 0
def topS (i : Nat) : Stmt := PySem.Challenge.pw_patchfacts_k10_store_parts.main.body.getD i (.Pass ⟨0, 0, 0, 0⟩)
abbrev s__law_draw : Stmt := topS 17
abbrev s__law_names : Stmt := topS 18
abbrev s__law_moves : Stmt := topS 21
abbrev s_is_name : Stmt := topS 10
abbrev s_check_store : Stmt := topS 14
abbrev s_Store___init__ : Stmt := inClass (topS 15) 0
abbrev s_Store___init__B : Stmt := s_Store___init__
abbrev s_Store_contents : Stmt := inClass (topS 15) 1
abbrev s_Store_starts : Stmt := inClass (topS 15) 2
abbrev s_Store_moves : Stmt := inClass (topS 15) 3
abbrev s__law_is_integer : Stmt := topS 22
abbrev s__law_is_content : Stmt := topS 23
abbrev s__law_table : Stmt := topS 24
abbrev s__law_asked : Stmt := topS 26
abbrev s__law_many : Stmt := topS 25
abbrev s__law_store : Stmt := topS 19
abbrev s__law_big_store : Stmt := topS 20
abbrev s_law : Stmt := topS 27
def tops : TopT where
  ts := ([fun K => tR (PySem.W.nsIn K mainGlobals "Store"),
    fun K => PySem.W.plainGet K (gA K "Store") Str.empty,
    fun K => PySem.W.hasDictIn K (gA K "Store"),
    fun K => PySem.W.plainOver K (gA K "Store"),
    fun K => tB (PySem.W.findIn K (.ref (gA K "Store")) "__setattr__") "object.__setattr__",
    fun K => PySem.W.makesIn K (gA K "Store"),
    fun K => PySem.W.keepIn K (.ref (gA K "Store")),
    fun K => tN (PySem.W.findIn K (.ref (gA K "Store")) "content_count"),
    fun K => tN (PySem.W.findIn K (.ref (gA K "Store")) "start_contents"),
    fun K => tN (PySem.W.findIn K (.ref (gA K "Store")) "leads"),
    fun K => tR (PySem.W.nsIn K mainGlobals "_law_draw"),
    fun K => tR (PySem.W.nsIn K mainGlobals "_law_names"),
    fun K => tR (PySem.W.nsIn K mainGlobals "_law_moves"),
    fun K => tR (PySem.W.nsIn K mainGlobals "is_name"),
    fun K => tR (PySem.W.nsIn K mainGlobals "check_store"),
    fun K => tR (PySem.W.findIn K (.ref (gA K "Store")) "__init__"),
    fun K => PySem.W.isFn K (.ref (mA K (gA K "Store") "__init__")),
    fun K => tR (PySem.W.findIn K (.ref (gA K "Store")) "contents"),
    fun K => tB (PySem.W.specialIn K (.ref (mA K (gA K "Store") "contents")) "__get__") "property.__get__",
    fun K => tO (PySem.W.takesIn K (.ref (mA K (gA K "Store") "contents"))) true,
    fun K => tP (PySem.W.recIn K (mA K (gA K "Store") "contents") "property"),
    fun K => tR (PySem.W.findIn K (.ref (gA K "Store")) "starts"),
    fun K => tB (PySem.W.specialIn K (.ref (mA K (gA K "Store") "starts")) "__get__") "property.__get__",
    fun K => tO (PySem.W.takesIn K (.ref (mA K (gA K "Store") "starts"))) true,
    fun K => tP (PySem.W.recIn K (mA K (gA K "Store") "starts") "property")] : List (Fr → Bool)) ++
  ([fun K => tR (PySem.W.findIn K (.ref (gA K "Store")) "moves"),
    fun K => tB (PySem.W.specialIn K (.ref (mA K (gA K "Store") "moves")) "__get__") "property.__get__",
    fun K => tO (PySem.W.takesIn K (.ref (mA K (gA K "Store") "moves"))) true,
    fun K => tP (PySem.W.recIn K (mA K (gA K "Store") "moves") "property"),
    fun K => tR (PySem.W.nsIn K mainGlobals "_law_is_integer"),
    fun K => tR (PySem.W.nsIn K mainGlobals "_law_is_content"),
    fun K => tR (PySem.W.nsIn K mainGlobals "_law_table"),
    fun K => tR (PySem.W.nsIn K mainGlobals "_law_asked"),
    fun K => tR (PySem.W.nsIn K mainGlobals "_law_many"),
    fun K => tR (PySem.W.nsIn K mainGlobals "_law_store"),
    fun K => tR (PySem.W.nsIn K mainGlobals "_law_big_store"),
    fun K => tR (PySem.W.nsIn K mainGlobals "law"),
    fun K => tN (PySem.W.nsIn K mainGlobals "int"),
    fun K => tN (PySem.W.nsIn K mainGlobals "len"),
    fun K => tN (PySem.W.nsIn K mainGlobals "range"),
    fun K => tN (PySem.W.nsIn K mainGlobals "str"),
    fun K => tN (PySem.W.nsIn K mainGlobals "sorted"),
    fun K => tN (PySem.W.nsIn K mainGlobals "isinstance"),
    fun K => tN (PySem.W.nsIn K mainGlobals "bool"),
    fun K => tN (PySem.W.nsIn K mainGlobals "dict"),
    fun K => tN (PySem.W.nsIn K mainGlobals "list"),
    fun K => tN (PySem.W.nsIn K mainGlobals "tuple"),
    fun K => tI (PySem.W.nsIn K mainGlobals "LONGEST_NAME") 12,
    fun K => tS (PySem.W.nsIn K mainGlobals "LETTERS") "abcdefghijklmnopqrstuvwxyz",
    fun K => tS (PySem.W.nsIn K mainGlobals "DIGITS") "0123456789"] : List (Fr → Bool)) ++
  ([fun K => tB (PySem.W.findIn K (.ref (gA K "Store")) "__class__") "object.__class__",
    fun K => tB (PySem.W.specialIn K (.builtin "object.__class__") "__get__") "getset_descriptor.__get__",
    fun K => tO (PySem.W.takesIn K (.builtin "object.__class__")) true,
    fun K => tO (PySem.W.mroIn K (gA K "Store") (.type "object")) true,
    fun K => PySem.W.isClsIn K (gA K "Store"),
    fun K => tT (PySem.W.typeIn K (.ref (gA K "Store"))) "type",
    fun K => tO (PySem.W.subIn K (.type "NoneType") (.ref (gA K "Store"))) false,
    fun K => tO (PySem.W.subIn K (.type "bool") (.ref (gA K "Store"))) false,
    fun K => tO (PySem.W.subIn K (.type "int") (.ref (gA K "Store"))) false,
    fun K => tO (PySem.W.subIn K (.type "str") (.ref (gA K "Store"))) false,
    fun K => tO (PySem.W.subIn K (.type "tuple") (.ref (gA K "Store"))) false,
    fun K => tO (PySem.W.subIn K (.type "list") (.ref (gA K "Store"))) false,
    fun K => tO (PySem.W.subIn K (.type "dict") (.ref (gA K "Store"))) false] : List (Fr → Bool))
  fn := ([⟨fun K => (gA K "_law_draw"), "_law_draw", "_law_draw", s__law_draw⟩,
    ⟨fun K => (gA K "_law_names"), "_law_names", "_law_names", s__law_names⟩,
    ⟨fun K => (gA K "_law_moves"), "_law_moves", "_law_moves", s__law_moves⟩,
    ⟨fun K => (gA K "is_name"), "is_name", "is_name", s_is_name⟩,
    ⟨fun K => (gA K "check_store"), "check_store", "check_store", s_check_store⟩,
    ⟨fun K => (mA K (gA K "Store") "__init__"), "__init__", "Store.__init__", s_Store___init__⟩,
    ⟨fun K => (pA K (gA K "Store") "contents"), "contents", "Store.contents", s_Store_contents⟩,
    ⟨fun K => (pA K (gA K "Store") "starts"), "starts", "Store.starts", s_Store_starts⟩,
    ⟨fun K => (pA K (gA K "Store") "moves"), "moves", "Store.moves", s_Store_moves⟩,
    ⟨fun K => (gA K "_law_is_integer"), "_law_is_integer", "_law_is_integer", s__law_is_integer⟩,
    ⟨fun K => (gA K "_law_is_content"), "_law_is_content", "_law_is_content", s__law_is_content⟩,
    ⟨fun K => (gA K "_law_table"), "_law_table", "_law_table", s__law_table⟩,
    ⟨fun K => (gA K "_law_asked"), "_law_asked", "_law_asked", s__law_asked⟩,
    ⟨fun K => (gA K "_law_many"), "_law_many", "_law_many", s__law_many⟩,
    ⟨fun K => (gA K "_law_store"), "_law_store", "_law_store", s__law_store⟩,
    ⟨fun K => (gA K "_law_big_store"), "_law_big_store", "_law_big_store", s__law_big_store⟩,
    ⟨fun K => (gA K "law"), "law", "law", s_law⟩] : List FnT)
  dc := ([] : List (Str × List (Str × Int)))
abbrev rowR : PySem.W.OpenRow := PySem.W.OpenLaw.row PySem.Challenge.rw_patchfacts_k10_store_parts
abbrev seeQ : Program := PySem.W.view rowR.prog [27]
def freeN : List PySem.Str := (["_wall",
    "__name__",
    "PatchError",
    "BadRun",
    "BadStore",
    "UnknownStart",
    "LETTERS",
    "DIGITS",
    "LONGEST_NAME",
    "is_name",
    "is_step",
    "check_run",
    "check_store",
    "Store",
    "_law_draw",
    "_law_names",
    "_law_store",
    "_law_big_store",
    "_law_moves",
    "_law_is_integer",
    "_law_is_content",
    "_law_table",
    "_law_many",
    "_law_asked"] : List PySem.Str)
abbrev RunT (w : World) : Prop := HandSHeadRun.RunEq rowR seeQ (hookT 12 tops) (obT 12 tops) 30000 freeN w
theorem run_false (w : World) : RunT (w.withFollow "special-get-raises" false) := by
  intro os
  kernel_rfl
theorem run_true (w : World) : RunT (w.withFollow "special-get-raises" true) := by
  intro os
  kernel_rfl
theorem run_ok (w : World) : RunT w := PySem.W.byRow2 "special-get-raises" (P := RunT) run_false run_true w
set_option maxHeartbeats 2000000
end VL
set_option maxRecDepth 100000
namespace VL
open PySem L2

inductive D where
  | non | bl (b : Bool) | int (i : Int) | str (s : Str)
  | scr (ns : List Int) | tup (ds : List D) | lst (ds : List D) | dic (t : Nat) (es : List (D × D)) | ins (c : Str) (fs : List (Str × D)) | exn (c : Str) (fs : List (Str × D)) | sel (x : Addr) (c : Str) (fs : List (Str × D))
instance : Inhabited D := ⟨.non⟩
abbrev Vw := Addr → Option HO
structure Gm where
  P : Program
  w : World
  K : PySem.W.Frag
  mg : Str → Option Value
def ScrAt (K : PySem.W.Frag) (G : Vw) (a : Addr) (ns : List Int) : Prop := G a = some (.lst (ns.map V.int)) ∨
  ∃ (o : Obj) (its : Array Value) (n : Nat), K.lookup a = some o ∧ o.cls = .type "list" ∧ o.dict = none ∧ o.data = .seq its n ∧ its.size ≤ sizeLine ∧ Vals (ns.map V.int) its.toList
theorem ScrAt.mono {K : PySem.W.Frag} {G G' : Vw} {a : Addr} {ns : List Int} (e : ∀ a u, G a = some u → G' a = some u) (h : ScrAt K G a ns) : ScrAt K G' a ns := h.imp (e _ _) id
abbrev NK := List (Sum Key (List Key))
def nkH1 (w : World) : Sum Key (List Key) → Int
  | .inl k => keyH w k
  | .inr ks => reduceHash (Builtin.Tuple.tupleHashOf (ks.map (keyH w)))
def nkH (w : World) (k : NK) : Int := reduceHash (Builtin.Tuple.tupleHashOf (k.map (nkH1 w)))
def nDict (w : World) (a : Addr) (kvs : List (NK × Addr × V)) : HO := .ext fun h =>
  kvs.length ≤ sizeLine ∧ (a == sysModules) = false ∧ (kvs.map (·.1)).Nodup ∧ ∃ us : List Value, Vals (kvs.map (·.2.2)) us ∧
    ∃ (o : Obj) (es : Array DictEntry) (ep : Nat), h.get? a = some o ∧ o.ExactDict ∧ o.data = .dict es ep ∧ es.toList = List.zipWith (fun (p : NK × Addr × V) (u : Value) => (⟨nkH w p.1, .ref p.2.1, u⟩ : DictEntry)) kvs us
inductive Res (α : Type) where
  | ok (a : α) | exc (c : Str) (fs : List (Str × D)) | bad
def Res.bind {α β : Type} : Res α → (α → Res β) → Res β
  | .ok a, f => f a
  | .exc c fs, _ => .exc c fs
  | .bad, _ => .bad
inductive Sl where
  | no | sh (d : D) | ow (d : D)
instance : Inhabited Sl := ⟨.no⟩
abbrev Env := List Sl
def keyD : Key → D
  | .inl i => .int i
  | .inr s => .str s
def nkD1 : Sum Key (List Key) → D
  | .inl k => keyD k
  | .inr ks => .tup (ks.map keyD)
def nkD (k : NK) : D := .tup (k.map nkD1)
def NItem (G : Vw) : Sum Key (List Key) → V → Prop
  | .inl k, x => x = kV k
  | .inr ks, x => ∃ b, x = .ref b ∧ G b = some (.tup (ks.map kV))
inductive NItems (G : Vw) : NK → List V → Prop
  | nil : NItems G [] []
  | cons {k : Sum Key (List Key)} {ks : NK} {x : V} {xs : List V} : NItem G k x → NItems G ks xs → NItems G (k :: ks) (x :: xs)
def NTup (G : Vw) (k : NK) (q : Addr) : Prop := ∃ xs, G q = some (.tup xs) ∧ NItems G k xs
mutual
inductive Rp (mg : Gm) (G : Vw) : D → V → Prop
  | non : Rp mg G .non .non
  | bl (b : Bool) : Rp mg G (.bl b) (.bl b)
  | int (i : Int) : Rp mg G (.int i) (.int i)
  | str (s : Str) : Rp mg G (.str s) (.str s)
  | scr {a : Addr} {ns : List Int} : ScrAt mg.K G a ns → Rp mg G (.scr ns) (.ref a)
  | tup {a : Addr} {xs : List V} {ds : List D} : G a = some (.tup xs) → RpL mg G ds xs → Rp mg G (.tup ds) (.ref a)
  | lst {a : Addr} {xs : List V} {ds : List D} : G a = some (.lst xs) → RpL mg G ds xs → Rp mg G (.lst ds) (.ref a)
  | dicK {a : Addr} {kvs : List (Key × V)} {es : List (D × D)} : G a = some (.dK kvs) → es.map (·.1) = kvs.map (fun p => keyD p.1) → RpL mg G (es.map (·.2)) (kvs.map (·.2)) → Rp mg G (.dic 0 es) (.ref a)
  | dicT {a : Addr} {kvs : List (List Key × V)} {es : List (D × D)} : G a = some (.dT kvs) → es.map (·.1) = kvs.map (fun p => .tup (p.1.map keyD)) → RpL mg G (es.map (·.2)) (kvs.map (·.2)) → Rp mg G (.dic 1 es) (.ref a)
  | dicN {a : Addr} {kvs : List (NK × Addr × V)} {es : List (D × D)} : G a = some (nDict mg.w a kvs) → (∀ e ∈ kvs, NTup G e.1 e.2.1) → es.map (·.1) = kvs.map (fun p => nkD p.1) → RpL mg G (es.map (·.2)) (kvs.map (·.2.2)) → Rp mg G (.dic 2 es) (.ref a)
  | ins {a C dx : Addr} {c : Str} {fs : List (Str × V)} {gs : List (Str × D)} : mg.mg c = some (.ref C) → G a = some (.ins C dx fs) → gs.map (·.1) = fs.map (·.1) → RpL mg G (gs.map (·.2)) (fs.map (·.2)) → Rp mg G (.ins c gs) (.ref a)
  | sel {a C dx : Addr} {c : Str} {fs : List (Str × V)} {gs : List (Str × D)} : mg.mg c = some (.ref C) → G a = some (.ins C dx fs) → gs.map (·.1) = fs.map (·.1) → RpL mg G (gs.map (·.2)) (fs.map (·.2)) → Rp mg G (.sel a c gs) (.ref a)
  | exn0 {a : Addr} {oe : Obj} {c : Str} {cls : Value} : G a = some (.frz oe (.own a)) → Zc cls none oe → (∃ vs, oe.data = .fields vs) → mg.mg c = some cls → Rp mg G (.exn c []) (.ref a)
  | exnF {a dd : Addr} {oe : Obj} {c : Str} {cls : Value} {fs : List (Str × D)} {vs : List (Str × V)} : G a = some (.frz oe (.own a)) → Zc cls (some dd) oe → (∃ vs, oe.data = .fields vs) → mg.mg c = some cls → G dd = some (.xd vs) → fs.map (·.1) = vs.map (·.1) → RpL mg G (fs.map (·.2)) (vs.map (·.2)) → Rp mg G (.exn c fs) (.ref a)
inductive RpL (mg : Gm) (G : Vw) : List D → List V → Prop
  | nil : RpL mg G [] []
  | cons {d : D} {ds : List D} {v : V} {vs : List V} : Rp mg G d v → RpL mg G ds vs → RpL mg G (d :: ds) (v :: vs)
end
def RpX (mg : Gm) (G : Vw) (c : Str) (fs : List (Str × D)) (cls : Value) (dd : Option Addr) : Prop :=
  mg.mg c = some cls ∧ ((fs = [] ∧ dd = none) ∨ ∃ (d : Addr) (vs : List (Str × V)), dd = some d ∧ G d = some (.xd vs) ∧ fs.map (·.1) = vs.map (·.1) ∧ RpL mg G (fs.map (·.2)) (vs.map (·.2)))

def vw (H : Hp) : Vw := fun a => match H a with
  | some (.frz _ (.lst xs)) => some (.lst xs)
  | some (.frz _ (.dK xs)) => some (.dK xs)
  | some (.frz _ (.dT xs)) => some (.dT xs)
  | some (.frz _ (.ext p)) => some (.ext p)
  | x => x
def Sh (M : Addr → Bool) (G : Vw) : Vw := fun a => if M a = true then none else G a
def vis (fl : Bool) (M : Addr → Bool) (G : Vw) : Vw := if fl = true then Sh M G else G
def VEx (G G' : Vw) : Prop := ∀ a u, G a = some u → G' a = some u
def Ext (H H' : Hp) : Prop := ∀ a o, H a = some o → H' a = some o
theorem VEx.refl (G : Vw) : VEx G G := fun _ _ h => h
theorem VEx.trans {G G' G'' : Vw} (a : VEx G G') (b : VEx G' G'') : VEx G G'' := fun x u h => b x u (a x u h)
theorem Ext.refl (H : Hp) : Ext H H := fun _ _ h => h
theorem Ext.trans {H H1 H2 : Hp} (a : Ext H H1) (b : Ext H1 H2) : Ext H H2 := fun x o h => b x o (a x o h)
theorem Ext.v {H H' : Hp} (e : Ext H H') : VEx (vw H) (vw H') := fun a u h => by
  cases q : H a with
  | none => unfold vw at h; rw [q] at h; cases h
  | some o =>
    have q' := e a o q
    unfold vw at h ⊢
    rw [q] at h
    rw [q']
    exact h
theorem vw_none {H : Hp} {a : Addr} : vw H a = none ↔ H a = none := by
  unfold vw
  constructor
  · intro h
    split at h <;> first | (cases h; done) | exact h
  · intro h
    rw [h]
theorem Ext.fresh {H H' : Hp} (e : Ext H H') {p : Addr} (h : H' p = none) : H p = none := by
  cases q : H p with
  | none => rfl
  | some o => rw [e p o q] at h; cases h
def NF : HO → Prop
  | .frz _ _ => False
  | _ => True
theorem vw_of {H : Hp} {a : Addr} {o : HO} (h : H a = some o) (n : NF o) : vw H a = some o := by
  unfold vw
  rw [h]
  cases o <;> first | rfl | exact n.elim
theorem vw_upd_ne {H : Hp} {a p : Addr} {o : HO} (h : a ≠ p) : vw (upd H p o) a = vw H a := by
  unfold vw
  rw [upd_ne h]
theorem vw_upd_same {H : Hp} {p : Addr} {o : HO} (n : NF o) : vw (upd H p o) p = some o := vw_of upd_same n
theorem Ext.new {H : Hp} {p : Addr} {o : HO} (h : H p = none) : Ext H (upd H p o) := fun a u e => by
  rw [upd_ne (ne_of_none e h)]
  exact e
theorem Ext.mut {H H' : Hp} {p : Addr} {o : HO} (e : Ext H H') (h : H p = none) : Ext H (upd H' p o) := fun a u q => by
  rw [upd_ne (ne_of_none q h)]
  exact e a u q
theorem vw_lst {H : Hp} {a : Addr} {xs : List V} (h : vw H a = some (.lst xs)) : Rd H a (.lst xs) := by
  unfold vw at h
  split at h <;> first | (cases h; done) | skip
  · rename_i o ys e; cases h; exact .inr ⟨o, e⟩
  · exact .inl h
theorem vw_dK {H : Hp} {a : Addr} {xs : List (Key × V)} (h : vw H a = some (.dK xs)) : Rd H a (.dK xs) := by
  unfold vw at h
  split at h <;> first | (cases h; done) | skip
  · rename_i o ys e; cases h; exact .inr ⟨o, e⟩
  · exact .inl h
theorem vw_dT {H : Hp} {a : Addr} {xs : List (List Key × V)} (h : vw H a = some (.dT xs)) : Rd H a (.dT xs) := by
  unfold vw at h
  split at h <;> first | (cases h; done) | skip
  · rename_i o ys e; cases h; exact .inr ⟨o, e⟩
  · exact .inl h
theorem vw_tup {H : Hp} {a : Addr} {xs : List V} (h : vw H a = some (.tup xs)) : H a = some (.tup xs) := by
  unfold vw at h
  split at h <;> first | (cases h; done) | exact h
theorem vw_ins {H : Hp} {a C dx : Addr} {fs : List (Str × V)} (h : vw H a = some (.ins C dx fs)) : H a = some (.ins C dx fs) := by
  unfold vw at h
  split at h <;> first | (cases h; done) | exact h
theorem vw_xd {H : Hp} {a : Addr} {fs : List (Str × V)} (h : vw H a = some (.xd fs)) : H a = some (.xd fs) := by
  unfold vw at h
  split at h <;> first | (cases h; done) | exact h
theorem ScrAt.sq {K : PySem.W.Frag} {H : Hp} {a : Addr} {ns : List Int} (h : ScrAt K (vw H) a ns) : SqL K H a (ns.map V.int) := h.imp vw_lst id
theorem Sh_some {M : Addr → Bool} {G : Vw} {a : Addr} {u : HO} (h : Sh M G a = some u) : M a = false ∧ G a = some u := by
  unfold Sh at h
  split at h
  · cases h
  · rename_i hm; exact ⟨by simpa using hm, h⟩
theorem Sh_of {M : Addr → Bool} {G : Vw} {a : Addr} (h : M a = false) : Sh M G a = G a := by
  unfold Sh
  rw [if_neg (by rw [h]; exact Bool.false_ne_true)]
theorem Sh_le (M : Addr → Bool) (G : Vw) : VEx (Sh M G) G := fun a u h => (Sh_some h).2
theorem Sh_mono {M : Addr → Bool} {G G' : Vw} (e : VEx G G') : VEx (Sh M G) (Sh M G') := fun a u h => by
  obtain ⟨h1, h2⟩ := Sh_some h
  rw [Sh_of h1]; exact e a u h2
theorem vis_le (fl : Bool) (M : Addr → Bool) (G : Vw) : VEx (vis fl M G) G := by
  cases fl with
  | true => exact Sh_le M G
  | false => exact .refl _
theorem vis_mono {fl : Bool} {M : Addr → Bool} {G G' : Vw} (e : VEx G G') : VEx (vis fl M G) (vis fl M G') := by
  cases fl with
  | true => exact Sh_mono e
  | false => exact e
theorem Sh_vis (fl : Bool) (M : Addr → Bool) (G : Vw) : VEx (Sh M G) (vis fl M G) := by
  cases fl with
  | true => exact .refl _
  | false => exact Sh_le M G
theorem NItems.mono {G G' : Vw} (e : VEx G G') : ∀ {k : NK} {xs : List V}, NItems G k xs → NItems G' k xs
  | _, _, .nil => .nil
  | .inl _ :: _, _, .cons h r => .cons h (NItems.mono e r)
  | .inr _ :: _, _, .cons h r => .cons (let ⟨b, h1, h2⟩ := h; ⟨b, h1, e _ _ h2⟩) (NItems.mono e r)
theorem NTup.mono {G G' : Vw} (e : VEx G G') {k : NK} {q : Addr} (h : NTup G k q) : NTup G' k q :=
  let ⟨xs, h1, h2⟩ := h
  ⟨xs, e _ _ h1, h2.mono e⟩
mutual
theorem Rp.mono {mg : Gm} {G G' : Vw} (e : VEx G G') : ∀ {d : D} {v : V}, Rp mg G d v → Rp mg G' d v
  | _, _, .non => .non
  | _, _, .bl b => .bl b
  | _, _, .int i => .int i
  | _, _, .str s => .str s
  | _, _, .scr h => .scr (h.mono e)
  | _, _, .tup h r => .tup (e _ _ h) (RpL.mono e r)
  | _, _, .lst h r => .lst (e _ _ h) (RpL.mono e r)
  | _, _, .dicK h k r => .dicK (e _ _ h) k (RpL.mono e r)
  | _, _, .dicT h k r => .dicT (e _ _ h) k (RpL.mono e r)
  | _, _, .dicN h n k r => .dicN (e _ _ h) (fun x hx => (n x hx).mono e) k (RpL.mono e r)
  | _, _, .ins m h k r => .ins m (e _ _ h) k (RpL.mono e r)
  | _, _, .sel m h k r => .sel m (e _ _ h) k (RpL.mono e r)
  | _, _, .exn0 h z d m => .exn0 (e _ _ h) z d m
  | _, _, .exnF h z d m x k r => .exnF (e _ _ h) z d m (e _ _ x) k (RpL.mono e r)
theorem RpL.mono {mg : Gm} {G G' : Vw} (e : VEx G G') : ∀ {ds : List D} {vs : List V}, RpL mg G ds vs → RpL mg G' ds vs
  | _, _, .nil => .nil
  | _, _, .cons h r => .cons (Rp.mono e h) (RpL.mono e r)
end
theorem RpX.mono {mg : Gm} {G G' : Vw} (e : VEx G G') {c : Str} {fs : List (Str × D)} {cls : Value} {dd : Option Addr} (h : RpX mg G c fs cls dd) : RpX mg G' c fs cls dd := by
  obtain ⟨h1, h2 | ⟨d, vs, h2, h3, h4, h5⟩⟩ := h
  · exact ⟨h1, .inl h2⟩
  · exact ⟨h1, .inr ⟨d, vs, h2, e _ _ h3, h4, h5.mono e⟩⟩
def immut : D → Bool
  | .tup ds => immuts ds
  | .lst _ => false
  | .scr _ => false
  | .dic _ _ => false
  | .ins _ _ => false
  | .exn _ _ => false
  | .sel _ _ _ => false
  | _ => true
where immuts : List D → Bool
  | [] => true
  | d :: ds => immut d && immuts ds
mutual
theorem Rp.imm {mg : Gm} {G G' : Vw} (e : ∀ a xs, G a = some (.tup xs) → G' a = some (.tup xs)) : ∀ {d : D} {v : V}, Rp mg G d v → immut d = true → Rp mg G' d v
  | _, _, .non, _ => .non
  | _, _, .bl b, _ => .bl b
  | _, _, .int i, _ => .int i
  | _, _, .str s, _ => .str s
  | _, _, .tup h r, q => .tup (e _ _ h) (RpL.imm e r q)
  | _, _, .scr h, q => by cases q
  | _, _, .lst h r, q => by cases q
  | _, _, .dicK h k r, q => by cases q
  | _, _, .dicT h k r, q => by cases q
  | _, _, .dicN h n k r, q => by cases q
  | _, _, .ins m h k r, q => by cases q
  | _, _, .sel m h k r, q => by cases q
  | _, _, .exn0 .., q => by cases q
  | _, _, .exnF .., q => by cases q
theorem RpL.imm {mg : Gm} {G G' : Vw} (e : ∀ a xs, G a = some (.tup xs) → G' a = some (.tup xs)) : ∀ {ds : List D} {vs : List V}, RpL mg G ds vs → immut.immuts ds = true → RpL mg G' ds vs
  | _, _, .nil, _ => .nil
  | _, _, .cons h r, q => by
    obtain ⟨q1, q2⟩ := Bool.and_eq_true_iff.mp (show (immut _ && immut.immuts _) = true from q)
    exact .cons (Rp.imm e h q1) (RpL.imm e r q2)
end
theorem RpL.length {mg : Gm} {G : Vw} : ∀ {ds : List D} {vs : List V}, RpL mg G ds vs → ds.length = vs.length
  | _, _, .nil => rfl
  | _, _, .cons _ r => by rw [List.length_cons, List.length_cons, r.length]
theorem RpL.get {mg : Gm} {G : Vw} : ∀ {ds : List D} {vs : List V} {i : Nat} {d : D}, RpL mg G ds vs → ds[i]? = some d → ∃ v, vs[i]? = some v ∧ Rp mg G d v
  | _, _, _, _, .nil, e => by simp at e
  | _, _, 0, _, .cons r _, e => by simp at e; subst e; exact ⟨_, rfl, r⟩
  | _, _, i + 1, _, .cons _ t, e => by
    obtain ⟨v, h1, h2⟩ := RpL.get (i := i) t (by simpa using e)
    exact ⟨v, by simpa using h1, h2⟩
theorem RpL.append {mg : Gm} {G : Vw} : ∀ {ds ds' : List D} {vs vs' : List V}, RpL mg G ds vs → RpL mg G ds' vs' → RpL mg G (ds ++ ds') (vs ++ vs')
  | _, _, _, _, .nil, h => h
  | _, _, _, _, .cons h r, t => .cons h (RpL.append r t)
theorem RpL.take {mg : Gm} {G : Vw} : ∀ {ds : List D} {vs : List V} (n : Nat), RpL mg G ds vs → RpL mg G (ds.take n) (vs.take n)
  | _, _, 0, _ => .nil
  | _, _, _ + 1, .nil => .nil
  | _, _, n + 1, .cons h r => .cons h (RpL.take n r)
theorem RpL.drop {mg : Gm} {G : Vw} : ∀ {ds : List D} {vs : List V} (n : Nat), RpL mg G ds vs → RpL mg G (ds.drop n) (vs.drop n)
  | _, _, 0, h => h
  | _, _, _ + 1, .nil => .nil
  | _, _, n + 1, .cons _ r => RpL.drop n r
theorem RpL.set {mg : Gm} {G : Vw} {d : D} {v : V} (r : Rp mg G d v) : ∀ {ds : List D} {vs : List V} (i : Nat), RpL mg G ds vs → RpL mg G (ds.set i d) (vs.set i v)
  | _, _, _, .nil => .nil
  | _, _, 0, .cons _ t => .cons r t
  | _, _, i + 1, .cons q t => .cons q (RpL.set r i t)
theorem RpL.one {mg : Gm} {G : Vw} {d : D} {vs : List V} (h : RpL mg G [d] vs) : ∃ v, vs = [v] ∧ Rp mg G d v := by
  cases h with
  | cons h t => cases t; exact ⟨_, rfl, h⟩
theorem RpL.two {mg : Gm} {G : Vw} {d e : D} {vs : List V} (h : RpL mg G [d, e] vs) : ∃ v w, vs = [v, w] ∧ Rp mg G d v ∧ Rp mg G e w := by
  cases h with
  | cons h t => obtain ⟨w, rfl, q⟩ := t.one; exact ⟨_, w, rfl, h, q⟩
end VL

set_option maxRecDepth 100000
set_option maxHeartbeats 1000000
namespace VL
open PySem L2

def OwOk (mg : Gm) (M : Addr → Bool) (H : Hp) (p : Addr) : D → Prop
  | .lst ds => ∃ xs, H p = some (.lst xs) ∧ RpL mg (Sh M (vw H)) ds xs
  | .dic 0 es => ∃ kvs : List (Key × V), H p = some (.dK kvs) ∧ es.map (·.1) = kvs.map (fun p => keyD p.1) ∧ RpL mg (Sh M (vw H)) (es.map (·.2)) (kvs.map (·.2))
  | .dic 1 es => ∃ kvs : List (List Key × V), H p = some (.dT kvs) ∧ es.map (·.1) = kvs.map (fun p => .tup (p.1.map keyD)) ∧ RpL mg (Sh M (vw H)) (es.map (·.2)) (kvs.map (·.2))
  | .dic 2 es => ∃ kvs : List (NK × Addr × V), H p = some (nDict mg.w p kvs) ∧ (∀ e ∈ kvs, NTup (Sh M (vw H)) e.1 e.2.1) ∧ es.map (·.1) = kvs.map (fun p => nkD p.1) ∧ RpL mg (Sh M (vw H)) (es.map (·.2)) (kvs.map (·.2.2))
  | .sel x c gs => p = x ∧ ∃ (C dx : Addr) (fs : List (Str × V)), mg.mg c = some (.ref C) ∧ H p = some (.ins C dx fs) ∧ gs.map (·.1) = fs.map (·.1) ∧ RpL mg (Sh M (vw H)) (gs.map (·.2)) (fs.map (·.2))
  | .ins c gs => ∃ (C dx : Addr) (fs : List (Str × V)), mg.mg c = some (.ref C) ∧ H p = some (.ins C dx fs) ∧ gs.map (·.1) = fs.map (·.1) ∧ RpL mg (Sh M (vw H)) (gs.map (·.2)) (fs.map (·.2))
  | _ => False
structure MOk (M : Addr → Bool) (H : Hp) : Prop where
  dom : ∀ a, M a = true → ∃ o, H a = some o
  tup : ∀ a xs, M a = true → H a ≠ some (.tup xs)
  xd : ∀ a fs, M a = true → H a ≠ some (.xd fs)
def SlotOk (mg : Gm) (M0 M : Addr → Bool) (H : Hp) (v : Option (Option V)) : Sl → Prop
  | .no => True
  | .sh d => ∃ x, v = some (some x) ∧ Rp mg (Sh M (vw H)) d x
  | .ow d => ∃ p, v = some (some (.ref p)) ∧ M p = true ∧ M0 p = false ∧ OwOk mg M H p d
def isOw : Option Sl → Bool
  | some (.ow _) => true
  | _ => false
structure Good (mg : Gm) (H0 : Hp) (M0 M : Addr → Bool) (H : Hp) (σ : St) (env : Env) : Prop where
  len : σ.length = env.length
  ok : MOk M H
  sub : ∀ a, M0 a = true → M a = true
  new : ∀ a, M a = true → M0 a = true ∨ H0 a = none
  ok0 : MOk M0 H0
  ex : Ext H0 H
  sl : ∀ (i : Nat) (s : Sl), env[i]? = some s → SlotOk mg M0 M H σ[i]? s
  inj : ∀ (i j : Nat) (p : Addr), i ≠ j → isOw env[i]? = true → isOw env[j]? = true → σ[i]? = some (some (.ref p)) → σ[j]? ≠ some (some (.ref p))
theorem MOk.mono {M : Addr → Bool} {H H' : Hp} (m : MOk M H) (e : Ext H H') : MOk M H' where
  dom := fun a h => by
    obtain ⟨u, q⟩ := m.dom a h
    exact ⟨u, e a u q⟩
  tup := fun a xs h z => by
    obtain ⟨u, q⟩ := m.dom a h
    have h1 := e a u q
    rw [z] at h1
    cases h1
    exact m.tup a xs h q
  xd := fun a fs h z => by
    obtain ⟨u, q⟩ := m.dom a h
    have h1 := e a u q
    rw [z] at h1
    cases h1
    exact m.xd a fs h q
theorem MOk.empty {H : Hp} : MOk (fun _ => false) H := ⟨fun _ h => Bool.noConfusion h, fun _ _ h => Bool.noConfusion h, fun _ _ h => Bool.noConfusion h⟩
theorem OwOk.mono {mg : Gm} {M : Addr → Bool} {H H' : Hp} {p : Addr} (e : Ext H H') : ∀ {d : D}, OwOk mg M H p d → OwOk mg M H' p d
  | .lst ds, ⟨xs, h, r⟩ => ⟨xs, e _ _ h, r.mono (Sh_mono e.v)⟩
  | .dic 0 es, ⟨kvs, h, k, r⟩ => ⟨kvs, e _ _ h, k, r.mono (Sh_mono e.v)⟩
  | .dic 1 es, ⟨kvs, h, k, r⟩ => ⟨kvs, e _ _ h, k, r.mono (Sh_mono e.v)⟩
  | .dic 2 es, ⟨kvs, h, n, k, r⟩ => ⟨kvs, e _ _ h, fun x hx => (n x hx).mono (Sh_mono e.v), k, r.mono (Sh_mono e.v)⟩
  | .dic (_ + 3) _, h => h.elim
  | .ins c gs, ⟨C, dx, fs, m, h, k, r⟩ => ⟨C, dx, fs, m, e _ _ h, k, r.mono (Sh_mono e.v)⟩
  | .non, h => h.elim
  | .bl _, h => h.elim
  | .int _, h => h.elim
  | .str _, h => h.elim
  | .tup _, h => h.elim
  | .scr _, h => h.elim
  | .exn _ _, h => h.elim
  | .sel x c gs, ⟨q, C, dx, fs, m, h, k, r⟩ => ⟨q, C, dx, fs, m, e _ _ h, k, r.mono (Sh_mono e.v)⟩
theorem SlotOk.mono {mg : Gm} {M0 M : Addr → Bool} {H H' : Hp} {v : Option (Option V)} (e : Ext H H') : ∀ {s : Sl}, SlotOk mg M0 M H v s → SlotOk mg M0 M H' v s
  | .no, _ => trivial
  | .sh d, ⟨x, h, r⟩ => ⟨x, h, r.mono (Sh_mono e.v)⟩
  | .ow d, ⟨p, h, m, m0, r⟩ => ⟨p, h, m, m0, r.mono e⟩
theorem Good.mono {mg : Gm} {H0 : Hp} {M0 M : Addr → Bool} {H H' : Hp} {σ : St} {env : Env} (g : Good mg H0 M0 M H σ env) (e : Ext H H') : Good mg H0 M0 M H' σ env :=
  ⟨g.len, g.ok.mono e, g.sub, g.new, g.ok0, g.ex.trans e, fun i s h => (g.sl i s h).mono e, g.inj⟩

abbrev gm (X : Cx) : Gm := ⟨X.prog, X.w, X.K, X.mg⟩
def PostE (X : Cx) (W : WX) (fl : Bool) (M : Addr → Bool) (σ : St) (H : Hp) (Q : VK) : Res D → Prop
  | .ok d => ∀ v H', Ext H H' → Rp (gm X) (vis fl M (vw H')) d v → Q v H'
  | .exc c fs => ∀ cls dd H', Ext H H' → RpX (gm X) (Sh M (vw H')) c fs cls dd → W cls dd σ H'
  | .bad => False
def PostA (X : Cx) (W : WX) (fl : Bool) (M : Addr → Bool) (σ : St) (H : Hp) (Q : List V → Hp → Prop) : Res (List D) → Prop
  | .ok ds => ∀ vs H', Ext H H' → RpL (gm X) (vis fl M (vw H')) ds vs → Q vs H'
  | .exc c fs => ∀ cls dd H', Ext H H' → RpX (gm X) (Sh M (vw H')) c fs cls dd → W cls dd σ H'
  | .bad => False
def PostT {α : Type} (X : Cx) (W : WX) (M : Addr → Bool) (σ : St) (H : Hp) (Q : α → Hp → Prop) : Res α → Prop
  | .ok b => ∀ H', Ext H H' → Q b H'
  | .exc c fs => ∀ cls dd H', Ext H H' → RpX (gm X) (Sh M (vw H')) c fs cls dd → W cls dd σ H'
  | .bad => False
def VE (X : Cx) (W : WX) (fl : Bool) (e : Expr) (φ : Env → Res D) : Prop :=
  ∃ t : TE, PE X e t ∧ ∀ (H0 : Hp) (M0 M : Addr → Bool) (H : Hp) (σ : St) (env : Env) (Q : VK), Good (gm X) H0 M0 M H σ env → PostE X W fl M σ H Q (φ env) → t σ H Q
def VA (X : Cx) (W : WX) (fl : Bool) (es : List Expr) (φ : Env → Res (List D)) : Prop :=
  ∃ t : TA, PA X es t ∧ ∀ (H0 : Hp) (M0 M : Addr → Bool) (H : Hp) (σ : St) (env : Env) (Q : List V → Hp → Prop), Good (gm X) H0 M0 M H σ env → PostA X W fl M σ H Q (φ env) → t σ H Q
def VT (X : Cx) (W : WX) (e : Expr) (φ : Env → Res Bool) : Prop :=
  ∃ t : TT, PT X e t ∧ ∀ (H0 : Hp) (M0 M : Addr → Bool) (H : Hp) (σ : St) (env : Env) (Q : Bool → Hp → Prop), Good (gm X) H0 M0 M H σ env → PostT X W M σ H Q (φ env) → t σ H Q
section
variable {X : Cx} {W : WX} {fl fla flb : Bool} {M : Addr → Bool} {σ : St} {H H' : Hp} {Q : VK}
theorem PostE.mono {r : Res D} (h : PostE X W fl M σ H Q r) (e : Ext H H') : PostE X W fl M σ H' Q r := by
  cases r with
  | ok d => exact fun v H2 e2 r => h v H2 (e.trans e2) r
  | exc c fs => exact fun cls dd H2 e2 r => h cls dd H2 (e.trans e2) r
  | bad => exact h
theorem PostE.ite {c : Prop} [Decidable c] {r : Res D} (h : PostE X W fl M σ H Q (if c then r else .bad)) : c ∧ PostE X W fl M σ H Q r := by
  by_cases hc : c
  · rw [if_pos hc] at h; exact ⟨hc, h⟩
  · rw [if_neg hc] at h; exact h.elim
theorem PostE.seq {r : Res D} {f : D → Res D} {Q' : VK} (h : PostE X W fl M σ H Q (r.bind f))
    (k : ∀ d v H1, Ext H H1 → Rp (gm X) (vis fla M (vw H1)) d v → PostE X W fl M σ H1 Q (f d) → Q' v H1) : PostE X W fla M σ H Q' r := by
  cases r with
  | ok d => exact fun v H1 e1 r1 => k d v H1 e1 r1 (PostE.mono h e1)
  | exc c fs => exact h
  | bad => exact h
theorem PostA.mono {r : Res (List D)} {Q : List V → Hp → Prop} (h : PostA X W fl M σ H Q r) (e : Ext H H') : PostA X W fl M σ H' Q r := by
  cases r with
  | ok d => exact fun v H2 e2 r => h v H2 (e.trans e2) r
  | exc c fs => exact fun cls dd H2 e2 r => h cls dd H2 (e.trans e2) r
  | bad => exact h
theorem PostT.mono {α : Type} {r : Res α} {Q : α → Hp → Prop} (h : PostT X W M σ H Q r) (e : Ext H H') : PostT X W M σ H' Q r := by
  cases r with
  | ok d => exact fun H2 e2 => h H2 (e.trans e2)
  | exc c fs => exact fun cls dd H2 e2 r => h cls dd H2 (e.trans e2) r
  | bad => exact h
theorem PostA.head {r : Res D} {f : D → Res (List D)} {Q : List V → Hp → Prop} {Q' : VK} (h : PostA X W fl M σ H Q (r.bind f))
    (k : ∀ d v H1, Ext H H1 → Rp (gm X) (vis fl M (vw H1)) d v → PostA X W fl M σ H1 Q (f d) → Q' v H1) : PostE X W fl M σ H Q' r := by
  cases r with
  | ok d => exact fun v H1 e1 r1 => k d v H1 e1 r1 (PostA.mono h e1)
  | exc c fs => exact h
  | bad => exact h
theorem PostA.tail {r : Res (List D)} {f : List D → Res (List D)} {Q Q' : List V → Hp → Prop} (h : PostA X W fl M σ H Q (r.bind f))
    (k : ∀ d v H1, Ext H H1 → RpL (gm X) (vis fl M (vw H1)) d v → PostA X W fl M σ H1 Q (f d) → Q' v H1) : PostA X W fl M σ H Q' r := by
  cases r with
  | ok d => exact fun v H1 e1 r1 => k d v H1 e1 r1 (PostA.mono h e1)
  | exc c fs => exact h
  | bad => exact h
theorem PostE.args {r : Res (List D)} {f : List D → Res D} {Q' : List V → Hp → Prop} (h : PostE X W fl M σ H Q (r.bind f))
    (k : ∀ ds vs H1, Ext H H1 → RpL (gm X) (vis fla M (vw H1)) ds vs → PostE X W fl M σ H1 Q (f ds) → Q' vs H1) : PostA X W fla M σ H Q' r := by
  cases r with
  | ok d => exact fun v H1 e1 r1 => k d v H1 e1 r1 (PostE.mono h e1)
  | exc c fs => exact h
  | bad => exact h
theorem PostT.seq {α : Type} {r : Res D} {f : D → Res α} {Q : α → Hp → Prop} {Q' : VK} (h : PostT X W M σ H Q (r.bind f))
    (k : ∀ d v H1, Ext H H1 → Rp (gm X) (vis fl M (vw H1)) d v → PostT X W M σ H1 Q (f d) → Q' v H1) : PostE X W fl M σ H Q' r := by
  cases r with
  | ok d => exact fun v H1 e1 r1 => k d v H1 e1 r1 (PostT.mono h e1)
  | exc c fs => exact h
  | bad => exact h
theorem PostT.tst {α β : Type} {r : Res α} {f : α → Res β} {Q : β → Hp → Prop} {Q' : α → Hp → Prop} (h : PostT X W M σ H Q (r.bind f))
    (k : ∀ b H1, Ext H H1 → PostT X W M σ H1 Q (f b) → Q' b H1) : PostT X W M σ H Q' r := by
  cases r with
  | ok d => exact fun H1 e1 => k d H1 e1 (PostT.mono h e1)
  | exc c fs => exact h
  | bad => exact h
theorem PostE.tst {α : Type} {r : Res α} {f : α → Res D} {Q' : α → Hp → Prop} (h : PostE X W fl M σ H Q (r.bind f))
    (k : ∀ b H1, Ext H H1 → PostE X W fl M σ H1 Q (f b) → Q' b H1) : PostT X W M σ H Q' r := by
  cases r with
  | ok d => exact fun H1 e1 => k d H1 e1 (PostE.mono h e1)
  | exc c fs => exact h
  | bad => exact h
end
end VL

set_option maxRecDepth 100000
set_option maxHeartbeats 1000000
namespace VL
open PySem L2

mutual
def toPy : D → PyData
  | .non => .none
  | .bl b => .bool b
  | .int i => .int i
  | .str s => .str s
  | .scr ns => .list (ns.map .int)
  | .tup ds => .tuple (toPys ds)
  | .lst ds => .list (toPys ds)
  | .dic _ _ => .none
  | .ins _ _ => .none
  | .exn _ _ => .none
  | .sel _ _ _ => .none
def toPys : List D → List PyData
  | [] => []
  | d :: ds => toPy d :: toPys ds
end
mutual
def plain : D → Bool
  | .tup ds => plains ds
  | .lst ds => plains ds
  | .dic _ _ => false
  | .ins _ _ => false
  | .exn _ _ => false
  | .sel _ _ _ => false
  | _ => true
def plains : List D → Bool
  | [] => true
  | d :: ds => plain d && plains ds
end
def cmpOk (d : D) : Bool := plain d && SeqAt.shaped (toPy d)
def eqD (d e : D) : Bool := PyData.eqv (toPy d) (toPy e)
theorem dp_ints {K : PySem.W.Frag} {H : Hp} : ∀ ns : List Int, DpAll K H (ns.map V.int) (ns.map PyData.int)
  | [] => .nil
  | n :: ns => .cons (.int n) (dp_ints ns)
mutual
theorem Rp.dp {mg : Gm} {H : Hp} : ∀ {d : D} {v : V}, Rp mg (vw H) d v → plain d = true → Dp mg.K H v (toPy d)
  | _, _, .non, _ => .non
  | _, _, .bl b, _ => .bl b
  | _, _, .int i, _ => .int i
  | _, _, .str s, _ => .str s
  | _, _, .scr h, _ => .lst h.sq (dp_ints _)
  | _, _, .tup h r, q => .tup (.inl (.inl (vw_tup h))) (RpL.dp r q)
  | _, _, .lst h r, q => .lst (.inl (vw_lst h)) (RpL.dp r q)
  | _, _, .dicK h k r, q => by cases q
  | _, _, .dicT h k r, q => by cases q
  | _, _, .dicN h n k r, q => by cases q
  | _, _, .ins m h k r, q => by cases q
  | _, _, .sel m h k r, q => by cases q
  | _, _, .exn0 .., q => by cases q
  | _, _, .exnF .., q => by cases q
theorem RpL.dp {mg : Gm} {H : Hp} : ∀ {ds : List D} {vs : List V}, RpL mg (vw H) ds vs → plains ds = true → DpAll mg.K H vs (toPys ds)
  | _, _, .nil, _ => .nil
  | _, _, .cons h r, q => by
    obtain ⟨q1, q2⟩ := Bool.and_eq_true_iff.mp (show (plain _ && plains _) = true from q)
    exact .cons (Rp.dp h q1) (RpL.dp r q2)
end

def getP (i : Nat) (env : Env) : Res D := match env[i]? with
  | some (.sh d) => .ok d
  | _ => .bad
def getB (i : Nat) (env : Env) : Res D := match env[i]? with
  | some (.sh d) => .ok d
  | some (.ow d) => .ok d
  | _ => .bad
theorem OwOk.rp {mg : Gm} {M : Addr → Bool} {H : Hp} {p : Addr} : ∀ {d : D}, OwOk mg M H p d → Rp mg (vw H) d (.ref p)
  | .lst ds, ⟨xs, h, r⟩ => .lst (vw_of h trivial) (r.mono (Sh_le _ _))
  | .dic 0 es, ⟨kvs, h, k, r⟩ => .dicK (vw_of h trivial) k (r.mono (Sh_le _ _))
  | .dic 1 es, ⟨kvs, h, k, r⟩ => .dicT (vw_of h trivial) k (r.mono (Sh_le _ _))
  | .dic 2 es, ⟨kvs, h, n, k, r⟩ => .dicN (vw_of h trivial) (fun x hx => (n x hx).mono (Sh_le _ _)) k (r.mono (Sh_le _ _))
  | .dic (_ + 3) _, h => h.elim
  | .ins c gs, ⟨C, dx, fs, m, h, k, r⟩ => .ins m (vw_of h trivial) k (r.mono (Sh_le _ _))
  | .non, h => h.elim
  | .bl _, h => h.elim
  | .int _, h => h.elim
  | .str _, h => h.elim
  | .tup _, h => h.elim
  | .scr _, h => h.elim
  | .exn _ _, h => h.elim
  | .sel x c gs, ⟨q, C, dx, fs, m, h, k, r⟩ => by
    subst q
    exact .sel m (vw_of h trivial) k (r.mono (Sh_le _ _))
section
variable {X : Cx} {W : WX} {fl fla flb flc : Bool} {e a b c : Expr} {es : List Expr} {pos : Pos} {φ φa φb φc : Env → Res D}
theorem ve_v (i : Nat) {x : Str} (hN : X.N[i]? = some x := by rfl) (hv : Vis X.env.scope x := by first | exact Or.inl rfl | exact Or.inr (Or.inl rfl) | exact Or.inr (Or.inr rfl)) (hd : (x == ("__debug__" : Str)) = false := by decide)
    (hcd : (x == ("__classdict__" : Str)) = false := by decide) : VE X W fl (.Name x pos) (getP i) := by
  refine ⟨tVar i, pe_var hN hv hd hcd, fun H0 M0 M H σ env Q g h => ?_⟩
  unfold getP at h
  cases q : env[i]? with
  | none => rw [q] at h; exact h.elim
  | some s =>
    rw [q] at h
    cases s with
    | no => exact h.elim
    | ow d => exact h.elim
    | sh d =>
      obtain ⟨x, e, r⟩ := g.sl i _ q
      exact ⟨x, e, h x H (Ext.refl H) (r.mono (Sh_vis fl M _))⟩
theorem ve_b (i : Nat) {x : Str} (hN : X.N[i]? = some x := by rfl) (hv : Vis X.env.scope x := by first | exact Or.inl rfl | exact Or.inr (Or.inl rfl) | exact Or.inr (Or.inr rfl)) (hd : (x == ("__debug__" : Str)) = false := by decide)
    (hcd : (x == ("__classdict__" : Str)) = false := by decide) : VE X W false (.Name x pos) (getB i) := by
  refine ⟨tVar i, pe_var hN hv hd hcd, fun H0 M0 M H σ env Q g h => ?_⟩
  unfold getB at h
  cases q : env[i]? with
  | none => rw [q] at h; exact h.elim
  | some s =>
    rw [q] at h
    cases s with
    | no => exact h.elim
    | ow d =>
      obtain ⟨p, e, m, m0, r⟩ := g.sl i _ q
      exact ⟨_, e, h _ H (Ext.refl H) r.rp⟩
    | sh d =>
      obtain ⟨x, e, r⟩ := g.sl i _ q
      exact ⟨x, e, h x H (Ext.refl H) (r.mono (Sh_le M _))⟩
def cE (d : D) (_ : Env) : Res D := .ok d
theorem ve_int {i j} : VE X W fl (.Constant (.int i) j pos) (cE (.int i)) := ⟨_, pe_int, fun _ _ _ H _ _ _ _ h => h _ H (Ext.refl H) (.int i)⟩
theorem ve_bl {i j} : VE X W fl (.Constant (.bool i) j pos) (cE (.bl i)) := ⟨_, pe_bl, fun _ _ _ H _ _ _ _ h => h _ H (Ext.refl H) (.bl i)⟩
theorem ve_non {j} : VE X W fl (.Constant .none j pos) (cE .non) := ⟨_, pe_non, fun _ _ _ H _ _ _ _ h => h _ H (Ext.refl H) .non⟩
theorem ve_str {x j} : VE X W fl (.Constant (.str x) j pos) (cE (.str x)) := ⟨_, pe_str, fun _ _ _ H _ _ _ _ h => h _ H (Ext.refl H) (.str x)⟩
theorem ve_gStr {x s : Str} {t : Tok} (hm : X.mg x = some (.str s t)) (hg : Gl X x := by rfl) (hd : (x == ("__debug__" : Str)) = false := by decide) : VE X W fl (.Name x pos) (cE (.str s)) :=
  ⟨_, pe_glob (v := .str s) hg hm ⟨t, rfl⟩ hd, fun _ _ _ H _ _ _ _ h => h _ H (Ext.refl H) (.str s)⟩
theorem ve_gInt {x : Str} {i : Int} {t : Tok} (hm : X.mg x = some (.int i t)) (hg : Gl X x := by rfl) (hd : (x == ("__debug__" : Str)) = false := by decide) : VE X W fl (.Name x pos) (cE (.int i)) :=
  ⟨_, pe_glob (v := .int i) hg hm ⟨t, rfl⟩ hd, fun _ _ _ H _ _ _ _ h => h _ H (Ext.refl H) (.int i)⟩
def immE (φ : Env → Res D) (env : Env) : Res D := (φ env).bind fun d => if immut d = true then .ok d else .bad
def OpF (X : Cx) (W : WX) (fla flb fl : Bool) (r : R2) (f : D → D → Res D) : Prop :=
  ∀ (M : Addr → Bool) (H : Hp) (σ : L2.St) (Q : VK) (d e : D) (v w : V), MOk M H → Rp (gm X) (vis fla M (vw H)) d v → Rp (gm X) (vis flb M (vw H)) e w → PostE X W fl M σ H Q (f d e) → r v w H Q
def op2 (f : D → D → Res D) (φa φb : Env → Res D) (env : Env) : Res D := (φa env).bind fun d => (φb env).bind fun e => f d e
theorem ve_op {op : Operator} {r : R2} {f : D → D → Res D} (ho : OpR X (binaryOp op) r) (hf : OpF X W fla flb fl r f) (ha : VE X W fla a φa) (hb : VE X W flb b φb) : VE X W fl (.BinOp a op b pos) (op2 f φa φb) := by
  obtain ⟨ta, pa, ra⟩ := ha
  obtain ⟨tb, pb, rb⟩ := hb
  refine ⟨_, pe_op ho pa pb, fun H0 M0 M H σ env Q g h => ?_⟩
  refine ra H0 M0 M H σ env _ g (PostE.seq h fun d v H1 e1 r1 h1 => ?_)
  refine rb H0 M0 M H1 σ env _ (g.mono e1) (PostE.seq h1 fun d2 v2 H2 e2 r2 h2 => ?_)
  exact hf M H2 σ Q d d2 v v2 ((g.ok.mono e1).mono e2) (r1.mono (vis_mono e2.v)) r2 h2
theorem ve_cmp {op : CmpOp} {r : R2} {f : D → D → Res D} (ho : OpR X (compareOp op) r) (hm : behindInMarks op b = false) (hf : OpF X W fla flb fl r f) (ha : VE X W fla a φa) (hb : VE X W flb b φb) : VE X W fl (.Compare a [op] [b] pos) (op2 f φa φb) := by
  obtain ⟨ta, pa, ra⟩ := ha
  obtain ⟨tb, pb, rb⟩ := hb
  refine ⟨_, pe_cmpR ho pa pb hm, fun H0 M0 M H σ env Q g h => ?_⟩
  refine ra H0 M0 M H σ env _ g (PostE.seq h fun d v H1 e1 r1 h1 => ?_)
  refine rb H0 M0 M H1 σ env _ (g.mono e1) (PostE.seq h1 fun d2 v2 H2 e2 r2 h2 => ?_)
  exact hf M H2 σ Q d d2 v v2 ((g.ok.mono e1).mono e2) (r1.mono (vis_mono e2.v)) r2 h2
def toB : D → Res Bool
  | .bl b => .ok b
  | _ => .bad
def tE (φ : Env → Res D) (env : Env) : Res Bool := (φ env).bind toB
theorem vt_cmp {op : CmpOp} {r : R2} {f : D → D → Res D} (ho : OpR X (compareOp op) r) (hm : behindInMarks op b = false) (hf : OpF X W fla flb true r f) (ha : VE X W fla a φa) (hb : VE X W flb b φb) : VT X W (.Compare a [op] [b] pos) (tE (op2 f φa φb)) := by
  obtain ⟨ta, pa, ra⟩ := ha
  obtain ⟨tb, pb, rb⟩ := hb
  refine ⟨_, pt_cmpR ho pa pb hm, fun H0 M0 M H σ env Q g h => ?_⟩
  have h' : PostE X W true M σ H (fun x H' => ∃ k, x = .bl k ∧ Q k H') (op2 f φa φb env) := by
    refine PostT.seq h fun d v H1 e1 r1 h1 => ?_
    cases d with
    | bl k => cases r1; exact ⟨k, rfl, h1 H1 (Ext.refl _)⟩
    | _ => exact h1.elim
  refine ra H0 M0 M H σ env _ g (PostE.seq h' fun d v H1 e1 r1 h1 => ?_)
  refine rb H0 M0 M H1 σ env _ (g.mono e1) (PostE.seq h1 fun d2 v2 H2 e2 r2 h2 => ?_)
  exact hf M H2 σ _ d d2 v v2 ((g.ok.mono e1).mono e2) (r1.mono (vis_mono e2.v)) r2 h2
theorem vt_val (h : VE X W fl e φ) (he : ∀ whole, isTrue e X.env whole = (do let v ← whole; standAt e.pos; holding [v] (truthy v)) := by intro _; rfl) : VT X W e (tE φ) := by
  obtain ⟨t, pt, rt⟩ := h
  refine ⟨_, pt_val pt he, fun H0 M0 M H σ env Q g h => ?_⟩
  refine rt H0 M0 M H σ env _ g (PostT.seq h fun d v H1 e1 r1 h1 => ?_)
  cases d with
  | bl k => cases r1; exact ⟨k, rfl, h1 H1 (Ext.refl _)⟩
  | _ => exact h1.elim
end
end VL

set_option maxRecDepth 100000
set_option maxHeartbeats 2000000
namespace VL
open PySem L2
open PySem.AutoSeq1 (wpAny_loadPart')

theorem tup_mul_same (l : Addr) (items : Array Value) (n : Nat) (dd : Option Addr) (sl : Array (Option Value)) (x : Int) (u : Tok)
    (c0 : (decide (x < -(2 ^ 63)) || decide (x ≥ 2 ^ 63)) = false) (c1 : (items.isEmpty || x == 1) = true) :
    Meets (Builtin.«tuple.__mul__» ⟨[.ref l, .int x u], []⟩)
      (fun _ R s => s.heap.get? l = some { cls := .type "tuple", dict := dd, data := .seq items n, slots := sl } ∧ R (.ok (.ret (.ref l))) s) :=
  .of_wp fun prog w A R s h => by
    obtain ⟨hp, g, d, tk, os⟩ := s
    obtain ⟨hl, h⟩ := h
    have f1 := AutoSeq1.idx_int
    wp_walk using wpAny_loadPart' hl
    repeat (first
      | (refine wpAny_ite_false (decide_eq_false (by rw [c0]; exact Bool.false_ne_true)) ?_; wp_walk using wpAny_loadPart' hl)
      | (refine wpAny_ite_true (decide_eq_true c1) ?_; wp_walk using wpAny_loadPart' hl))
    exact ⟨_, rfl, h⟩
theorem tup_mul_none (l : Addr) (items : Array Value) (n : Nat) (dd : Option Addr) (sl : Array (Option Value)) (x : Int) (u : Tok)
    (c0 : (decide (x < -(2 ^ 63)) || decide (x ≥ 2 ^ 63)) = false) (c1 : (items.isEmpty || x == 1) = false) (c2 : (decide (x ≤ 0) || items.isEmpty) = true) :
    Meets (Builtin.«tuple.__mul__» ⟨[.ref l, .int x u], []⟩)
      (fun _ R s => s.heap.get? l = some { cls := .type "tuple", dict := dd, data := .seq items n, slots := sl } ∧
        R (.ok (.ret (.ref s.heap.objs.size))) { s with heap := s.heap.push { cls := .type "tuple", data := .seq #[] }, toks := s.toks }) :=
  .of_wp fun prog w A R s h => by
    obtain ⟨hp, g, d, tk, os⟩ := s
    obtain ⟨hl, h⟩ := h
    have f1 := AutoSeq1.idx_int
    wp_walk using wpAny_loadPart' hl
    repeat (first
      | (refine wpAny_ite_false (decide_eq_false (by rw [c0]; exact Bool.false_ne_true)) ?_; wp_walk using wpAny_loadPart' hl)
      | (refine wpAny_ite_false (decide_eq_false (by rw [c1]; exact Bool.false_ne_true)) ?_; wp_walk using wpAny_loadPart' hl)
      | (refine wpAny_ite_true (decide_eq_true c2) ?_; wp_walk using wpAny_loadPart' hl))
    exact ⟨_, rfl, h⟩
section
variable {X : Cx}
def rMulT (K : PySem.W.Frag) : R2 := fun x y H Q => ∃ l k xs, x = .ref l ∧ y = .int k ∧ SqT K H l xs ∧ -1000 ≤ k ∧ k ≤ 1000 ∧ xs.length ≤ 1000 ∧
  ((xs = [] ∨ k = 1) → Q (.ref l) H) ∧ (xs ≠ [] → k ≤ 0 → ∀ p, H p = none → Q (.ref p) (upd H p (.tup []))) ∧
  (xs ≠ [] → 2 ≤ k → ∀ p, H p = none → Q (.ref p) (upd H p (.tup (List.replicate k.toNat xs).flatten)))
theorem op_mulT : OpR X (binaryOp .Mult) (rMulT X.K) := by
  intro pins s σ H x y v u Q I rx ry h
  obtain ⟨l, k, xs, ex, ey, hT, hlo, hhi, hlen, q1, q2, q3⟩ := h
  by_cases big : xs ≠ [] ∧ 2 ≤ k
  · exact op_repT pins s σ H x y v u Q I rx ry ⟨l, k, xs, ex, ey, hT, big.1, big.2, hhi, hlen, q3 big.1 big.2⟩
  · subst ex; subst ey
    cases rx
    obtain ⟨t, rfl⟩ := ry
    obtain ⟨its, r, ⟨⟨cls, dd, data, sl⟩, ho, hc, n, hd⟩, hs⟩ := I.tuple hT
    simp only at hc hd
    subst hc hd
    have hlr : its.length = xs.length := r.length.symm
    have c0 : (decide (k < -(2 ^ 63)) || decide (k ≥ 2 ^ 63)) = false := by
      rw [decide_eq_false (by omega), decide_eq_false (by omega)]
      exact rfl
    by_cases same : xs = [] ∨ k = 1
    · have c1 : (its.toArray.isEmpty || k == 1) = true := by
        rcases same with e | e
        · subst e
          have : its = [] := List.eq_nil_of_length_eq_zero (by rw [hlr]; exact List.length_nil)
          subst this
          exact rfl
        · subst e
          exact Bool.or_true _
      refine wpAny_binaryOp_repeat_ref (T := "tuple") (U := "int") (by decide) ⟨_, ho, rfl⟩ (fun s' => typeIs_int s' k t) noFill_tuple_mul F.fills_int_mul F.slot_int_rmul repeat_tuple F.slot_int_index.lookup
        (call_meets F.slot_int_rmul (typeIs_int s k t) F.entry_int_rmul (F.args_int_rmul_2 _ _) (int_rmul_tuple k t l its.toArray n dd sl)
          ⟨ho, rfl, ⟨_, ho, rfl⟩, call_meets F.slot_tuple_mul ⟨_, ho, rfl⟩ F.entry_tuple_mul (F.args_tuple_mul_2 _ _) (tup_mul_same l its.toArray n dd sl k t c0 c1) ⟨ho, ?_⟩⟩)
      exact ⟨.ref l, H, I, rfl, q1 same⟩
    · have hne : xs ≠ [] := fun e => same (.inl e)
      have hk : k ≤ 0 := by
        have h1 : ¬ 2 ≤ k := fun h => big ⟨hne, h⟩
        have h2 : k ≠ 1 := fun h => same (.inr h)
        omega
      have hi : its.toArray.isEmpty = false := by
        cases its with
        | nil => exact absurd (List.eq_nil_of_length_eq_zero hlr.symm) hne
        | cons a b => exact rfl
      have c1 : (its.toArray.isEmpty || k == 1) = false := by
        rw [hi, Bool.false_or]
        exact beq_eq_false_iff_ne.mpr (by omega)
      have c2 : (decide (k ≤ 0) || its.toArray.isEmpty) = true := by
        rw [decide_eq_true hk]
        exact rfl
      refine wpAny_binaryOp_repeat_ref (T := "tuple") (U := "int") (by decide) ⟨_, ho, rfl⟩ (fun s' => typeIs_int s' k t) noFill_tuple_mul F.fills_int_mul F.slot_int_rmul repeat_tuple F.slot_int_index.lookup
        (call_meets F.slot_int_rmul (typeIs_int s k t) F.entry_int_rmul (F.args_int_rmul_2 _ _) (int_rmul_tuple k t l its.toArray n dd sl)
          ⟨ho, rfl, ⟨_, ho, rfl⟩, call_meets F.slot_tuple_mul ⟨_, ho, rfl⟩ F.entry_tuple_mul (F.args_tuple_mul_2 _ _) (tup_mul_none l its.toArray n dd sl k t c0 c1 c2) ⟨ho, ?_⟩⟩)
      exact ⟨.ref s.heap.objs.size, _, I.laid (t' := s.toks) (o := .tup []) (fun b ob q => Heap.get?_push_of_some _ q) (Nat.le_refl _) ⟨Nat.zero_le _, [], .nil, PyProof.Rows.IsTup.new _ _⟩, rfl, q2 hne hk _ (I.hok.fresh (Nat.le_refl _))⟩
def rMulS : R2 := fun x y H Q => ∃ z k, x = .str z ∧ y = .int k ∧ -1000 ≤ k ∧ k ≤ 1000 ∧ z.length ≤ 1000 ∧ Q (.str ⟨(List.replicate k.toNat z.cps.toList).flatten.toArray⟩) H
theorem foldl_cat : ∀ (n : Nat) (z : Array Nat) (a : List Nat), (List.replicate n z).foldl (· ++ ·) a.toArray = (a ++ (List.replicate n z.toList).flatten).toArray
  | 0, z, a => by simp
  | n + 1, z, a => by
    rw [List.replicate_succ, List.foldl_cons, List.replicate_succ, List.flatten_cons, ← List.append_assoc]
    have e : a.toArray ++ z = (a ++ z.toList).toArray := by simp
    rw [e]
    exact foldl_cat n z _
theorem op_mulS : OpR X (binaryOp .Mult) rMulS := by
  intro pins s σ H x y v u Q I rx ry h
  obtain ⟨z, k, rfl, rfl, hlo, hhi, hlen, q⟩ := h
  obtain ⟨t, rfl⟩ := rx
  obtain ⟨t', rfl⟩ := ry
  have c0 : (decide (k < -(2 ^ 63)) || decide (k ≥ 2 ^ 63)) = false := by
    rw [decide_eq_false (by omega), decide_eq_false (by omega)]
    exact rfl
  refine PySem.P.mul_str c0 (fun h1 h2 => ?_) (fun h1 h2 => ?_) ?_
  · have h3 : ((z.length : Nat) : Int) ≤ 1000 := by omega
    have h4 : (1000 : Int) ≤ (2 ^ 63 - 1) / k := by
      refine (Int.le_ediv_iff_mul_le (by omega)).mpr ?_
      have : 1000 * k ≤ 1000 * 1000 := Int.mul_le_mul_of_nonneg_left hhi (by omega)
      omega
    omega
  · unfold Builtin.Str.tooLong
    have : z.length * k.toNat ≤ 1000 * 1000 := Nat.mul_le_mul hlen (by omega)
    rw [sizeLine_eq]
    exact decide_eq_false (by omega)
  · by_cases h1 : k < 1
    · rw [if_pos h1]
      have e : k.toNat = 0 := by omega
      rw [e] at q
      refine ⟨by decide, ?_⟩
      exact ⟨.str _, H, I.tok _, ⟨_, rfl⟩, q⟩
    · rw [if_neg h1]
      by_cases h2 : (k == 1 || z.length == 0) = true
      · rw [if_pos h2]
        have e : (⟨(List.replicate k.toNat z.cps.toList).flatten.toArray⟩ : Str) = z := by
          rcases Bool.or_eq_true_iff.mp h2 with h3 | h3
          · have : k = 1 := by simpa using h3
            subst this
            show (⟨(List.replicate 1 z.cps.toList).flatten.toArray⟩ : Str) = z
            simp
          · have hz : z.cps.toList = [] := List.eq_nil_of_length_eq_zero (by simpa [Str.length] using h3)
            have : z = ⟨#[]⟩ := by
              cases z with
              | mk c => simp at hz; rw [hz]
            subst this
            simp
        rw [e] at q
        exact ⟨.str z, H, I, ⟨t, rfl⟩, q⟩
      · rw [if_neg h2]
        have e : (List.replicate k.toNat z.cps).foldl (· ++ ·) #[] = (List.replicate k.toNat z.cps.toList).flatten.toArray := by
          have := foldl_cat k.toNat z.cps []
          rw [List.nil_append] at this
          exact this
        rw [e]
        refine ⟨?_, ?_⟩
        · show (List.replicate k.toNat z.cps.toList).flatten.toArray.size ≤ sizeLine
          rw [List.size_toArray, PyProof.Rows.lm_len_rep_flat, sizeLine_eq]
          have a1 : k.toNat * z.cps.toList.length ≤ 1000 * 1000 := Nat.mul_le_mul (by omega) (by simpa [Str.length] using hlen)
          omega
        · exact ⟨.str _, H, I.tok _, ⟨_, rfl⟩, q⟩
def rCatL : R2 := fun x y H Q => ∃ l b xs zs, x = .ref l ∧ y = .ref b ∧ Rd H l (.lst xs) ∧ Rd H b (.lst zs) ∧ xs.length + zs.length ≤ sizeLine ∧ ∀ p, H p = none → Q (.ref p) (upd H p (.lst (xs ++ zs)))
theorem op_catL : OpR X (binaryOp .Add) rCatL := by
  intro pins s σ H x y v u Q I rx ry h
  obtain ⟨l, b, xs, zs, rfl, rfl, hl, hb, hz, q⟩ := h
  cases rx
  cases ry
  obtain ⟨z1, i1, n1, r1, e1⟩ := hl.ok I.hok
  obtain ⟨z2, i2, n2, r2, e2⟩ := hb.ok I.hok
  have l1 := r1.length
  have l2 := r2.length
  refine PySem.P.add_list e1 e2 ?_ (by rw [List.size_toArray, List.size_toArray]; omega)
  have ea : i1.toArray ++ i2.toArray = (i1 ++ i2).toArray := by simp
  rw [ea]
  exact ⟨.ref _, _, I.lnew (t' := s.toks) (r1.append r2) (by rw [List.length_append]; exact hz), rfl, q _ I.fresh⟩
end
end VL

set_option maxRecDepth 100000
set_option maxHeartbeats 2000000
namespace VL
open PySem L2

section
variable {mg : Gm} {M : Addr → Bool} {H : Hp} {fl : Bool} {p : Addr}
theorem vis_new {o : HO} (m : MOk M H) (h : H p = none) (n : NF o) : vis fl M (vw (upd H p o)) p = some o := by
  cases fl with
  | false => exact vw_upd_same n
  | true =>
    show Sh M (vw (upd H p o)) p = some o
    rw [Sh_of]
    · exact vw_upd_same n
    · cases q : M p with
      | false => rfl
      | true =>
        obtain ⟨u, e⟩ := m.dom p q
        rw [h] at e; cases e
theorem rp_newT {ds : List D} {xs : List V} (m : MOk M H) (h : H p = none) (r : RpL mg (vis fl M (vw H)) ds xs) : Rp mg (vis fl M (vw (upd H p (.tup xs)))) (.tup ds) (.ref p) :=
  .tup (vis_new m h trivial) (r.mono (vis_mono (Ext.new h).v))
theorem rp_newL {ds : List D} {xs : List V} (m : MOk M H) (h : H p = none) (r : RpL mg (vis fl M (vw H)) ds xs) : Rp mg (vis fl M (vw (upd H p (.lst xs)))) (.lst ds) (.ref p) :=
  .lst (vis_new m h trivial) (r.mono (vis_mono (Ext.new h).v))
theorem vis_get {G : Vw} {a : Addr} {u : HO} (h : vis fl M G a = some u) : G a = some u := vis_le fl M G a u h
end

def addD : D → D → Res D
  | .int i, .int j => .ok (.int (i + j))
  | .str s, .str t => if s.length + t.length ≤ sizeLine then .ok (.str (s ++ t)) else .bad
  | .tup xs, .tup ys => if xs.length + ys.length ≤ sizeLine then .ok (.tup (xs ++ ys)) else .bad
  | .lst xs, .lst ys => if xs.length + ys.length ≤ sizeLine then .ok (.lst (xs ++ ys)) else .bad
  | _, _ => .bad
def subD : D → D → Res D
  | .int i, .int j => .ok (.int (i - j))
  | _, _ => .bad
def mulD : D → D → Res D
  | .int i, .int j => if i.natAbs.log2 + j.natAbs.log2 < 1000000 then .ok (.int (i * j)) else .bad
  | .str s, .int k => if -1000 ≤ k ∧ k ≤ 1000 ∧ s.length ≤ 1000 then .ok (.str ⟨(List.replicate k.toNat s.cps.toList).flatten.toArray⟩) else .bad
  | .tup xs, .int k => if -1000 ≤ k ∧ k ≤ 1000 ∧ xs.length ≤ 1000 then .ok (.tup (List.replicate k.toNat xs).flatten) else .bad
  | _, _ => .bad
def modD : D → D → Res D
  | .int i, .int j => if 0 < j then .ok (.int (i % j)) else .bad
  | _, _ => .bad
def fdivD : D → D → Res D
  | .int i, .int j => if 0 < j ∧ j < 1073741824 then .ok (.int (i / j)) else .bad
  | _, _ => .bad
def powD : D → D → Res D
  | .int i, .int j => if 0 ≤ j ∧ j ≤ 1000000 ∧ i.natAbs < 2 ^ 64 then .ok (.int (i ^ j.toNat)) else .bad
  | _, _ => .bad
def ltD : D → D → Res D
  | .int i, .int j => .ok (.bl (decide (i < j)))
  | _, _ => .bad
def leD : D → D → Res D
  | .int i, .int j => .ok (.bl (decide (i ≤ j)))
  | _, _ => .bad
def gtD : D → D → Res D
  | .int i, .int j => .ok (.bl (decide (j < i)))
  | _, _ => .bad
def geD : D → D → Res D
  | .int i, .int j => .ok (.bl (decide (j ≤ i)))
  | _, _ => .bad
def eqO (d e : D) : Res D := if cmpOk d = true ∧ cmpOk e = true then .ok (.bl (eqD d e)) else .bad
def neO (d e : D) : Res D := if cmpOk d = true ∧ cmpOk e = true then .ok (.bl (!eqD d e)) else .bad
def isNon : D → Bool
  | .non => true
  | _ => false
def isNO (d : D) : D → Res D
  | .non => .ok (.bl (isNon d))
  | _ => .bad
def notNO (d : D) : D → Res D
  | .non => .ok (.bl (!isNon d))
  | _ => .bad
section
variable {X : Cx} {W : WX} {fl fla flb : Bool}
def rAddA (K : PySem.W.Frag) : R2 := fun x y H Q => rI0 (fun i j => .int (i + j)) x y H Q ∨ (∃ i j, x = .str i ∧ y = .str j ∧ i.length + j.length ≤ sizeLine ∧ Q (.str (i ++ j)) H) ∨ rCatA K x y H Q ∨ rCatL x y H Q
theorem op_addA : OpR X (binaryOp .Add) (rAddA X.K) := op_add.or (op_add_str.or (op_catA.or op_catL))
theorem nil_of_lenV {mg : Gm} {G : Vw} {ds : List D} (r : RpL mg G ds []) : ds = [] := List.eq_nil_of_length_eq_zero r.length
theorem of_add : OpF X W fl fl fl (rAddA X.K) addD := by
  intro M H σ Q d e v w m rd re h
  cases rd <;> cases re <;> first | exact h.elim | skip
  case int.int i j => exact .inl ⟨i, j, rfl, rfl, h _ H (Ext.refl H) (.int _)⟩
  case str.str s t =>
    obtain ⟨hs, h⟩ := PostE.ite h
    exact .inr (.inl ⟨s, t, rfl, rfl, hs, h _ H (Ext.refl H) (.str _)⟩)
  case tup.tup a xs ds ha ra b ys es hb rb =>
    obtain ⟨hs, h⟩ := PostE.ite h
    rw [ra.length, rb.length] at hs
    refine .inr (.inr (.inl ⟨a, b, xs, ys, rfl, rfl, .inl (.inl (vw_tup (vis_get ha))), .inl (.inl (vw_tup (vis_get hb))), hs, fun hx => ?_, fun _ hy => ?_, fun _ _ p hp => ?_⟩))
    · subst hx
      have := nil_of_lenV ra
      subst this
      exact h _ H (Ext.refl H) (.tup hb rb)
    · subst hy
      have := nil_of_lenV rb
      subst this
      rw [List.append_nil] at h
      exact h _ H (Ext.refl H) (.tup ha ra)
    · exact h _ _ (Ext.new hp) (rp_newT m hp (ra.append rb))
  case lst.lst a xs ds ha ra b ys es hb rb =>
    obtain ⟨hs, h⟩ := PostE.ite h
    rw [ra.length, rb.length] at hs
    exact .inr (.inr (.inr ⟨a, b, xs, ys, rfl, rfl, vw_lst (vis_get ha), vw_lst (vis_get hb), hs, fun p hp => h _ _ (Ext.new hp) (rp_newL m hp (ra.append rb))⟩))
def rMulA (K : PySem.W.Frag) : R2 := fun x y H Q => rI CMulW (fun i j => .int (i * j)) x y H Q ∨ rMulS x y H Q ∨ rMulT K x y H Q
theorem op_mulA : OpR X (binaryOp .Mult) (rMulA X.K) := op_mulW.or (op_mulS.or op_mulT)
theorem RpL.rep {mg : Gm} {G : Vw} {ds : List D} {xs : List V} (r : RpL mg G ds xs) : ∀ n : Nat, RpL mg G (List.replicate n ds).flatten (List.replicate n xs).flatten
  | 0 => .nil
  | n + 1 => by
    rw [List.replicate_succ, List.replicate_succ, List.flatten_cons, List.flatten_cons]
    exact r.append (RpL.rep r n)
theorem rep_nil {α : Type} : ∀ n : Nat, (List.replicate n ([] : List α)).flatten = []
  | 0 => rfl
  | n + 1 => by rw [List.replicate_succ, List.flatten_cons, rep_nil n]; rfl
theorem of_mul : OpF X W fl flb fl (rMulA X.K) mulD := by
  intro M H σ Q d e v w m rd re h
  cases rd <;> cases re <;> first | exact h.elim | skip
  case int.int i j =>
    obtain ⟨hs, h⟩ := PostE.ite h
    exact .inl ⟨i, j, rfl, rfl, hs, h _ H (Ext.refl H) (.int _)⟩
  case str.int s k =>
    obtain ⟨hs, h⟩ := PostE.ite h
    exact .inr (.inl ⟨s, k, rfl, rfl, hs.1, hs.2.1, hs.2.2, h _ H (Ext.refl H) (.str _)⟩)
  case tup.int a xs ds ha ra k =>
    obtain ⟨hs, h⟩ := PostE.ite h
    rw [ra.length] at hs
    refine .inr (.inr ⟨a, k, xs, rfl, rfl, .inl (.inl (vw_tup (vis_get ha))), hs.1, hs.2.1, hs.2.2, fun hx => ?_, fun _ hk p hp => ?_, fun _ hk p hp => ?_⟩)
    · refine h _ H (Ext.refl H) ?_
      rcases hx with hx | hx
      · subst hx
        have := nil_of_lenV ra
        subst this
        rw [rep_nil]
        exact .tup ha ra
      · subst hx
        have e : (List.replicate (1 : Int).toNat ds).flatten = ds := by
          show (List.replicate 1 ds).flatten = ds
          simp
        rw [e]
        exact .tup ha ra
    · have e : k.toNat = 0 := by omega
      rw [e] at h
      exact h _ _ (Ext.new hp) (rp_newT m hp .nil)
    · exact h _ _ (Ext.new hp) (rp_newT m hp (ra.rep _))
theorem of_mod : OpF X W fla flb fl (rI (fun _ j => 0 < j) fun i j => .int (i % j)) modD := by
  intro M H σ Q d e v w m rd re h
  cases rd <;> cases re <;> first | exact h.elim | skip
  obtain ⟨hs, h⟩ := PostE.ite h
  exact ⟨_, _, rfl, rfl, hs, h _ H (Ext.refl H) (.int _)⟩
theorem of_fdiv : OpF X W fla flb fl (rI CDiv fun i j => .int (i / j)) fdivD := by
  intro M H σ Q d e v w m rd re h
  cases rd <;> cases re <;> first | exact h.elim | skip
  obtain ⟨hs, h⟩ := PostE.ite h
  exact ⟨_, _, rfl, rfl, hs, h _ H (Ext.refl H) (.int _)⟩
theorem of_pow : OpF X W fla flb fl (rI CPow fun i j => .int (i ^ j.toNat)) powD := by
  intro M H σ Q d e v w m rd re h
  cases rd <;> cases re <;> first | exact h.elim | skip
  obtain ⟨hs, h⟩ := PostE.ite h
  exact ⟨_, _, rfl, rfl, hs, h _ H (Ext.refl H) (.int _)⟩
theorem of_lt : OpF X W fla flb fl (rI0 fun i j => .bl (decide (i < j))) ltD := by
  intro M H σ Q d e v w m rd re h
  cases rd <;> cases re <;> first | exact h.elim | skip
  exact ⟨_, _, rfl, rfl, h _ H (Ext.refl H) (.bl _)⟩
theorem of_le : OpF X W fla flb fl (rI0 fun i j => .bl (decide (i ≤ j))) leD := by
  intro M H σ Q d e v w m rd re h
  cases rd <;> cases re <;> first | exact h.elim | skip
  exact ⟨_, _, rfl, rfl, h _ H (Ext.refl H) (.bl _)⟩
theorem of_gt : OpF X W fla flb fl (rI0 fun i j => .bl (decide (j < i))) gtD := by
  intro M H σ Q d e v w m rd re h
  cases rd <;> cases re <;> first | exact h.elim | skip
  exact ⟨_, _, rfl, rfl, h _ H (Ext.refl H) (.bl _)⟩
theorem of_ge : OpF X W fla flb fl (rI0 fun i j => .bl (decide (j ≤ i))) geD := by
  intro M H σ Q d e v w m rd re h
  cases rd <;> cases re <;> first | exact h.elim | skip
  exact ⟨_, _, rfl, rfl, h _ H (Ext.refl H) (.bl _)⟩
theorem of_eq : OpF X W fla flb fl (rEqD X.K) eqO := by
  intro M H σ Q d e v w m rd re h
  obtain ⟨hs, h⟩ := PostE.ite h
  obtain ⟨p1, s1⟩ := Bool.and_eq_true_iff.mp hs.1
  obtain ⟨p2, s2⟩ := Bool.and_eq_true_iff.mp hs.2
  exact ⟨toPy d, toPy e, (rd.mono (vis_le fla M _)).dp p1, (re.mono (vis_le flb M _)).dp p2, s1, s2, h _ H (Ext.refl H) (.bl _)⟩
theorem of_ne : OpF X W fla flb fl (rNeD X.K) neO := by
  intro M H σ Q d e v w m rd re h
  obtain ⟨hs, h⟩ := PostE.ite h
  obtain ⟨p1, s1⟩ := Bool.and_eq_true_iff.mp hs.1
  obtain ⟨p2, s2⟩ := Bool.and_eq_true_iff.mp hs.2
  exact ⟨toPy d, toPy e, (rd.mono (vis_le fla M _)).dp p1, (re.mono (vis_le flb M _)).dp p2, s1, s2, h _ H (Ext.refl H) (.bl _)⟩
theorem isNon_of {mg : Gm} {G : Vw} {d : D} {v : V} (r : Rp mg G d v) : decide (v = .non) = isNon d := by
  cases r <;> first | rfl | exact decide_eq_false (by intro q; cases q)
theorem of_isN : OpF X W fla flb fl (fun x y H Q => y = .non ∧ Q (.bl (decide (x = .non))) H) isNO := by
  intro M H σ Q d e v w m rd re h
  cases re <;> first | exact h.elim | skip
  refine ⟨rfl, ?_⟩
  rw [isNon_of rd]
  exact h _ H (Ext.refl H) (.bl _)
end
end VL

set_option maxRecDepth 100000
set_option maxHeartbeats 2000000
namespace VL
open PySem L2

def flatD : D → Bool
  | .non => true | .bl _ => true | .int _ => true | .str _ => true
  | _ => false
mutual
def eqK : D → D → Bool
  | .non, .non => true
  | .bl a, .bl b => a == b
  | .int a, .int b => a == b
  | .str a, .str b => a == b
  | .tup xs, .tup ys => eqKs xs ys
  | _, _ => false
def eqKs : List D → List D → Bool
  | [], [] => true
  | x :: xs, y :: ys => eqK x y && eqKs xs ys
  | _, _ => false
end
def keyOf : D → Option Key
  | .int i => some (.inl i)
  | .str s => some (.inr s)
  | _ => none
def keysOf : List D → Option (List Key)
  | [] => some []
  | d :: ds => match keyOf d, keysOf ds with
    | some k, some ks => some (k :: ks)
    | _, _ => none
def lookD (es : List (D × D)) (k : D) : Option D := (es.find? fun p => eqK p.1 k).map (·.2)
def inD : D → D → Res D
  | d, .lst es => if cmpOk d = true ∧ cmpOk (.lst es) = true then .ok (.bl (es.any fun z => eqD z d)) else .bad
  | d, .tup es => if flatD d = true ∧ es.all flatD = true then .ok (.bl (es.any fun z => eqD z d)) else .bad
  | .str c, .str z => match c.cps.toList with
    | [x] => .ok (.bl (decide (x ∈ z.cps.toList)))
    | _ => .bad
  | _, _ => .bad
def notD : D → Res D
  | .bl b => .ok (.bl (!b))
  | _ => .bad
theorem eqV_eq {mg : Gm} {G : Vw} {d e : D} {v w : V} (r : Rp mg G d v) (q : Rp mg G e w) (hd : flatD d = true) (he : flatD e = true) : eqV v w = eqD d e := by
  cases r <;> first | (cases hd; done) | skip
  all_goals (cases q <;> first | (cases he; done) | skip)
  all_goals (simp only [eqV, eqD, toPy, PyData.eqv])
theorem flat_of {mg : Gm} {G : Vw} {d : D} {v : V} (r : Rp mg G d v) (h : flatD d = true) : flatV v = true := by
  cases r <;> first | rfl | (cases h; done)
theorem any_eqD {mg : Gm} {G : Vw} {e : D} {w : V} (q : Rp mg G e w) (he : flatD e = true) : ∀ {ds : List D} {vs : List V}, RpL mg G ds vs → ds.all flatD = true → (vs.all flatV = true) ∧ (vs.any fun y => eqV y w) = ds.any fun z => eqD z e
  | _, _, .nil, _ => ⟨rfl, rfl⟩
  | _, _, .cons r t, h => by
    rw [List.all_cons] at h
    obtain ⟨h1, h2⟩ := Bool.and_eq_true_iff.mp h
    obtain ⟨i1, i2⟩ := any_eqD q he t h2
    rw [List.all_cons, List.any_cons, List.any_cons, i1, i2, flat_of r h1, eqV_eq r q h1 he]
    exact ⟨rfl, rfl⟩
section
variable {X : Cx} {W : WX} {fl fla flb : Bool}
def rInA (K : PySem.W.Frag) : R2 := fun x y H Q => rInD K x y H Q ∨ rIn K false x y H Q ∨ ∃ (c : Nat) (z : Str), x = .str ⟨#[c]⟩ ∧ y = .str z ∧ Q (.bl (decide (c ∈ z.cps.toList))) H
theorem op_inA (hu : X.A.units + 65 < cLine) : OpR X (compareOp .In) (rInA X.K) := (op_inD hu).or (op_in_seq.or op_in_sign)
def rNotInA (K : PySem.W.Frag) : R2 := fun x y H Q => rNotInD K x y H Q ∨ rIn K true x y H Q ∨ ∃ (c : Nat) (z : Str), x = .str ⟨#[c]⟩ ∧ y = .str z ∧ Q (.bl (!decide (c ∈ z.cps.toList))) H
theorem op_notInA (hu : X.A.units + 65 < cLine) : OpR X (compareOp .NotIn) (rNotInA X.K) := (op_notInD hu).or (op_notIn_seq.or op_notIn_sign)
theorem str_one {c : Str} {x : Nat} (h : c.cps.toList = [x]) : c = ⟨#[x]⟩ := by
  cases c with
  | mk a =>
    have h' : a.toList = [x] := h
    have : a = #[x] := Array.toList_inj.mp h'
    rw [this]
theorem inD_lst (d : D) (es : List D) : inD d (.lst es) = if cmpOk d = true ∧ cmpOk (.lst es) = true then .ok (.bl (es.any fun z => eqD z d)) else .bad := by cases d <;> rfl
theorem inD_tup (d : D) (es : List D) : inD d (.tup es) = if flatD d = true ∧ es.all flatD = true then .ok (.bl (es.any fun z => eqD z d)) else .bad := by cases d <;> rfl
theorem toPys_any (d : D) : ∀ es : List D, ((toPys es).any fun z => PyData.eqv z (toPy d)) = es.any fun z => eqD z d
  | [] => by rw [toPys]; rfl
  | e :: es => by
    rw [toPys, List.any_cons, List.any_cons, toPys_any d es]
    rfl
theorem rIn_of {M : Addr → Bool} {H : Hp} {d : D} {v : V} {es : List D} {w : V} (rd : Rp (gm X) (vis fla M (vw H)) d v) (re : Rp (gm X) (vis flb M (vw H)) (.lst es) w)
    (hs : cmpOk d = true ∧ cmpOk (.lst es) = true) : ∃ x ds, Dp X.K H v x ∧ Dp X.K H w (.list ds) ∧ SeqAt.shaped x = true ∧ SeqAt.shaped (.list ds) = true ∧ (ds.any fun z => PyData.eqv z x) = es.any fun z => eqD z d := by
  obtain ⟨p1, s1⟩ := Bool.and_eq_true_iff.mp hs.1
  obtain ⟨p2, s2⟩ := Bool.and_eq_true_iff.mp hs.2
  have e : toPy (.lst es) = .list (toPys es) := by rw [toPy]
  have q := (re.mono (vis_le flb M _)).dp p2
  rw [e] at q s2
  exact ⟨toPy d, toPys es, (rd.mono (vis_le fla M _)).dp p1, q, s1, s2, toPys_any d es⟩
theorem of_in : OpF X W fla flb fl (rInA X.K) inD := by
  intro M H σ Q d e v w m rd re h
  have rd' := rd.mono (vis_le fla M _)
  have re' := re.mono (vis_le flb M _)
  cases e with
  | lst es =>
    rw [inD_lst] at h
    obtain ⟨hs, h⟩ := PostE.ite h
    obtain ⟨x, ds, a1, a2, a3, a4, a5⟩ := rIn_of (X := X) rd re hs
    refine .inl ⟨x, ds, a1, a2, a3, a4, ?_⟩
    rw [a5]
    exact h _ H (Ext.refl H) (.bl _)
  | tup es =>
    rw [inD_tup] at h
    obtain ⟨hs, h⟩ := PostE.ite h
    cases re' with
    | tup hb rb =>
      obtain ⟨i1, i2⟩ := any_eqD rd' hs.1 rb hs.2
      refine .inr (.inl ⟨_, _, rfl, .inr (.inl (.inl (vw_tup hb))), flat_of rd' hs.1, i1, ?_⟩)
      show Q (.bl (if false = true then _ else inV v _)) H
      rw [if_neg Bool.false_ne_true]
      unfold inV
      rw [i2]
      exact h _ H (Ext.refl H) (.bl _)
  | str z =>
    cases d with
    | str c =>
      cases rd'
      cases re'
      have h' : PostE X W fl M σ H Q (match c.cps.toList with | [x] => .ok (.bl (decide (x ∈ z.cps.toList))) | _ => .bad) := h
      cases q : c.cps.toList with
      | nil => rw [q] at h'; exact h'.elim
      | cons x r =>
        cases r with
        | nil =>
          rw [q] at h'
          refine .inr (.inr ⟨x, z, ?_, rfl, h' _ H (Ext.refl H) (.bl _)⟩)
          rw [str_one q]
        | cons y r => rw [q] at h'; exact h'.elim
    | _ => exact h.elim
  | _ => cases d <;> exact h.elim
def notInD (d e : D) : Res D := (inD d e).bind notD
theorem of_notIn : OpF X W fla flb fl (rNotInA X.K) notInD := by
  intro M H σ Q d e v w m rd re h
  have rd' := rd.mono (vis_le fla M _)
  have re' := re.mono (vis_le flb M _)
  cases e with
  | lst es =>
    have h' : PostE X W fl M σ H Q (if cmpOk d = true ∧ cmpOk (.lst es) = true then .ok (.bl (!es.any fun z => eqD z d)) else .bad) := by
      unfold notInD at h
      rw [inD_lst] at h
      by_cases c : cmpOk d = true ∧ cmpOk (.lst es) = true
      · rw [if_pos c] at h ⊢; exact h
      · rw [if_neg c] at h; exact h.elim
    obtain ⟨hs, h2⟩ := PostE.ite h'
    obtain ⟨x, ds, a1, a2, a3, a4, a5⟩ := rIn_of (X := X) rd re hs
    refine .inl ⟨x, ds, a1, a2, a3, a4, ?_⟩
    rw [a5]
    exact h2 _ H (Ext.refl H) (.bl _)
  | tup es =>
    have h' : PostE X W fl M σ H Q (if flatD d = true ∧ es.all flatD = true then .ok (.bl (!es.any fun z => eqD z d)) else .bad) := by
      unfold notInD at h
      rw [inD_tup] at h
      by_cases c : flatD d = true ∧ es.all flatD = true
      · rw [if_pos c] at h ⊢; exact h
      · rw [if_neg c] at h; exact h.elim
    obtain ⟨hs, h2⟩ := PostE.ite h'
    cases re' with
    | tup hb rb =>
      obtain ⟨i1, i2⟩ := any_eqD rd' hs.1 rb hs.2
      refine .inr (.inl ⟨_, _, rfl, .inr (.inl (.inl (vw_tup hb))), flat_of rd' hs.1, i1, ?_⟩)
      show Q (.bl (if true = true then !inV v _ else _)) H
      rw [if_pos rfl]
      unfold inV
      rw [i2]
      exact h2 _ H (Ext.refl H) (.bl _)
  | str z =>
    cases d with
    | str c =>
      cases rd'
      cases re'
      have h' : PostE X W fl M σ H Q (Res.bind (match c.cps.toList with | [x] => .ok (.bl (decide (x ∈ z.cps.toList))) | _ => .bad) notD) := h
      cases q : c.cps.toList with
      | nil => rw [q] at h'; exact h'.elim
      | cons x r =>
        cases r with
        | nil =>
          rw [q] at h'
          refine .inr (.inr ⟨x, z, ?_, rfl, h' _ H (Ext.refl H) (.bl _)⟩)
          rw [str_one q]
        | cons y r => rw [q] at h'; exact h'.elim
    | _ => exact h.elim
  | _ => cases d <;> exact h.elim
end

section
variable {X : Cx} {W : WX} {fl fla flb flc : Bool} {e a b c : Expr} {rest : List Expr} {pos : Pos} {φ φa φb φc : Env → Res D} {τ τa τb : Env → Res Bool}
def chE (f f' : D → D → Res D) (φa φb φc : Env → Res D) (env : Env) : Res D := (φa env).bind fun x => (φb env).bind fun y => (f x y).bind fun z => match z with
  | .bl true => (φc env).bind fun w => f' y w
  | .bl false => .ok (.bl false)
  | _ => .bad
theorem chain_go {op op' : CmpOp} {r r' : R2} {f f' : D → D → Res D} {ta tb tc : TE} (hf : OpF X W fla flb true r f) (hf' : OpF X W flb flc true r' f')
    (ra : ∀ (H0 : Hp) (M0 M : Addr → Bool) (H : Hp) (σ : L2.St) (env : Env) (Q : VK), Good (gm X) H0 M0 M H σ env → PostE X W fla M σ H Q (φa env) → ta σ H Q)
    (rb : ∀ (H0 : Hp) (M0 M : Addr → Bool) (H : Hp) (σ : L2.St) (env : Env) (Q : VK), Good (gm X) H0 M0 M H σ env → PostE X W flb M σ H Q (φb env) → tb σ H Q)
    (rc : ∀ (H0 : Hp) (M0 M : Addr → Bool) (H : Hp) (σ : L2.St) (env : Env) (Q : VK), Good (gm X) H0 M0 M H σ env → PostE X W flc M σ H Q (φc env) → tc σ H Q)
    (H0 : Hp) (M0 M : Addr → Bool) (H : Hp) (σ : L2.St) (env : Env) (Q : VK) (g : Good (gm X) H0 M0 M H σ env) (h : PostE X W true M σ H Q (chE f f' φa φb φc env)) : tChain r r' ta tb tc σ H Q := by
  refine ra H0 M0 M H σ env _ g (PostE.seq h fun d v H1 e1 r1 h1 => ?_)
  refine rb H0 M0 M H1 σ env _ (g.mono e1) (PostE.seq h1 fun d2 v2 H2 e2 r2 h2 => ?_)
  refine hf M H2 σ _ d d2 v v2 ((g.ok.mono e1).mono e2) (r1.mono (vis_mono e2.v)) r2 (PostE.seq h2 fun d3 v3 H3 e3 r3 h3 => ?_)
  cases d3 with
  | bl k =>
    cases r3
    refine ⟨k, rfl, ?_⟩
    cases k with
    | true =>
      rw [if_pos rfl]
      refine rc H0 M0 M H3 σ env _ (((g.mono e1).mono e2).mono e3) (PostE.seq h3 fun d4 v4 H4 e4 r4 h4 => ?_)
      exact hf' M H4 σ Q d2 d4 v2 v4 ((((g.ok.mono e1).mono e2).mono e3).mono e4) (r2.mono (vis_mono (e3.trans e4).v)) r4 h4
    | false =>
      rw [if_neg Bool.false_ne_true]
      exact h3 _ H3 (Ext.refl _) (.bl false)
  | _ => exact h3.elim
theorem vt_chain {op op' : CmpOp} {r r' : R2} {f f' : D → D → Res D} (ho : OpR X (compareOp op) r) (hf : OpF X W fla flb true r f) (ho' : OpR X (compareOp op') r') (hf' : OpF X W flb flc true r' f')
    (ha : VE X W fla a φa) (hb : VE X W flb b φb) (hc : VE X W flc c φc) (hm : lastMarks [op, op'] [b, c] = false := by with_unfolding_all rfl) : VT X W (.Compare a [op, op'] [b, c] pos) (tE (chE f f' φa φb φc)) := by
  obtain ⟨ta, pa, ra⟩ := ha
  obtain ⟨tb, pb, rb⟩ := hb
  obtain ⟨tc, pc, rc⟩ := hc
  refine ⟨_, pt_chain ho ho' pa pb pc hm, fun H0 M0 M H σ env Q g h => ?_⟩
  refine chain_go (op := op) (op' := op') hf hf' ra rb rc H0 M0 M H σ env _ g (PostT.seq h fun d v H1 e1 r1 h1 => ?_)
  cases d with
  | bl k => cases r1; exact ⟨k, rfl, h1 H1 (Ext.refl _)⟩
  | _ => exact h1.elim
def andT (τa τb : Env → Res Bool) (env : Env) : Res Bool := (τa env).bind fun b => if b = true then τb env else .ok false
def orT (τa τb : Env → Res Bool) (env : Env) : Res Bool := (τa env).bind fun b => if b = true then .ok true else τb env
def notT (τ : Env → Res Bool) (env : Env) : Res Bool := (τ env).bind fun b => .ok (!b)
def VW (X : Cx) (W : WX) (e : Expr) (τ : Env → Res Bool) : Prop :=
  ∃ t : TT, PW X e t ∧ ∀ (H0 : Hp) (M0 M : Addr → Bool) (H : Hp) (σ : L2.St) (env : Env) (Q : Bool → Hp → Prop), Good (gm X) H0 M0 M H σ env → PostT X W M σ H Q (τ env) → t σ H Q
theorem vt_w (h : VW X W e τ) : VT X W e τ := by
  obtain ⟨t, p, r⟩ := h
  exact ⟨t, p.pt, r⟩
theorem vw_and1 (h : VT X W a τ) : VW X W (.BoolOp .And [a] pos) τ := by
  obtain ⟨t, p, r⟩ := h
  exact ⟨t, pw_and1 p, r⟩
theorem vw_or1 (h : VT X W a τ) : VW X W (.BoolOp .Or [a] pos) τ := by
  obtain ⟨t, p, r⟩ := h
  exact ⟨t, pw_or1 p, r⟩
theorem vw_and (ha : VT X W a τa) (hb : VW X W (.BoolOp .And (b :: rest) pos) τb) : VW X W (.BoolOp .And (a :: b :: rest) pos) (andT τa τb) := by
  obtain ⟨t, p, r⟩ := ha
  obtain ⟨t', p', r'⟩ := hb
  refine ⟨_, pw_and p p', fun H0 M0 M H σ env Q g h => ?_⟩
  refine r H0 M0 M H σ env _ g (PostT.tst h fun k H1 e1 h1 => ?_)
  cases k with
  | true => rw [if_pos rfl] at h1 ⊢; exact r' H0 M0 M H1 σ env Q (g.mono e1) h1
  | false => rw [if_neg Bool.false_ne_true] at h1 ⊢; exact h1 H1 (Ext.refl _)
theorem vw_or (ha : VT X W a τa) (hb : VW X W (.BoolOp .Or (b :: rest) pos) τb) : VW X W (.BoolOp .Or (a :: b :: rest) pos) (orT τa τb) := by
  obtain ⟨t, p, r⟩ := ha
  obtain ⟨t', p', r'⟩ := hb
  refine ⟨_, pw_or p p', fun H0 M0 M H σ env Q g h => ?_⟩
  refine r H0 M0 M H σ env _ g (PostT.tst h fun k H1 e1 h1 => ?_)
  cases k with
  | true => rw [if_pos rfl] at h1 ⊢; exact h1 H1 (Ext.refl _)
  | false => rw [if_neg Bool.false_ne_true] at h1 ⊢; exact r' H0 M0 M H1 σ env Q (g.mono e1) h1
theorem vt_not (h : VT X W a τ) : VT X W (.UnaryOp .Not a pos) (notT τ) := by
  obtain ⟨t, p, r⟩ := h
  refine ⟨_, pt_not p, fun H0 M0 M H σ env Q g h => ?_⟩
  exact r H0 M0 M H σ env _ g (PostT.tst h fun k H1 e1 h1 => h1 H1 (Ext.refl _))
def andE (φa φb : Env → Res D) (env : Env) : Res D := (φa env).bind fun d => match d with
  | .bl true => φb env
  | .bl false => .ok (.bl false)
  | _ => .bad
def orE (φa φb : Env → Res D) (env : Env) : Res D := (φa env).bind fun d => match d with
  | .bl true => .ok (.bl true)
  | .bl false => φb env
  | _ => .bad
def notE (φ : Env → Res D) (env : Env) : Res D := (φ env).bind notD
theorem ve_one {op} (h : VE X W fl a φ) : VE X W fl (.BoolOp op [a] pos) φ := by
  obtain ⟨t, p, r⟩ := h
  exact ⟨t, pe_one p, r⟩
theorem ve_and (ha : VE X W fla a φa) (hb : VE X W fl (.BoolOp .And (b :: rest) pos) φb) : VE X W fl (.BoolOp .And (a :: b :: rest) pos) (andE φa φb) := by
  obtain ⟨t, p, r⟩ := ha
  obtain ⟨t', p', r'⟩ := hb
  refine ⟨_, pe_and p p', fun H0 M0 M H σ env Q g h => ?_⟩
  refine r H0 M0 M H σ env _ g (PostE.seq h fun d v H1 e1 r1 h1 => ?_)
  cases d with
  | bl k =>
    cases r1
    refine ⟨k, rfl, ?_⟩
    cases k with
    | true => rw [if_pos rfl]; exact r' H0 M0 M H1 σ env Q (g.mono e1) h1
    | false => rw [if_neg Bool.false_ne_true]; exact h1 _ H1 (Ext.refl _) (.bl false)
  | _ => exact h1.elim
theorem ve_not (h : VE X W fla a φ) : VE X W fl (.UnaryOp .Not a pos) (notE φ) := by
  obtain ⟨t, p, r⟩ := h
  refine ⟨_, pe_not p, fun H0 M0 M H σ env Q g h => ?_⟩
  refine r H0 M0 M H σ env _ g (PostE.seq h fun d v H1 e1 r1 h1 => ?_)
  cases d with
  | bl k => cases r1; exact ⟨k, rfl, h1 _ H1 (Ext.refl _) (.bl _)⟩
  | _ => exact h1.elim
def ifE (τ : Env → Res Bool) (φa φb : Env → Res D) (env : Env) : Res D := (τ env).bind fun b => if b = true then φa env else φb env
end
end VL

set_option maxRecDepth 100000
set_option maxHeartbeats 2000000
namespace VL
open PySem L2

theorem eqK_key {k : D} {key : Key} (h : keyOf k = some key) (a : Key) : eqK (keyD a) k = decide (a = key) := by
  cases k <;> first | (cases h; done) | skip
  case int j =>
    cases h
    cases a with
    | inl i => show (i == j) = _; rw [← key_ll i j]
    | inr x => exact (decide_eq_false (fun q => by cases q)).symm
  case str s =>
    cases h
    cases a with
    | inl i => exact (decide_eq_false (fun q => by cases q)).symm
    | inr x =>
      show (x == s) = _
      rw [key_rr]
      by_cases e : x = s
      · subst e; simp
      · rw [decide_eq_false e]; simpa using e
theorem eqKs_keys : ∀ {ds : List D} {ks : List Key}, keysOf ds = some ks → ∀ as : List Key, eqKs (as.map keyD) ds = decide (as = ks)
  | [], _, h, as => by
    cases h
    cases as with
    | nil => rfl
    | cons a r => exact (decide_eq_false (fun q => by cases q)).symm
  | d :: ds, _, h, as => by
    unfold keysOf at h
    cases h1 : keyOf d with
    | none => rw [h1] at h; cases h
    | some k =>
      cases h2 : keysOf ds with
      | none => rw [h1, h2] at h; cases h
      | some ks =>
        rw [h1, h2] at h
        cases h
        cases as with
        | nil => exact (decide_eq_false (fun q => by cases q)).symm
        | cons a r =>
          show (eqK (keyD a) d && eqKs (r.map keyD) ds) = _
          rw [eqK_key h1, eqKs_keys h2]
          by_cases e1 : a = k
          · by_cases e2 : r = ks
            · subst e1; subst e2; simp
            · rw [decide_eq_true e1, decide_eq_false e2, decide_eq_false (fun q => e2 (List.cons.inj q).2)]; rfl
          · rw [decide_eq_false e1, decide_eq_false (fun q => e1 (List.cons.inj q).1)]; rfl
theorem look_of {κ : Type} [DecidableEq κ] {mg : Gm} {G : Vw} {f : κ → D} {k : D} {key : κ} (hk : ∀ a, eqK (f a) k = decide (a = key)) : ∀ {es : List (D × D)} {kvs : List (κ × V)}, es.map (·.1) = kvs.map (fun p => f p.1) → RpL mg G (es.map (·.2)) (kvs.map (·.2)) →
    match lookD es k with
    | some d => ∃ v, valV kvs key = some v ∧ Rp mg G d v
    | none => valV kvs key = none
  | [], [], _, _ => rfl
  | [], _ :: _, e, _ => by cases e
  | _ :: _, [], e, _ => by cases e
  | p :: es, q :: kvs, e, r => by
    rw [List.map_cons, List.map_cons] at e
    obtain ⟨e1, e2⟩ := List.cons.inj e
    have r' : RpL mg G (p.2 :: es.map (·.2)) (q.2 :: kvs.map (·.2)) := r
    cases r' with
    | cons r1 r2 =>
      have ih := look_of hk e2 r2
      by_cases c : q.1 = key
      · have h1 : lookD (p :: es) k = some p.2 := by
          unfold lookD
          rw [List.find?_cons_of_pos (by show eqK p.1 k = true; rw [e1, hk, decide_eq_true c])]
          rfl
        rw [h1]
        exact ⟨q.2, valV_pos c, r1⟩
      · have h1 : lookD (p :: es) k = lookD es k := by
          unfold lookD
          rw [List.find?_cons_of_neg (by show ¬ eqK p.1 k = true; rw [e1, hk, decide_eq_false c]; exact Bool.false_ne_true)]
        rw [h1, valV_neg c]
        exact ih
def keyFit (t : Nat) (k : D) : Bool := match t, k with
  | 0, k => (keyOf k).isSome
  | 1, .tup ds => (keysOf ds).isSome
  | _, _ => false
theorem rp_key {mg : Gm} {G : Vw} {k : D} {key : Key} {v : V} (r : Rp mg G k v) (h : keyOf k = some key) : v = kV key := by
  cases r <;> first | (cases h; done) | skip
  all_goals (cases h; rfl)
theorem rp_keys {mg : Gm} {G : Vw} : ∀ {ds : List D} {ks : List Key} {xs : List V}, RpL mg G ds xs → keysOf ds = some ks → xs = ks.map kV
  | [], _, _, .nil, h => by cases h; rfl
  | d :: ds, _, _, .cons r t, h => by
    unfold keysOf at h
    cases h1 : keyOf d with
    | none => rw [h1] at h; cases h
    | some k =>
      cases h2 : keysOf ds with
      | none => rw [h1, h2] at h; cases h
      | some ks =>
        rw [h1, h2] at h
        cases h
        rw [rp_key r h1, rp_keys t h2]
        rfl
def Got (mg : Gm) (G : Vw) (H : Hp) (a : Addr) (y : V) : Option D → Prop
  | some d => ∃ v, DGet H a y (some v) ∧ Rp mg G d v
  | none => DGet H a y none
theorem gotK {mg : Gm} {H : Hp} {G : Vw} {es : List (D × D)} {kvs : List (Key × V)} {a : Addr} {k : D} {y : V} (h : Rd H a (.dK kvs)) (e : es.map (·.1) = kvs.map (fun p => keyD p.1)) (r : RpL mg G (es.map (·.2)) (kvs.map (·.2)))
    (rk : Rp mg (vw H) k y) (hf : keyFit 0 k = true) : Got mg G H a y (lookD es k) := by
  cases q : keyOf k with
  | none => rw [show keyFit 0 k = (keyOf k).isSome by cases k <;> rfl, q] at hf; cases hf
  | some key =>
    have hl := look_of (eqK_key q) e r
    rw [rp_key rk q]
    cases z : lookD es k with
    | none => rw [z] at hl; exact .inl ⟨_, key, h, rfl, hl.symm⟩
    | some d =>
      rw [z] at hl
      obtain ⟨v, e1, e2⟩ := hl
      exact ⟨v, .inl ⟨_, key, h, rfl, e1.symm⟩, e2⟩
theorem gotT {mg : Gm} {H : Hp} {G : Vw} {es : List (D × D)} {kvs : List (List Key × V)} {a : Addr} {k : D} {y : V} (h : Rd H a (.dT kvs)) (e : es.map (·.1) = kvs.map (fun p => .tup (p.1.map keyD))) (r : RpL mg G (es.map (·.2)) (kvs.map (·.2)))
    (rk : Rp mg (vw H) k y) (hf : keyFit 1 k = true) : Got mg G H a y (lookD es k) := by
  cases k with
  | tup ds =>
    cases q : keysOf ds with
    | none =>
      have : keyFit 1 (.tup ds) = (keysOf ds).isSome := rfl
      rw [this, q] at hf; cases hf
    | some ks =>
      have hk : ∀ b : List Key, eqK (.tup (b.map keyD)) (.tup ds) = decide (b = ks) := fun b => by
        have : eqK (.tup (b.map keyD)) (.tup ds) = eqKs (b.map keyD) ds := by rw [eqK]
        rw [this]; exact eqKs_keys q b
      have hl := look_of hk e r
      cases rk with
      | tup hb rb =>
        have ex := rp_keys rb q
        subst ex
        cases z : lookD es (.tup ds) with
        | none => rw [z] at hl; exact .inr ⟨_, ks, _, h, rfl, vw_tup hb, hl.symm⟩
        | some d =>
          rw [z] at hl
          obtain ⟨v, e1, e2⟩ := hl
          exact ⟨v, .inr ⟨_, ks, _, h, rfl, vw_tup hb, e1.symm⟩, e2⟩
  | _ => cases hf
theorem dget_of {mg : Gm} {H : Hp} {G : Vw} {t : Nat} {es : List (D × D)} {a : Addr} {k : D} {y : V} (le : VEx G (vw H)) (rd : Rp mg G (.dic t es) (.ref a)) (rk : Rp mg (vw H) k y) (hf : keyFit t k = true) : Got mg G H a y (lookD es k) := by
  cases rd with
  | dicK h e r => exact gotK (vw_dK (le _ _ h)) e r rk hf
  | dicT h e r => exact gotT (vw_dT (le _ _ h)) e r rk hf
  | dicN h n e r => cases k <;> cases hf
theorem dget_ow {mg : Gm} {H : Hp} {M : Addr → Bool} {es : List (D × D)} {a : Addr} {k : D} {y : V} (rk : Rp mg (vw H) k y) : ∀ {t : Nat}, OwOk mg M H a (.dic t es) → keyFit t k = true → Got mg (Sh M (vw H)) H a y (lookD es k)
  | 0, ⟨kvs, h, e, r⟩, hf => gotK (.of h) e r rk hf
  | 1, ⟨kvs, h, e, r⟩, hf => gotT (.of h) e r rk hf
  | 2, _, hf => by cases k <;> cases hf
  | _ + 3, h, _ => h.elim

def seqGet (ds : List D) (i : Int) : Res D := match atI ds i with
  | some d => .ok d
  | none => .bad
def strGet (z : Str) (i : Int) : Res D := if z.length ≤ sizeLine then (match atI z.cps.toList i with | some c => .ok (.str ⟨#[c]⟩) | none => .bad) else .bad
def getD : D → D → Res D
  | .lst ds, .int i => seqGet ds i
  | .scr ns, .int i => seqGet (ns.map .int) i
  | .tup ds, .int i => seqGet ds i
  | .str z, .int i => strGet z i
  | .dic t es, k => if keyFit t k = true then (match lookD es k with | some d => .ok d | none => .bad) else .bad
  | _, _ => .bad
theorem atI_rp {mg : Gm} {G : Vw} {ds : List D} {vs : List V} {i : Int} {d : D} (r : RpL mg G ds vs) (h : atI ds i = some d) : ∃ v, atI vs i = some v ∧ Rp mg G d v := by
  unfold atI at h ⊢
  rw [r.length] at h
  cases q : ixN vs.length i with
  | none => rw [q] at h; cases h
  | some j => rw [q] at h; exact r.get h
theorem rpl_ints {mg : Gm} {G : Vw} : ∀ ns : List Int, RpL mg G (ns.map D.int) (ns.map V.int)
  | [] => .nil
  | n :: ns => .cons (.int n) (rpl_ints ns)
theorem pe_or {X : Cx} {e : Expr} {t u : TE} (h1 : PE X e t) (h2 : PE X e u) : PE X e (fun σ H Q => t σ H Q ∨ u σ H Q) :=
  ⟨fun pins s σ H Q I h => h.elim (h1.run pins s σ H Q I) (h2.run pins s σ H Q I)⟩
def isDic : D → Bool
  | .dic _ _ => true
  | _ => false
section
variable {X : Cx} {W : WX} {fl fla flb flc : Bool} {e a b c : Expr} {es : List Expr} {pos : Pos} {φ φa φb φc : Env → Res D}
theorem seq_read {M : Addr → Bool} {H : Hp} {σ : L2.St} {Q : VK} {d k : D} {v w : V} (nd : isDic d = false) (rd : Rp (gm X) (vis fl M (vw H)) d v) (rk : Rp (gm X) (vis flb M (vw H)) k w) (h : PostE X W fl M σ H Q (getD d k)) : rIx X.K v w H Q := by
  cases rd <;> first | (cases nd; done) | skip
  all_goals (cases rk <;> first | exact h.elim | skip)
  case str.int z i =>
    obtain ⟨hs, h⟩ := PostE.ite h
    cases q : atI z.cps.toList i with
    | none => rw [q] at h; exact h.elim
    | some c => rw [q] at h; exact .inr (.inr ⟨z, i, c, rfl, rfl, hs, q, h _ H (Ext.refl H) (.str _)⟩)
  case scr.int a ns ha i =>
    have h' : PostE X W fl M σ H Q (seqGet (ns.map .int) i) := h
    unfold seqGet at h'
    cases q : atI (ns.map D.int) i with
    | none => rw [q] at h'; exact h'.elim
    | some d =>
      rw [q] at h'
      obtain ⟨v, q1, r1⟩ := atI_rp (mg := gm X) (G := vis fl M (vw H)) (rpl_ints ns) q
      exact .inl ⟨a, _, i, v, rfl, rfl, (ha.mono (vis_le fl M _)).sq, q1, h' _ H (Ext.refl H) r1⟩
  case tup.int a xs ds ha ra i =>
    have h' : PostE X W fl M σ H Q (seqGet ds i) := h
    unfold seqGet at h'
    cases q : atI ds i with
    | none => rw [q] at h'; exact h'.elim
    | some d =>
      rw [q] at h'
      obtain ⟨v, q1, r1⟩ := atI_rp ra q
      exact .inr (.inl ⟨a, xs, i, v, rfl, rfl, .inl (.inl (vw_tup (vis_get ha))), q1, h' _ H (Ext.refl H) r1⟩)
  case lst.int a xs ds ha ra i =>
    have h' : PostE X W fl M σ H Q (seqGet ds i) := h
    unfold seqGet at h'
    cases q : atI ds i with
    | none => rw [q] at h'; exact h'.elim
    | some d =>
      rw [q] at h'
      obtain ⟨v, q1, r1⟩ := atI_rp ra q
      exact .inl ⟨a, xs, i, v, rfl, rfl, .inl (vw_lst (vis_get ha)), q1, h' _ H (Ext.refl H) r1⟩
theorem dic_read {M : Addr → Bool} {H : Hp} {σ : L2.St} {Q : VK} {t : Nat} {es : List (D × D)} {k : D} {v w : V} (rd : Rp (gm X) (vis fl M (vw H)) (.dic t es) v) (rk : Rp (gm X) (vis flb M (vw H)) k w) (h : PostE X W fl M σ H Q (getD (.dic t es) k)) :
    ∃ a x, v = .ref a ∧ DGet H a w (some x) ∧ Q x H := by
  have e1 : getD (.dic t es) k = if keyFit t k = true then (match lookD es k with | some d => .ok d | none => .bad) else .bad := by cases k <;> rfl
  rw [e1] at h
  obtain ⟨hs, h⟩ := PostE.ite h
  have hr : ∃ a, v = .ref a := by cases rd <;> exact ⟨_, rfl⟩
  obtain ⟨a, rfl⟩ := hr
  have hl := dget_of (vis_le fl M (vw H)) rd (rk.mono (vis_le flb M _)) hs
  cases q : lookD es k with
  | none => rw [q] at h; exact h.elim
  | some d =>
    rw [q] at h hl
    obtain ⟨x, g, r⟩ := hl
    exact ⟨a, x, rfl, g, h x H (Ext.refl H) r⟩
theorem ve_ix (hu : X.A.units + 1 < cLine) (ha : VE X W fl a φa) (hb : VE X W flb b φb) (hs : PlainIx b := by exact fun _ _ => rfl) (hs2 : NoSl b := by exact fun _ _ => rfl) : VE X W fl (.Subscript a b pos) (op2 getD φa φb) := by
  obtain ⟨ta, pa, ra⟩ := ha
  obtain ⟨tb, pb, rb⟩ := hb
  refine ⟨_, pe_or (pe_ix ix_seq pa pb hs) (pe_dget hu pa pb hs2), fun H0 M0 M H σ env Q g h => ?_⟩
  by_cases hd : ∃ t es, φa env = .ok (.dic t es)
  · obtain ⟨t, es, hd⟩ := hd
    refine .inr ?_
    have h' : PostE X W fl M σ H Q ((Res.ok (.dic t es)).bind fun d => (φb env).bind fun e => getD d e) := by
      have : op2 getD φa φb env = (φa env).bind fun d => (φb env).bind fun e => getD d e := rfl
      rw [this, hd] at h; exact h
    refine ra H0 M0 M H σ env _ g ?_
    rw [hd]
    intro v H1 e1 r1
    refine rb H0 M0 M H1 σ env _ (g.mono e1) (PostE.seq (PostE.mono h' e1) fun d2 v2 H2 e2 r2 h2 => ?_)
    exact dic_read (r1.mono (vis_mono e2.v)) r2 h2
  · refine .inl ?_
    have h0 : PostE X W fl M σ H Q ((φa env).bind fun d => (φb env).bind fun e => getD d e) := h
    refine ra H0 M0 M H σ env _ g ?_
    cases q : φa env with
    | ok d =>
      rw [q] at h0
      intro v H1 e1 r1
      refine rb H0 M0 M H1 σ env _ (g.mono e1) (PostE.seq (PostE.mono h0 e1) fun d2 v2 H2 e2 r2 h2 => ?_)
      refine seq_read ?_ (r1.mono (vis_mono e2.v)) r2 h2
      cases d <;> first | rfl | exact absurd ⟨_, _, q⟩ hd
    | exc c fs => rw [q] at h0; exact h0
    | bad => rw [q] at h0; exact h0
def cutD (xs : List D) (lo hi : Option Int) : List D := (xs.drop (HT.sIx xs.length 0 lo)).take (HT.sIx xs.length xs.length hi - HT.sIx xs.length 0 lo)
def sliceD : D → Option Int → Option Int → Res D
  | .str z, lo, hi => if z.length ≤ sizeLine then .ok (.str (cutS z lo hi)) else .bad
  | .tup xs, lo, hi => .ok (.tup (cutD xs lo hi))
  | .lst xs, lo, hi => .ok (.lst (cutD xs lo hi))
  | _, _, _ => .bad
def VO (X : Cx) (W : WX) (e : Option Expr) (φ : Env → Res (Option Int)) : Prop :=
  ∃ t : TO, PO X e t ∧ ∀ (H0 : Hp) (M0 M : Addr → Bool) (H : Hp) (σ : L2.St) (env : Env) (Q : Option Int → Hp → Prop), Good (gm X) H0 M0 M H σ env → PostT X W M σ H Q (φ env) → t σ H Q
def noO (_ : Env) : Res (Option Int) := .ok none
def toI : D → Res (Option Int)
  | .int i => .ok (some i)
  | _ => .bad
def someO (φ : Env → Res D) (env : Env) : Res (Option Int) := (φ env).bind toI
theorem vo_none : VO X W none noO := ⟨_, po_none, fun H0 M0 M H σ env Q g h => h H (Ext.refl H)⟩
theorem vo_some (h : VE X W fl e φ) : VO X W (some e) (someO φ) := by
  obtain ⟨t, p, r⟩ := h
  refine ⟨_, po_some p, fun H0 M0 M H σ env Q g h => ?_⟩
  refine r H0 M0 M H σ env _ g (PostT.seq h fun d v H1 e1 r1 h1 => ?_)
  cases d with
  | int i => cases r1; exact ⟨i, rfl, h1 H1 (Ext.refl _)⟩
  | _ => exact h1.elim
def slE (φ : Env → Res D) (ml mh : Env → Res (Option Int)) (env : Env) : Res D := (φ env).bind fun d => (ml env).bind fun l => (mh env).bind fun u => sliceD d l u
theorem cutD_rp {mg : Gm} {G : Vw} {ds : List D} {vs : List V} (r : RpL mg G ds vs) (lo hi : Option Int) : RpL mg G (cutD ds lo hi) (cutV vs lo hi) := by
  unfold cutD cutV
  rw [r.length]
  exact (r.drop _).take _
theorem cutV_whole {xs : List V} {lo hi : Option Int} (h : HT.sIx xs.length 0 lo = 0 ∧ HT.sIx xs.length xs.length hi = xs.length) : cutV xs lo hi = xs := by
  unfold cutV
  rw [h.1, h.2]
  simp
theorem ve_sl {lo hi : Option Expr} {p2 : Pos} {ml mh : Env → Res (Option Int)} (he : VE X W fl e φ) (hl : VO X W lo ml) (hh : VO X W hi mh) : VE X W fl (.Subscript e (.Slice lo hi none p2) pos) (slE φ ml mh) := by
  obtain ⟨t, p, r⟩ := he
  obtain ⟨tl, pl, rl⟩ := hl
  obtain ⟨th, ph, rh⟩ := hh
  refine ⟨_, pe_slice (sl_str.or (sl_tupA.or sl_list)) p pl ph, fun H0 M0 M H σ env Q g h => ?_⟩
  refine r H0 M0 M H σ env _ g (PostE.seq h fun d v H1 e1 r1 h1 => ?_)
  refine rl H0 M0 M H1 σ env _ (g.mono e1) (PostE.tst h1 fun l H2 e2 h2 => ?_)
  refine rh H0 M0 M H2 σ env _ ((g.mono e1).mono e2) (PostE.tst h2 fun u H3 e3 h3 => ?_)
  have m := ((g.ok.mono e1).mono e2).mono e3
  have r3 := r1.mono (vis_mono (e2.trans e3).v)
  cases r3 <;> first | exact h3.elim | skip
  case str z =>
    obtain ⟨hs, h3⟩ := PostE.ite h3
    exact .inl ⟨z, rfl, hs, h3 _ H3 (Ext.refl _) (.str _)⟩
  case tup a xs ds ha ra =>
    refine .inr (.inl ⟨a, xs, rfl, .inl (.inl (vw_tup (vis_get ha))), fun hw => ?_, fun _ q hq => ?_⟩)
    · refine h3 _ H3 (Ext.refl _) (.tup ha ?_)
      have := cutD_rp ra l u
      rw [cutV_whole hw] at this
      exact this
    · exact h3 _ _ (Ext.new hq) (rp_newT m hq (cutD_rp ra l u))
  case lst a xs ds ha ra =>
    exact .inr (.inr ⟨a, xs, rfl, .inl (vw_lst (vis_get ha)), fun q hq => h3 _ _ (Ext.new hq) (rp_newL m hq (cutD_rp ra l u))⟩)
theorem ve_ixo (i : Nat) {x : Str} {p : Pos} (hu : X.A.units + 1 < cLine) (hb : VE X W flb b φb) (hs : PlainIx b := by exact fun _ _ => rfl) (hs2 : NoSl b := by exact fun _ _ => rfl)
    (hN : X.N[i]? = some x := by rfl) (hv : Vis X.env.scope x := by first | exact Or.inl rfl | exact Or.inr (Or.inl rfl) | exact Or.inr (Or.inr rfl)) (hd : (x == ("__debug__" : Str)) = false := by decide)
    (hcd : (x == ("__classdict__" : Str)) = false := by decide) : VE X W fl (.Subscript (.Name x p) b pos) (op2 getD (getB i) φb) := by
  obtain ⟨tb, pb, rb⟩ := hb
  have pa : PE X (.Name x p) (tVar i) := pe_var hN hv hd hcd
  refine ⟨_, pe_or (pe_ix ix_seq pa pb hs) (pe_dget hu pa pb hs2), fun H0 M0 M H σ env Q g h => ?_⟩
  have h0 : PostE X W fl M σ H Q ((getB i env).bind fun d => (φb env).bind fun e => getD d e) := h
  unfold getB at h0
  cases q : env[i]? with
  | none => rw [q] at h0; exact h0.elim
  | some s =>
    rw [q] at h0
    cases s with
    | no => exact h0.elim
    | sh d =>
      obtain ⟨v, e, r⟩ := g.sl i _ q
      by_cases hd : isDic d = true
      · cases d <;> first | (cases hd; done) | skip
        refine .inr ⟨v, e, ?_⟩
        exact rb H0 M0 M H σ env _ g (PostE.seq h0 fun d2 v2 H2 e2 r2 h2 => dic_read ((r.mono (Sh_vis fl M _)).mono (vis_mono e2.v)) r2 h2)
      · refine .inl ⟨v, e, ?_⟩
        exact rb H0 M0 M H σ env _ g (PostE.seq h0 fun d2 v2 H2 e2 r2 h2 => seq_read (by simpa using hd) ((r.mono (Sh_vis fl M _)).mono (vis_mono e2.v)) r2 h2)
    | ow d =>
      obtain ⟨pa', e, mm, m0, r⟩ := g.sl i _ q
      cases d with
      | lst ds =>
        obtain ⟨xs, hx, rx⟩ := r
        refine .inl ⟨_, e, ?_⟩
        refine rb H0 M0 M H σ env _ g (PostE.seq h0 fun d2 v2 H2 e2 r2 h2 => ?_)
        cases r2 <;> first | exact h2.elim | skip
        rename_i j
        have h' : PostE X W fl M σ H2 Q (seqGet ds j) := h2
        unfold seqGet at h'
        cases qj : atI ds j with
        | none => rw [qj] at h'; exact h'.elim
        | some d =>
          rw [qj] at h'
          obtain ⟨v, q1, r1⟩ := atI_rp (rx.mono (Sh_mono e2.v)) qj
          exact .inl ⟨pa', xs, j, v, rfl, rfl, SqL.of (e2 _ _ hx), q1, h' _ H2 (Ext.refl _) (r1.mono (Sh_vis fl M _))⟩
      | dic t es =>
        refine .inr ⟨_, e, ?_⟩
        refine rb H0 M0 M H σ env _ g (PostE.seq h0 fun d2 v2 H2 e2 r2 h2 => ?_)
        have e1 : getD (.dic t es) d2 = if keyFit t d2 = true then (match lookD es d2 with | some d => .ok d | none => .bad) else .bad := by cases d2 <;> rfl
        rw [e1] at h2
        obtain ⟨hs, h2⟩ := PostE.ite h2
        have ow2 := OwOk.mono e2 r
        have hl := dget_ow (r2.mono (vis_le flb M _)) ow2 hs
        cases z : lookD es d2 with
        | none => rw [z] at h2; exact h2.elim
        | some d =>
          rw [z] at h2 hl
          obtain ⟨v, g1, r1⟩ := hl
          exact ⟨pa', v, rfl, g1, h2 v H2 (Ext.refl _) (r1.mono (Sh_vis fl M _))⟩
      | ins c gs =>
        refine .inl ⟨_, e, ?_⟩
        refine rb H0 M0 M H σ env _ g (PostE.seq h0 fun d2 v2 H2 e2 r2 h2 => ?_)
        cases d2 <;> exact h2.elim
      | sel x c gs =>
        refine .inl ⟨_, e, ?_⟩
        refine rb H0 M0 M H σ env _ g (PostE.seq h0 fun d2 v2 H2 e2 r2 h2 => ?_)
        cases d2 <;> exact h2.elim
      | _ => exact r.elim
end
end VL

set_option maxRecDepth 100000
set_option maxHeartbeats 2000000
namespace VL
open PySem L2

def nilA (_ : Env) : Res (List D) := .ok []
def consA (φ : Env → Res D) (φs : Env → Res (List D)) (env : Env) : Res (List D) := (φ env).bind fun d => (φs env).bind fun ds => .ok (d :: ds)
def tupD (ds : List D) : Res D := if ds.length ≤ sizeLine then .ok (.tup ds) else .bad
def lstD (ds : List D) : Res D := if ds.length ≤ sizeLine then .ok (.lst ds) else .bad
def aE (f : List D → Res D) (φs : Env → Res (List D)) (env : Env) : Res D := (φs env).bind f
section
variable {X : Cx} {W : WX} {fl fla flb flc : Bool} {e a b c : Expr} {es : List Expr} {pos : Pos} {φ φa φb φc : Env → Res D} {φs : Env → Res (List D)}
theorem va_nil : VA X W fl [] nilA := ⟨_, pa_nil, fun H0 M0 M H σ env Q g h => h [] H (Ext.refl H) .nil⟩
theorem va_cons (ha : VE X W fl e φ) (hr : VA X W fl es φs) (hs : starEach (e :: es) X.env = (false, eval e X.env) :: starEach es X.env := by rfl) : VA X W fl (e :: es) (consA φ φs) := by
  obtain ⟨t, p, r⟩ := ha
  obtain ⟨t', p', r'⟩ := hr
  refine ⟨_, pa_cons p p' hs, fun H0 M0 M H σ env Q g h => ?_⟩
  refine r H0 M0 M H σ env _ g (PostA.head h fun d v H1 e1 r1 h1 => ?_)
  refine r' H0 M0 M H1 σ env _ (g.mono e1) (PostA.tail h1 fun ds vs H2 e2 r2 h2 => ?_)
  exact h2 _ H2 (Ext.refl _) (.cons (r1.mono (vis_mono e2.v)) r2)
theorem ve_tup {k} (h : VA X W fl es φs) : VE X W fl (.Tuple es k pos) (aE tupD φs) := by
  obtain ⟨t, p, r⟩ := h
  refine ⟨_, pe_tup p, fun H0 M0 M H σ env Q g h => ?_⟩
  refine r H0 M0 M H σ env _ g (PostE.args h fun ds vs H1 e1 r1 h1 => ?_)
  obtain ⟨hs, h1⟩ := PostE.ite h1
  rw [r1.length] at hs
  exact ⟨hs, fun q hq => h1 _ _ (Ext.new hq) (rp_newT (g.ok.mono e1) hq r1)⟩
theorem ve_lst (h : VA X W fl es φs) : VE X W fl (.List es pos) (aE lstD φs) := by
  obtain ⟨t, p, r⟩ := h
  refine ⟨_, pe_lst p, fun H0 M0 M H σ env Q g h => ?_⟩
  refine r H0 M0 M H σ env _ g (PostE.args h fun ds vs H1 e1 r1 h1 => ?_)
  obtain ⟨hs, h1⟩ := PostE.ite h1
  rw [r1.length] at hs
  exact ⟨hs, fun q hq => h1 _ _ (Ext.new hq) (rp_newL (g.ok.mono e1) hq r1)⟩

def CallF (X : Cx) (W : WX) (fla fl : Bool) (r : List V → Hp → VK → Prop) (f : List D → Res D) : Prop :=
  ∀ (M : Addr → Bool) (H : Hp) (σ : L2.St) (Q : VK) (ds : List D) (vs : List V), MOk M H → RpL (gm X) (vis fla M (vw H)) ds vs → PostE X W fl M σ H Q (f ds) → r vs H Q
theorem ve_bi {x : Str} {id : String} {r : List V → Hp → VK → Prop} {f : List D → Res D} {p : Pos} (hc : CallR X (.builtin id) r) (hf : CallF X W fla fl r f) (hm : X.mg x = none) (hv : bootBuiltins x = some (.builtin id)) (ha : VA X W fla (e :: es) φs)
    (hg : Gl X x := by rfl) (hn : x ≠ "__name__" := by decide) (hdb : (x == ("__debug__" : Str)) = false := by decide) (he : starEach (e :: es) X.env = (false, eval e X.env) :: starEach es X.env := by rfl) (hpl : (backTo pos (starEach es X.env)).any (·.1) = false := by rfl) :
    VE X W fl (.Call (.Name x p) (e :: es) [] pos) (aE f φs) := by
  obtain ⟨t, pt, r'⟩ := ha
  refine ⟨_, pe_callB hc hg hm hv pt hn hdb he hpl, fun H0 M0 M H σ env Q g h => ?_⟩
  exact r' H0 M0 M H σ env _ g (PostE.args h fun ds vs H1 e1 r1 h1 => hf M H1 σ Q ds vs (g.ok.mono e1) r1 h1)
theorem ve_ty {x : Str} {T : String} {r : List V → Hp → VK → Prop} {f : List D → Res D} {p : Pos} (hc : CallR X (.type T) r) (hf : CallF X W fla fl r f) (hm : X.mg x = none) (hv : bootBuiltins x = some (.type T)) (ha : VA X W fla (e :: es) φs)
    (hg : Gl X x := by rfl) (hn : x ≠ "__name__" := by decide) (hdb : (x == ("__debug__" : Str)) = false := by decide) (he : starEach (e :: es) X.env = (false, eval e X.env) :: starEach es X.env := by rfl) (hpl : (backTo pos (starEach es X.env)).any (·.1) = false := by rfl) :
    VE X W fl (.Call (.Name x p) (e :: es) [] pos) (aE f φs) := by
  obtain ⟨t, pt, r'⟩ := ha
  refine ⟨_, pe_callTy hc hg hm hv pt hn hdb he hpl, fun H0 M0 M H σ env Q g h => ?_⟩
  exact r' H0 M0 M H σ env _ g (PostE.args h fun ds vs H1 e1 r1 h1 => hf M H1 σ Q ds vs (g.ok.mono e1) r1 h1)
def lenF : List D → Res D
  | [.str s] => if s.length ≤ sizeLine then .ok (.int s.length) else .bad
  | [.lst ds] => .ok (.int ds.length)
  | [.scr ns] => .ok (.int ns.length)
  | [.tup ds] => .ok (.int ds.length)
  | _ => .bad
theorem cf_len : CallF X W fla fl (fun xs H Q => ∃ x n, xs = [x] ∧ LenV X.K x H n ∧ Q (.int n) H) lenF := by
  intro M H σ Q ds vs m r h
  cases r with
  | nil => exact h.elim
  | cons r t =>
    cases t with
    | cons _ _ => cases r <;> exact h.elim
    | nil =>
      cases r <;> first | exact h.elim | skip
      case str s =>
        obtain ⟨hs, h⟩ := PostE.ite h
        exact ⟨_, s.length, rfl, ⟨hs, rfl⟩, h _ H (Ext.refl H) (.int _)⟩
      case scr a ns ha =>
        refine ⟨_, (ns.map V.int).length, rfl, .inl ⟨_, (ha.mono (vis_le fla M _)).sq, rfl⟩, ?_⟩
        have h' := h (.int ns.length) H (Ext.refl H) (.int _)
        rw [List.length_map]
        exact h'
      case tup a xs ds ha ra =>
        refine ⟨_, xs.length, rfl, .inr ⟨xs, .inl (.inl (vw_tup (vis_get ha))), rfl⟩, ?_⟩
        have h' := h (.int ds.length) H (Ext.refl H) (.int _)
        rw [ra.length] at h'
        exact h'
      case lst a xs ds ha ra =>
        refine ⟨_, xs.length, rfl, .inl ⟨xs, .inl (vw_lst (vis_get ha)), rfl⟩, ?_⟩
        have h' := h (.int ds.length) H (Ext.refl H) (.int _)
        rw [ra.length] at h'
        exact h'
def intF : List D → Res D
  | [.int i] => .ok (.int i)
  | [.bl b] => .ok (.int (if b = true then 1 else 0))
  | _ => .bad
theorem cf_int : CallF X W fla fl (fun xs H Q => (∃ i, xs = [.int i] ∧ Q (.int i) H) ∨ ∃ k, xs = [.bl k] ∧ Q (.int (if k then 1 else 0)) H) intF := by
  intro M H σ Q ds vs m r h
  cases r with
  | nil => exact h.elim
  | cons r t =>
    cases t with
    | cons _ _ => cases r <;> exact h.elim
    | nil =>
      cases r <;> first | exact h.elim | skip
      · exact .inr ⟨_, rfl, h _ H (Ext.refl H) (.int _)⟩
      · exact .inl ⟨_, rfl, h _ H (Ext.refl H) (.int _)⟩
def listF : List D → Res D
  | [.lst ds] => .ok (.lst ds)
  | [.tup ds] => .ok (.lst ds)
  | _ => .bad
theorem cf_list : CallF X W fl fl (fun xs H Q => ∃ p ys, xs = [.ref p] ∧ (SqL X.K H p ys ∨ SqT X.K H p ys) ∧ ∀ l, H l = none → Q (.ref l) (upd H l (.lst ys))) listF := by
  intro M H σ Q ds vs m r h
  cases r with
  | nil => exact h.elim
  | cons r t =>
    cases t with
    | cons _ _ => cases r <;> exact h.elim
    | nil =>
      cases r <;> first | exact h.elim | skip
      case tup a xs ds ha ra => exact ⟨a, xs, rfl, .inr (.inl (.inl (vw_tup (vis_get ha)))), fun l hl => h _ _ (Ext.new hl) (rp_newL m hl ra)⟩
      case lst a xs ds ha ra => exact ⟨a, xs, rfl, .inl (.inl (vw_lst (vis_get ha))), fun l hl => h _ _ (Ext.new hl) (rp_newL m hl ra)⟩
def tyName : D → Option String
  | .non => some "NoneType"
  | .bl _ => some "bool"
  | .int _ => some "int"
  | .str _ => some "str"
  | .tup _ => some "tuple"
  | .lst _ => some "list"
  | .dic 0 _ => some "dict"
  | _ => none
def isT (T : String) (d : D) : Res D := match tyName d with
  | some S => (match kitB S T with | some b => .ok (.bl b) | none => .bad)
  | none => .bad
theorem ty_of {H : Hp} {d : D} {v : V} {S : String} (r : Rp (gm X) (vw H) d v) (h : tyName d = some S) : TyX X.K H v (.type S) := by
  cases r <;> first | (cases h; done) | skip
  case non => cases h; exact .base .non
  case bl b => cases h; exact .base (.bl b)
  case int b => cases h; exact .base (.int b)
  case str b => cases h; exact .base (.str b)
  case tup a xs ds ha ra => cases h; exact .base (.tup (vw_tup ha))
  case lst a xs ds ha ra =>
    cases h
    rcases vw_lst ha with q | ⟨o, q⟩
    · exact .base (.lst q)
    · exact .base (.frz q)
  case dicK a kvs es ha e ra =>
    cases h
    rcases vw_dK ha with q | ⟨o, q⟩
    · exact .base (.dK q)
    · exact .fDict q
def isTE (T : String) (φ : Env → Res D) (env : Env) : Res D := (φ env).bind (isT T)
theorem ve_isT {T : String} {x : Str} {xi p : Pos} (h : VE X W fla e φ) (hmi : X.mg "isinstance" = none) (hm : X.mg x = none) (hv : bootBuiltins x = some (.type T)) (hgi : Gl X "isinstance" := by rfl) (hg : Gl X x := by rfl)
    (hn : x ≠ "__name__" := by decide) (hd : (x == ("__debug__" : Str)) = false := by decide) (hs : starEach (e :: [.Name x p]) X.env = (false, eval e X.env) :: starEach [.Name x p] X.env := by rfl)
    (hs2 : starEach ((.Name x p) :: []) X.env = (false, eval (.Name x p) X.env) :: starEach [] X.env := by rfl) (hpl : (backTo pos (starEach [.Name x p] X.env)).any (·.1) = false := by rfl) :
    VE X W fl (.Call (.Name "isinstance" xi) [e, .Name x p] [] pos) (isTE T φ) := by
  obtain ⟨t, pt, r⟩ := h
  refine ⟨_, pe_callB call_isi hgi hmi (by decide +kernel) (pa_cons pt (pa_cons (pe_bltn (v := .ty T) hg hm hv rfl hn hd) pa_nil hs2) hs) (by decide) (by decide) hs hpl, fun H0 M0 M H σ env Q g h => ?_⟩
  refine r H0 M0 M H σ env _ g (PostE.seq h fun d v H1 e1 r1 h1 => ?_)
  unfold isT at h1
  cases q : tyName d with
  | none => rw [q] at h1; exact h1.elim
  | some S =>
    rw [q] at h1
    cases z : kitB S T with
    | none =>
      have h2 : PostE X W fl M σ H1 Q (match kitB S T with | some b => .ok (.bl b) | none => .bad) := h1
      rw [z] at h2; exact h2.elim
    | some b =>
      have h2 : PostE X W fl M σ H1 Q (match kitB S T with | some b => .ok (.bl b) | none => .bad) := h1
      rw [z] at h2
      exact ⟨v, .ty T, .type S, .type T, b, rfl, .ty T, ty_of (r1.mono (vis_le fla M _)) q, kit_ty z, h2 _ H1 (Ext.refl _) (.bl b)⟩
end

def PostF (mg : Gm) (M : Addr → Bool) (H : Hp) (Q : VK) (E : XK) : Res D → Prop
  | .ok d => ∀ v H', Ext H H' → Rp mg (Sh M (vw H')) d v → Q v H'
  | .exc c fs => ∀ cls dd H', Ext H H' → RpX mg (Sh M (vw H')) c fs cls dd → E cls dd H'
  | .bad => False
def spV (mg : Gm) (n : Nat) (F : List D → Res D) : Sp := fun vs H Q E => vs.length = n ∧ ∃ (M : Addr → Bool) (ds : List D), MOk M H ∧ RpL mg (Sh M (vw H)) ds vs ∧ PostF mg M H Q E (F ds)
def immuts (fs : List (Str × D)) : Bool := fs.all fun p => immut p.2
def guardX : Res D → Res D
  | .exc c fs => if immuts fs = true then .exc c fs else .bad
  | r => r
theorem rpl_imm {mg : Gm} {G G' : Vw} (e : ∀ a xs, G a = some (.tup xs) → G' a = some (.tup xs)) : ∀ {fs : List (Str × D)} {vs : List V}, RpL mg G (fs.map (·.2)) vs → immuts fs = true → RpL mg G' (fs.map (·.2)) vs
  | [], _, .nil, _ => .nil
  | p :: fs, _, .cons r t, h => by
    obtain ⟨h1, h2⟩ := Bool.and_eq_true_iff.mp (show (immut p.2 && immuts fs) = true from h)
    exact .cons (r.imm e h1) (rpl_imm e t h2)
section
variable {X : Cx} {W : WX} {fl fla flb flc : Bool} {e a b c : Expr} {es : List Expr} {pos : Pos} {φ φa φb φc : Env → Res D} {φs : Env → Res (List D)}
variable {k n : Nat} {f : Addr} {fd : FuncData} {ps : List Str} {F : List D → Res D} {x : Str} {p : Pos}
theorem ve_call (tk : L2N.Takes X W) (hF : FnOk X.prog X.w X.K X.mg X.base (L2N.CX X.prog X.w) k f fd ps (spV (gm X) n F)) (hr : Room k X.A) (hm : X.mg x = some (.ref f)) (hk : PySem.W.keepIn X.K (.ref f) = true) (hb : Binds X.K fd ps [])
    (ha : VA X W true (e :: es) φs) (hn : (e :: es).length = n) (hl : ∀ env ds, φs env = .ok ds → ds.length = n) (hg : Gl X x := by rfl) (hdb : (x == ("__debug__" : Str)) = false := by decide)
    (he : starEach (e :: es) X.env = (false, eval e X.env) :: starEach es X.env := by rfl) (hpl : (backTo pos (starEach es X.env)).any (·.1) = false := by rfl) : VE X W fl (.Call (.Name x p) (e :: es) [] pos) (aE F φs) := by
  obtain ⟨t, pt, r⟩ := ha
  refine ⟨_, pe_callS hF hr hg hm hk hb (fun σ => L2N.passAt tk σ) pt hdb he hpl, fun H0 M0 M H σ env Q g h => ?_⟩
  have h0 : PostE X W fl M σ H Q ((φs env).bind F) := h
  refine r H0 M0 M H σ env _ g ?_
  cases q : φs env with
  | ok ds =>
    rw [q] at h0
    intro vs H1 e1 r1
    refine ⟨(r1.length.symm).trans (hl env ds q), M, ds, g.ok.mono e1, r1, ?_⟩
    have h1 : PostE X W fl M σ H1 Q (F ds) := PostE.mono h0 e1
    cases z : F ds with
    | ok d => rw [z] at h1; exact fun v H2 e2 r2 => h1 v H2 e2 (r2.mono (Sh_vis fl M _))
    | exc c fs => rw [z] at h1; exact fun cls dd H2 e2 r2 => h1 cls dd H2 e2 r2
    | bad => rw [z] at h1; exact h1
  | exc c fs => rw [q] at h0; exact h0
  | bad => rw [q] at h0; exact h0
theorem ve_callb (tk : L2N.Takes X W) (hF : FnOk X.prog X.w X.K X.mg X.base (L2N.CX X.prog X.w) k f fd ps (spV (gm X) n F)) (hr : Room k X.A) (hm : X.mg x = some (.ref f)) (hk : PySem.W.keepIn X.K (.ref f) = true) (hb : Binds X.K fd ps [])
    (ha : VA X W false (e :: es) φs) (hn : (e :: es).length = n) (hl : ∀ env ds, φs env = .ok ds → ds.length = n) (hg : Gl X x := by rfl) (hdb : (x == ("__debug__" : Str)) = false := by decide)
    (he : starEach (e :: es) X.env = (false, eval e X.env) :: starEach es X.env := by rfl) (hpl : (backTo pos (starEach es X.env)).any (·.1) = false := by rfl) : VE X W false (.Call (.Name x p) (e :: es) [] pos) (aE (fun ds => guardX (F ds)) φs) := by
  obtain ⟨t, pt, r⟩ := ha
  refine ⟨_, pe_callS hF hr hg hm hk hb (fun σ => L2N.passAt tk σ) pt hdb he hpl, fun H0 M0 M H σ env Q g h => ?_⟩
  have h0 : PostE X W false M σ H Q ((φs env).bind fun ds => guardX (F ds)) := h
  refine r H0 M0 M H σ env _ g ?_
  cases q : φs env with
  | ok ds =>
    rw [q] at h0
    intro vs H1 e1 r1
    refine ⟨(r1.length.symm).trans (hl env ds q), fun _ => false, ds, MOk.empty, r1.mono (fun a u hu => by rw [Sh_of rfl]; exact hu), ?_⟩
    have h1 : PostE X W false M σ H1 Q (guardX (F ds)) := PostE.mono h0 e1
    cases z : F ds with
    | ok d => rw [z] at h1; exact fun v H2 e2 r2 => h1 v H2 e2 (r2.mono (Sh_le _ _))
    | exc c fs =>
      rw [z] at h1
      obtain ⟨hi, h1⟩ := PostE.ite (c := immuts fs = true) (r := .exc c fs) h1
      intro cls dd H2 e2 r2
      refine h1 cls dd H2 e2 ?_
      obtain ⟨q1, q2 | ⟨d, vs', q2, q3, q4, q5⟩⟩ := r2
      · exact ⟨q1, .inl q2⟩
      · refine ⟨q1, .inr ⟨d, vs', q2, ?_, q4, rpl_imm (fun a xs hx => ?_) q5 hi⟩⟩
        · rw [Sh_of]
          · exact (Sh_some q3).2
          · cases mm : M d with
            | false => rfl
            | true => exact absurd (vw_xd (Sh_some q3).2) (((g.ok.mono e1).mono e2).xd d vs' mm)
        · rw [Sh_of]
          · exact (Sh_some hx).2
          · cases mm : M a with
            | false => rfl
            | true => exact absurd (vw_tup (Sh_some hx).2) (((g.ok.mono e1).mono e2).tup a xs mm)
    | bad => rw [z] at h1; exact h1
  | exc c fs => rw [q] at h0; exact h0
  | bad => rw [q] at h0; exact h0
end
end VL

set_option maxRecDepth 100000
set_option maxHeartbeats 2000000
namespace VL
open PySem L2

inductive SRes where
  | nx (env : Env) | rt (d : D) | bk (env : Env) | ct (env : Env) | xc (c : Str) (fs : List (Str × D)) (env : Env) | bad | ro (d : D)
def addM (M : Addr → Bool) (p : Addr) : Addr → Bool := fun a => M a || decide (a = p)
def PostS (X : Cx) (W : WX) (H0 : Hp) (M0 M : Addr → Bool) (H : Hp) (D : Ends) : SRes → Prop
  | .nx env => ∀ M' H' σ', Good (gm X) H0 M0 M' H' σ' env → VEx (Sh M (vw H)) (Sh M' (vw H')) → D.nx σ' H'
  | .bk env => ∀ M' H' σ', Good (gm X) H0 M0 M' H' σ' env → VEx (Sh M (vw H)) (Sh M' (vw H')) → D.bk σ' H'
  | .ct env => ∀ M' H' σ', Good (gm X) H0 M0 M' H' σ' env → VEx (Sh M (vw H)) (Sh M' (vw H')) → D.ct σ' H'
  | .rt d => ∀ v H', Ext H0 H' → Rp (gm X) (Sh M0 (vw H')) d v → D.rt v H'
  | .xc c fs env => ∀ M' H' σ' cls dd, Good (gm X) H0 M0 M' H' σ' env → VEx (Sh M (vw H)) (Sh M' (vw H')) → RpX (gm X) (Sh M' (vw H')) c fs cls dd → W cls dd σ' H'
  | .bad => False
  | .ro d => ∀ p H', Ext H0 H' → H0 p = none → OwOk (gm X) (addM M0 p) H' p d → D.rt (.ref p) H'
def VS (X : Cx) (W : WX) (st : Stmt) (ψ : Env → SRes) : Prop :=
  ∃ t : TS, PS X st t ∧ ∀ (H0 : Hp) (M0 M : Addr → Bool) (H : Hp) (σ : L2.St) (env : Env) (D : Ends), Good (gm X) H0 M0 M H σ env → PostS X W H0 M0 M H D (ψ env) → t D σ H
def VB (X : Cx) (W : WX) (st : List Stmt) (ψ : Env → SRes) : Prop :=
  ∃ t : TS, PSs X st t ∧ ∀ (H0 : Hp) (M0 M : Addr → Bool) (H : Hp) (σ : L2.St) (env : Env) (D : Ends), Good (gm X) H0 M0 M H σ env → PostS X W H0 M0 M H D (ψ env) → t D σ H
def VG (X : Cx) (tg : Expr) (γ : D → Env → Option Env) : Prop :=
  ∃ g : TG, PG X tg g ∧ ∀ (H0 : Hp) (M0 M : Addr → Bool) (H : Hp) (σ : L2.St) (env env' : Env) (d : D) (v : V) (Q : L2.St → Hp → Prop), Good (gm X) H0 M0 M H σ env → Rp (gm X) (Sh M (vw H)) d v → γ d env = some env' → (∀ σ', Good (gm X) H0 M0 M H σ' env' → Q σ' H) → g v σ H Q
def VGs (X : Cx) (tg : List Expr) (γ : List D → Env → Option Env) : Prop :=
  ∃ g : TGs, PGs X tg g ∧ ∀ (H0 : Hp) (M0 M : Addr → Bool) (H : Hp) (σ : L2.St) (env env' : Env) (d : List D) (v : List V) (Q : L2.St → Hp → Prop), Good (gm X) H0 M0 M H σ env → RpL (gm X) (Sh M (vw H)) d v → γ d env = some env' → (∀ σ', Good (gm X) H0 M0 M H σ' env' → Q σ' H) → g v σ H Q

theorem addM_self {M : Addr → Bool} {p : Addr} : addM M p p = true := by unfold addM; rw [decide_eq_true rfl, Bool.or_true]
theorem addM_ne {M : Addr → Bool} {p a : Addr} (h : a ≠ p) : addM M p a = M a := by unfold addM; rw [decide_eq_false h, Bool.or_false]
section
variable {mg : Gm} {H0 H H' : Hp} {M0 M : Addr → Bool} {σ : L2.St} {env : Env}
theorem get_set_ne {α : Type} {l : List α} {i j : Nat} {x : α} (h : j ≠ i) : (l.set i x)[j]? = l[j]? := List.getElem?_set_ne (Ne.symm h)
theorem isOw_sh {i : Nat} {s : Sl} (hs : isOw (some s) = false) : isOw (env.set i s)[i]? = false := by
  by_cases h : i < env.length
  · rw [List.getElem?_set_self h]; exact hs
  · rw [List.getElem?_eq_none (by rw [List.length_set]; omega)]; rfl
theorem Good.set (g : Good mg H0 M0 M H σ env) {i : Nat} {d : D} {v : V} (r : Rp mg (Sh M (vw H)) d v) : Good mg H0 M0 M H (σ.set i (some v)) (env.set i (.sh d)) where
  len := by rw [List.length_set, List.length_set]; exact g.len
  ok := g.ok
  sub := g.sub
  new := g.new
  ok0 := g.ok0
  ex := g.ex
  sl := fun j s h => by
    by_cases e : j = i
    · subst e
      have hj : j < env.length := by
        have := (List.getElem?_eq_some_iff.mp h).1
        rw [List.length_set] at this; exact this
      rw [List.getElem?_set_self hj] at h
      cases h
      exact ⟨v, List.getElem?_set_self (by rw [g.len]; exact hj), r⟩
    · rw [get_set_ne e] at h ⊢
      exact g.sl j s h
  inj := fun j k p hne h1 h2 h3 => by
    by_cases e1 : j = i
    · subst e1; rw [isOw_sh rfl] at h1; cases h1
    · by_cases e2 : k = i
      · subst e2; rw [isOw_sh rfl] at h2; cases h2
      · rw [get_set_ne e1] at h1 h3
        rw [get_set_ne e2] at h2 ⊢
        exact g.inj j k p hne h1 h2 h3
theorem Good.h0 (g : Good mg H0 M0 M H σ env) {p : Addr} (hp : H p = none) : H0 p = none := g.ex.fresh hp
theorem Good.nm (g : Good mg H0 M0 M H σ env) {p : Addr} (hp : H p = none) : M p = false ∧ M0 p = false := by
  constructor
  · cases q : M p with
    | false => rfl
    | true => obtain ⟨o, e⟩ := g.ok.dom p q; rw [hp] at e; cases e
  · cases q : M0 p with
    | false => rfl
    | true => obtain ⟨o, e⟩ := g.ok0.dom p q; rw [g.h0 hp] at e; cases e
theorem OwOk.obj {p : Addr} : ∀ {d : D}, OwOk mg M H p d → ∃ o, H p = some o ∧ (∀ xs, o ≠ .tup xs) ∧ (∀ fs, o ≠ .xd fs)
  | .lst ds, ⟨xs, h, _⟩ => ⟨_, h, (fun _ z => nomatch z), (fun _ z => nomatch z)⟩
  | .dic 0 es, ⟨kvs, h, _⟩ => ⟨_, h, (fun _ z => nomatch z), (fun _ z => nomatch z)⟩
  | .dic 1 es, ⟨kvs, h, _⟩ => ⟨_, h, (fun _ z => nomatch z), (fun _ z => nomatch z)⟩
  | .dic 2 es, ⟨kvs, h, _⟩ => ⟨_, h, (fun _ z => nomatch z), (fun _ z => nomatch z)⟩
  | .dic (_ + 3) _, h => h.elim
  | .ins c gs, ⟨C, dx, fs, m, h, _⟩ => ⟨_, h, (fun _ z => nomatch z), (fun _ z => nomatch z)⟩
  | .non, h => h.elim
  | .bl _, h => h.elim
  | .int _, h => h.elim
  | .str _, h => h.elim
  | .tup _, h => h.elim
  | .scr _, h => h.elim
  | .exn _ _, h => h.elim
  | .sel x c gs, ⟨_, C, dx, fs, m, h, _⟩ => ⟨_, h, (fun _ z => nomatch z), (fun _ z => nomatch z)⟩
theorem sh_add (e : Ext H H') {p : Addr} (hp : H p = none) : VEx (Sh M (vw H)) (Sh (addM M p) (vw H')) := fun a u h => by
  obtain ⟨h1, h2⟩ := Sh_some h
  have hne : a ≠ p := fun q => by rw [q, vw_none.mpr hp] at h2; cases h2
  rw [Sh_of (by rw [addM_ne hne]; exact h1)]
  exact e.v a u h2
theorem OwOk.imp {M' : Addr → Bool} {p : Addr} (v : VEx (Sh M (vw H)) (Sh M' (vw H'))) (hp : ∀ o, H p = some o → H' p = some o) : ∀ {d : D}, OwOk mg M H p d → OwOk mg M' H' p d
  | .lst ds, ⟨xs, h, r⟩ => ⟨xs, hp _ h, r.mono v⟩
  | .dic 0 es, ⟨kvs, h, k, r⟩ => ⟨kvs, hp _ h, k, r.mono v⟩
  | .dic 1 es, ⟨kvs, h, k, r⟩ => ⟨kvs, hp _ h, k, r.mono v⟩
  | .dic 2 es, ⟨kvs, h, n, k, r⟩ => ⟨kvs, hp _ h, fun x hx => (n x hx).mono v, k, r.mono v⟩
  | .dic (_ + 3) _, h => h.elim
  | .ins c gs, ⟨C, dx, fs, m, h, k, r⟩ => ⟨C, dx, fs, m, hp _ h, k, r.mono v⟩
  | .non, h => h.elim
  | .bl _, h => h.elim
  | .int _, h => h.elim
  | .str _, h => h.elim
  | .tup _, h => h.elim
  | .scr _, h => h.elim
  | .exn _ _, h => h.elim
  | .sel x c gs, ⟨q, C, dx, fs, m, h, k, r⟩ => ⟨q, C, dx, fs, m, hp _ h, k, r.mono v⟩
theorem SlotOk.imp {M' : Addr → Bool} {v : Option (Option V)} (x : VEx (Sh M (vw H)) (Sh M' (vw H'))) (hm : ∀ p, v = some (some (.ref p)) → M p = true → M' p = true ∧ ∀ o, H p = some o → H' p = some o) :
    ∀ {s : Sl}, SlotOk mg M0 M H v s → SlotOk mg M0 M' H' v s
  | .no, _ => trivial
  | .sh d, ⟨y, h, r⟩ => ⟨y, h, r.mono x⟩
  | .ow d, ⟨p, h, m, m0, r⟩ => ⟨p, h, (hm p h m).1, m0, r.imp x (hm p h m).2⟩
theorem Good.own (g : Good mg H0 M0 M H σ env) {i : Nat} {d : D} {p : Addr} (hp : H p = none) (e : Ext H H') (r : OwOk mg (addM M p) H' p d) : Good mg H0 M0 (addM M p) H' (σ.set i (some (.ref p))) (env.set i (.ow d)) where
  len := by rw [List.length_set, List.length_set]; exact g.len
  ok := by
    obtain ⟨o, ho, n1, n2⟩ := r.obj
    have m := g.ok.mono e
    refine ⟨fun a h => ?_, fun a xs h z => ?_, fun a fs h z => ?_⟩
    · by_cases q : a = p
      · subst q; exact ⟨o, ho⟩
      · rw [addM_ne q] at h; exact m.dom a h
    · by_cases q : a = p
      · subst q; rw [ho] at z; cases z; exact n1 xs rfl
      · rw [addM_ne q] at h; exact m.tup a xs h z
    · by_cases q : a = p
      · subst q; rw [ho] at z; cases z; exact n2 fs rfl
      · rw [addM_ne q] at h; exact m.xd a fs h z
  sub := fun a h => by
    by_cases q : a = p
    · subst q; exact addM_self
    · rw [addM_ne q]; exact g.sub a h
  new := fun a h => by
    by_cases q : a = p
    · subst q; exact .inr (g.h0 hp)
    · rw [addM_ne q] at h; exact g.new a h
  ok0 := g.ok0
  ex := g.ex.trans e
  sl := fun j s h => by
    by_cases q : j = i
    · subst q
      have hj : j < env.length := by
        have := (List.getElem?_eq_some_iff.mp h).1
        rw [List.length_set] at this; exact this
      rw [List.getElem?_set_self hj] at h
      cases h
      exact ⟨p, List.getElem?_set_self (by rw [g.len]; exact hj), addM_self, (g.nm hp).2, r⟩
    · rw [get_set_ne q] at h ⊢
      refine (g.sl j s h).imp (sh_add e hp) fun a _ ha => ⟨?_, fun o ho => e a o ho⟩
      have : a ≠ p := fun z => by rw [z, (g.nm hp).1] at ha; cases ha
      rw [addM_ne this]; exact ha
  inj := fun j k a hne h1 h2 h3 h4 => by
    have key : ∀ m, m ≠ i → isOw (env.set i (.ow d))[m]? = true → (σ.set i (some (.ref p)))[m]? ≠ some (some (.ref p)) := fun m hm ho hr => by
      rw [get_set_ne hm] at ho hr
      cases q : env[m]? with
      | none => rw [q] at ho; cases ho
      | some s =>
        rw [q] at ho
        cases s with
        | ow d' =>
          obtain ⟨p', e1, m1, _⟩ := g.sl m _ q
          rw [hr] at e1
          cases e1
          rw [(g.nm hp).1] at m1; cases m1
        | no => cases ho
        | sh _ => cases ho
    have at_i : ∀ m, m = i → (σ.set i (some (.ref p)))[m]? = some (some (.ref a)) → a = p := fun m hm hr => by
      subst hm
      have hj : m < σ.length := by
        have := (List.getElem?_eq_some_iff.mp hr).1
        rw [List.length_set] at this; exact this
      rw [List.getElem?_set_self hj] at hr
      cases hr; rfl
    by_cases e1 : j = i
    · have := at_i j e1 h3
      subst this
      exact key k (fun z => hne (e1.trans z.symm)) h2 h4
    · by_cases e2 : k = i
      · have := at_i k e2 h4
        subst this
        exact key j e1 h1 h3
      · rw [get_set_ne e1] at h1 h3
        rw [get_set_ne e2] at h2 h4
        exact g.inj j k a hne h1 h2 h3 h4
theorem sh_mut {p : Addr} {o : HO} (hm : M p = true) : Sh M (vw (upd H p o)) = Sh M (vw H) := by
  funext a
  by_cases q : M a = true
  · unfold Sh; rw [if_pos q, if_pos q]
  · have hne : a ≠ p := fun z => q (z ▸ hm)
    unfold Sh; rw [if_neg q, if_neg q, vw_upd_ne hne]
theorem Good.mut (g : Good mg H0 M0 M H σ env) {i : Nat} {d0 d : D} {p : Addr} {o : HO} (hi : env[i]? = some (.ow d0)) (hv : σ[i]? = some (some (.ref p))) (r : OwOk mg M (upd H p o) p d) : Good mg H0 M0 M (upd H p o) σ (env.set i (.ow d)) := by
  obtain ⟨p', e1, mp, m0, _⟩ := g.sl i _ hi
  rw [hv] at e1
  obtain rfl : p' = p := by cases e1; rfl
  have hil : i < env.length := (List.getElem?_eq_some_iff.mp hi).1
  have ows : ∀ j, isOw (env.set i (.ow d))[j]? = isOw env[j]? := fun j => by
    by_cases q : j = i
    · subst q; rw [List.getElem?_set_self hil, hi]; rfl
    · rw [get_set_ne q]
  refine ⟨by rw [List.length_set]; exact g.len, ?_, g.sub, g.new, g.ok0, ?_, fun j s h => ?_, fun j k a hne h1 h2 h3 => ?_⟩
  · obtain ⟨o', ho, n1, n2⟩ := r.obj
    refine ⟨fun a h => ?_, fun a xs h z => ?_, fun a fs h z => ?_⟩
    · by_cases q : a = p'
      · subst q; exact ⟨_, upd_same⟩
      · rw [upd_ne q]; exact g.ok.dom a h
    · by_cases q : a = p'
      · subst q; rw [ho] at z; cases z; exact n1 xs rfl
      · rw [upd_ne q] at z; exact g.ok.tup a xs h z
    · by_cases q : a = p'
      · subst q; rw [ho] at z; cases z; exact n2 fs rfl
      · rw [upd_ne q] at z; exact g.ok.xd a fs h z
  · refine g.ex.mut ?_
    rcases g.new p' mp with z | z
    · rw [m0] at z; cases z
    · exact z
  · by_cases q : j = i
    · subst q
      rw [List.getElem?_set_self hil] at h
      cases h
      exact ⟨p', hv, mp, m0, r⟩
    · rw [get_set_ne q] at h
      cases s with
      | no => trivial
      | sh d' =>
        obtain ⟨x, e2, r2⟩ := g.sl j _ h
        exact ⟨x, e2, by rw [sh_mut mp]; exact r2⟩
      | ow d' =>
        obtain ⟨a, e2, m2, m3, r2⟩ := g.sl j _ h
        have hne : a ≠ p' := fun z => by
          subst z
          exact g.inj j i a q (by rw [h]; rfl) (by rw [hi]; rfl) e2 hv
        exact ⟨a, e2, m2, m3, r2.imp (by rw [sh_mut mp]; exact .refl _) fun o' ho' => by rw [upd_ne hne]; exact ho'⟩
  · rw [ows] at h1 h2
    exact g.inj j k a hne h1 h2 h3
def subM (M : Addr → Bool) (p : Addr) : Addr → Bool := fun a => M a && !decide (a = p)
theorem subM_ne {p a : Addr} (h : a ≠ p) : subM M p a = M a := by unfold subM; rw [decide_eq_false h]; exact Bool.and_true _
theorem subM_self {p : Addr} : subM M p p = false := by unfold subM; rw [decide_eq_true rfl]; exact Bool.and_false _
theorem sh_sub {p : Addr} : VEx (Sh M (vw H)) (Sh (subM M p) (vw H)) := fun a u h => by
  obtain ⟨h1, h2⟩ := Sh_some h
  rw [Sh_of]
  · exact h2
  · unfold subM; rw [h1]; rfl
theorem OwOk.give {p : Addr} : ∀ {d : D}, OwOk mg M H p d → Rp mg (Sh (subM M p) (vw H)) d (.ref p)
  | .lst ds, ⟨xs, h, r⟩ => .lst (by rw [Sh_of subM_self]; exact vw_of h trivial) (r.mono sh_sub)
  | .dic 0 es, ⟨kvs, h, k, r⟩ => .dicK (by rw [Sh_of subM_self]; exact vw_of h trivial) k (r.mono sh_sub)
  | .dic 1 es, ⟨kvs, h, k, r⟩ => .dicT (by rw [Sh_of subM_self]; exact vw_of h trivial) k (r.mono sh_sub)
  | .dic 2 es, ⟨kvs, h, n, k, r⟩ => .dicN (by rw [Sh_of subM_self]; exact vw_of h trivial) (fun x hx => (n x hx).mono sh_sub) k (r.mono sh_sub)
  | .dic (_ + 3) _, h => h.elim
  | .ins c gs, ⟨C, dx, fs, m, h, k, r⟩ => .ins m (by rw [Sh_of subM_self]; exact vw_of h trivial) k (r.mono sh_sub)
  | .non, h => h.elim
  | .bl _, h => h.elim
  | .int _, h => h.elim
  | .str _, h => h.elim
  | .tup _, h => h.elim
  | .scr _, h => h.elim
  | .exn _ _, h => h.elim
  | .sel x c gs, ⟨q, C, dx, fs, m, h, k, r⟩ => by
    subst q
    exact .sel m (by rw [Sh_of subM_self]; exact vw_of h trivial) k (r.mono sh_sub)
def give (i : Nat) (env : Env) : Env := match env[i]? with
  | some (.ow d) => env.set i (.sh d)
  | _ => env
theorem Good.give (g : Good mg H0 M0 M H σ env) (i : Nat) : ∃ M', Good mg H0 M0 M' H σ (VL.give i env) ∧ VEx (Sh M (vw H)) (Sh M' (vw H)) := by
  unfold VL.give
  cases q : env[i]? with
  | none => exact ⟨M, g, .refl _⟩
  | some s =>
    cases s with
    | no => exact ⟨M, g, .refl _⟩
    | sh d => exact ⟨M, g, .refl _⟩
    | ow d =>
      obtain ⟨p, hv, mp, m0, r⟩ := g.sl i _ q
      have hil : i < env.length := (List.getElem?_eq_some_iff.mp q).1
      refine ⟨subM M p, ⟨by rw [List.length_set]; exact g.len, ?_, fun a h => ?_, fun a h => ?_, g.ok0, g.ex, fun j s h => ?_, fun j k a hne h1 h2 h3 => ?_⟩, sh_sub⟩
      · have le : ∀ a, subM M p a = true → M a = true := fun a h => (Bool.and_eq_true_iff.mp h).1
        exact ⟨fun a h => g.ok.dom a (le a h), fun a xs h => g.ok.tup a xs (le a h), fun a fs h => g.ok.xd a fs (le a h)⟩
      · have : a ≠ p := fun z => by rw [z, m0] at h; cases h
        rw [subM_ne this]; exact g.sub a h
      · exact g.new a (Bool.and_eq_true_iff.mp h).1
      · by_cases e : j = i
        · subst e
          rw [List.getElem?_set_self hil] at h
          cases h
          exact ⟨_, hv, r.give⟩
        · rw [get_set_ne e] at h
          cases s with
          | no => trivial
          | sh d' =>
            obtain ⟨x, e2, r2⟩ := g.sl j _ h
            exact ⟨x, e2, r2.mono sh_sub⟩
          | ow d' =>
            obtain ⟨a, e2, m2, m3, r2⟩ := g.sl j _ h
            have hne : a ≠ p := fun z => by
              subst z
              exact g.inj j i a e (by rw [h]; rfl) (by rw [q]; rfl) e2 hv
            exact ⟨a, e2, by rw [subM_ne hne]; exact m2, m3, r2.imp sh_sub fun o ho => ho⟩
      · have nt : ∀ m, isOw (env.set i (.sh d))[m]? = true → isOw env[m]? = true := fun m h => by
          by_cases e : m = i
          · subst e; rw [isOw_sh rfl] at h; cases h
          · rw [get_set_ne e] at h; exact h
        exact g.inj j k a hne (nt j h1) (nt k h2) h3
end
theorem PostS.mono {X : Cx} {W : WX} {H0 : Hp} {M0 M M' : Addr → Bool} {H H' : Hp} {D : Ends} {r : SRes} (h : PostS X W H0 M0 M H D r) (e : VEx (Sh M (vw H)) (Sh M' (vw H'))) : PostS X W H0 M0 M' H' D r := by
  cases r with
  | nx env => exact fun M2 H2 σ2 g2 e2 => h M2 H2 σ2 g2 (e.trans e2)
  | bk env => exact fun M2 H2 σ2 g2 e2 => h M2 H2 σ2 g2 (e.trans e2)
  | ct env => exact fun M2 H2 σ2 g2 e2 => h M2 H2 σ2 g2 (e.trans e2)
  | rt d => exact h
  | xc c fs env => exact fun M2 H2 σ2 cls dd g2 e2 r2 => h M2 H2 σ2 cls dd g2 (e.trans e2) r2
  | bad => exact h
  | ro d => exact h
end VL

set_option maxRecDepth 100000
set_option maxHeartbeats 2000000
namespace VL
open PySem L2

def nxS (env : Env) : SRes := .nx env
def seqS (ψ χ : Env → SRes) (env : Env) : SRes := match ψ env with
  | .nx env' => χ env'
  | r => r
def ofE (r : Res D) (env : Env) (k : D → SRes) : SRes := match r with
  | .ok d => k d
  | .exc c fs => .xc c fs env
  | .bad => .bad
def ofA (r : Res (List D)) (env : Env) (k : List D → SRes) : SRes := match r with
  | .ok d => k d
  | .exc c fs => .xc c fs env
  | .bad => .bad
def ofT (r : Res Bool) (env : Env) (k : Bool → SRes) : SRes := match r with
  | .ok d => k d
  | .exc c fs => .xc c fs env
  | .bad => .bad
section
variable {X : Cx} {W : WX} {fl fla flb : Bool} {e : Expr} {st : Stmt} {sts a b : List Stmt} {pos : Pos} {φ : Env → Res D} {τ : Env → Res Bool} {φs : Env → Res (List D)} {ψ χ : Env → SRes}
variable {H0 H : Hp} {M0 M : Addr → Bool} {σ : L2.St} {env : Env} {D : Ends}
theorem PostS.ofE {r : Res VL.D} {k : VL.D → SRes} {Q : VK} (g : Good (gm X) H0 M0 M H σ env) (h : PostS X W H0 M0 M H D (ofE r env k))
    (q : ∀ d v H1, Ext H H1 → Good (gm X) H0 M0 M H1 σ env → Rp (gm X) (vis fl M (vw H1)) d v → PostS X W H0 M0 M H1 D (k d) → Q v H1) : PostE X W fl M σ H Q r := by
  cases r with
  | ok d => exact fun v H1 e1 r1 => q d v H1 e1 (g.mono e1) r1 (PostS.mono h (Sh_mono e1.v))
  | exc c fs => exact fun cls dd H1 e1 r1 => h M H1 σ cls dd (g.mono e1) (Sh_mono e1.v) r1
  | bad => exact h
theorem PostS.ofT {r : Res Bool} {k : Bool → SRes} {Q : Bool → Hp → Prop} (g : Good (gm X) H0 M0 M H σ env) (h : PostS X W H0 M0 M H D (ofT r env k))
    (q : ∀ d H1, Ext H H1 → Good (gm X) H0 M0 M H1 σ env → PostS X W H0 M0 M H1 D (k d) → Q d H1) : PostT X W M σ H Q r := by
  cases r with
  | ok d => exact fun H1 e1 => q d H1 e1 (g.mono e1) (PostS.mono h (Sh_mono e1.v))
  | exc c fs => exact fun cls dd H1 e1 r1 => h M H1 σ cls dd (g.mono e1) (Sh_mono e1.v) r1
  | bad => exact h
theorem PostS.seq (h : PostS X W H0 M0 M H D (seqS ψ χ env)) {N : L2.St → Hp → Prop} (k : ∀ env' M' H' σ', Good (gm X) H0 M0 M' H' σ' env' → PostS X W H0 M0 M' H' D (χ env') → N σ' H') : PostS X W H0 M0 M H { D with nx := N } (ψ env) := by
  unfold seqS at h
  cases q : ψ env with
  | nx env' => rw [q] at h; exact fun M' H' σ' g' e' => k env' M' H' σ' g' (h.mono e')
  | bk env' => rw [q] at h; exact h
  | ct env' => rw [q] at h; exact h
  | rt d => rw [q] at h; exact h
  | xc c fs env' => rw [q] at h; exact h
  | bad => rw [q] at h; exact h
  | ro d => rw [q] at h; exact h
theorem vb_nil : VB X W [] nxS := ⟨_, pss_nil, fun H0 M0 M H σ env D g h => h M H σ g (.refl _)⟩
theorem vb_cons (h1 : VS X W st ψ) (h2 : VB X W sts χ) : VB X W (st :: sts) (seqS ψ χ) := by
  obtain ⟨t, p, r⟩ := h1
  obtain ⟨t', p', r'⟩ := h2
  refine ⟨_, pss_cons p p', fun H0 M0 M H σ env D g h => ?_⟩
  exact r H0 M0 M H σ env _ g (h.seq fun env' M' H' σ' g' h' => r' H0 M0 M' H' σ' env' D g' h')
theorem vb_one (h1 : VS X W st ψ) : VB X W [st] ψ := by
  obtain ⟨t, p, r⟩ := h1
  exact ⟨_, pss_one p, r⟩
def giveS (i : Nat) (ψ : Env → SRes) (env : Env) : SRes := ψ (give i env)
theorem vs_give (i : Nat) (h : VS X W st ψ) : VS X W st (giveS i ψ) := by
  obtain ⟨t, p, r⟩ := h
  refine ⟨t, p, fun H0 M0 M H σ env D g h => ?_⟩
  obtain ⟨M', g', e'⟩ := g.give i
  exact r H0 M0 M' H σ _ D g' (PostS.mono h e')
def bkS (env : Env) : SRes := .bk env
def ctS (env : Env) : SRes := .ct env
def dropS (φ : Env → Res VL.D) (env : Env) : SRes := ofE (φ env) env fun _ => .nx env
theorem vs_expr (h : VE X W fl e φ) (hs : swapsWith e none pos.line X.env = pure false := by rfl) : VS X W (.Expr e pos) (dropS φ) := by
  obtain ⟨t, p, r⟩ := h
  refine ⟨_, ps_expr p hs, fun H0 M0 M H σ env D g h => ?_⟩
  exact r H0 M0 M H σ env _ g (PostS.ofE g h fun d v H1 e1 g1 r1 h1 => h1 M H1 σ g1 (.refl _))
def retS (φ : Env → Res VL.D) (env : Env) : SRes := ofE (φ env) env fun d => .rt d
theorem Good.rt (g : Good (gm X) H0 M0 M H σ env) : VEx (Sh M (vw H)) (Sh M0 (vw H)) := fun a u h => by
  obtain ⟨h1, h2⟩ := Sh_some h
  rw [Sh_of]
  · exact h2
  · cases q : M0 a with
    | false => rfl
    | true => rw [g.sub a q] at h1; cases h1
theorem vs_ret (h : VE X W true e φ) : VS X W (.Return (some e) pos) (retS φ) := by
  obtain ⟨t, p, r⟩ := h
  refine ⟨_, ps_ret p, fun H0 M0 M H σ env D g h => ?_⟩
  exact r H0 M0 M H σ env _ g (PostS.ofE g h fun d v H1 e1 g1 r1 h1 => h1 v H1 g1.ex (r1.mono g1.rt))
def retNS (_ : Env) : SRes := .rt .non
def setS (i : Nat) (φ : Env → Res VL.D) (env : Env) : SRes := ofE (φ env) env fun d => .nx (env.set i (.sh d))
theorem vs_set (i : Nat) {x : Str} {pos' : Pos} (hN : X.N.Nodup) (h : VE X W true e φ) (hi : X.N[i]? = some x := by rfl) (hx : Loc X.env.scope x := by first | exact Or.inl rfl | exact Or.inr rfl) (hs : swapsWith e (some (.Name x pos')) pos.line X.env = pure false := by rfl)
    (hf : X.fn x = true ∨ X.env.scope.names.lookup x = some .local := by first | exact .inl rfl | exact .inr rfl | assumption) : VS X W (.Assign [.Name x pos'] e pos) (setS i φ) := by
  obtain ⟨t, p, r⟩ := h
  refine ⟨_, ps_set hN hi hx p hs hf, fun H0 M0 M H σ env D g h => ?_⟩
  exact r H0 M0 M H σ env _ g (PostS.ofE g h fun d v H1 e1 g1 r1 h1 => h1 M H1 _ (g1.set r1) (.refl _))
def PostN (X : Cx) (W : WX) (M : Addr → Bool) (σ : L2.St) (H : Hp) (Q : VK) : Res VL.D → Prop
  | .ok d => ∀ p H', H p = none → Ext H H' → OwOk (gm X) (addM M p) H' p d → Q (.ref p) H'
  | .exc c fs => ∀ cls dd H', Ext H H' → RpX (gm X) (Sh M (vw H')) c fs cls dd → W cls dd σ H'
  | .bad => False
def VF (X : Cx) (W : WX) (e : Expr) (φ : Env → Res VL.D) : Prop :=
  ∃ t : TE, PE X e t ∧ ∀ (H0 : Hp) (M0 M : Addr → Bool) (H : Hp) (σ : L2.St) (env : Env) (Q : VK), Good (gm X) H0 M0 M H σ env → PostN X W M σ H Q (φ env) → t σ H Q
theorem OwOk.rpN {H1 : Hp} {p : Addr} (m : M p = false) : ∀ {d : VL.D}, OwOk (gm X) (addM M p) H1 p d → Rp (gm X) (Sh M (vw H1)) d (.ref p) := by
  have le : VEx (Sh (addM M p) (vw H1)) (Sh M (vw H1)) := fun a u h => by
    obtain ⟨h1, h2⟩ := Sh_some h
    have : M a = false := by
      cases q : M a with
      | false => rfl
      | true => unfold addM at h1; rw [q] at h1; cases h1
    rw [Sh_of this]; exact h2
  intro d h
  match d, h with
  | .lst ds, ⟨xs, h, r⟩ => exact .lst (by rw [Sh_of m]; exact vw_of h trivial) (r.mono le)
  | .dic 0 es, ⟨kvs, h, k, r⟩ => exact .dicK (by rw [Sh_of m]; exact vw_of h trivial) k (r.mono le)
  | .dic 1 es, ⟨kvs, h, k, r⟩ => exact .dicT (by rw [Sh_of m]; exact vw_of h trivial) k (r.mono le)
  | .dic 2 es, ⟨kvs, h, n, k, r⟩ => exact .dicN (by rw [Sh_of m]; exact vw_of h trivial) (fun x hx => (n x hx).mono le) k (r.mono le)
  | .dic (_ + 3) _, h => exact h.elim
  | .ins c gs, ⟨C, dx, fs, mm, h, k, r⟩ => exact .ins mm (by rw [Sh_of m]; exact vw_of h trivial) k (r.mono le)
  | .non, h => exact h.elim
  | .bl _, h => exact h.elim
  | .int _, h => exact h.elim
  | .str _, h => exact h.elim
  | .tup _, h => exact h.elim
  | .scr _, h => exact h.elim
  | .exn _ _, h => exact h.elim
  | .sel x c gs, ⟨q, C, dx, fs, mm, h, k, r⟩ =>
    subst q
    exact .sel mm (by rw [Sh_of m]; exact vw_of h trivial) k (r.mono le)
theorem ve_new (h : VF X W e φ) : VE X W fl e φ := by
  obtain ⟨t, p, r⟩ := h
  refine ⟨t, p, fun H0 M0 M H σ env Q g h => ?_⟩
  refine r H0 M0 M H σ env Q g ?_
  cases q : φ env with
  | ok d =>
    rw [q] at h
    exact fun p H' hp e' o => h _ H' e' ((o.rpN (g.nm hp).1).mono (Sh_vis fl M _))
  | exc c fs => rw [q] at h; exact h
  | bad => rw [q] at h; exact h
def ownS (i : Nat) (φ : Env → Res VL.D) (env : Env) : SRes := ofE (φ env) env fun d => .nx (env.set i (.ow d))
theorem vs_own (i : Nat) {x : Str} {pos' : Pos} (hN : X.N.Nodup) (h : VF X W e φ) (hi : X.N[i]? = some x := by rfl) (hx : Loc X.env.scope x := by first | exact Or.inl rfl | exact Or.inr rfl) (hs : swapsWith e (some (.Name x pos')) pos.line X.env = pure false := by rfl)
    (hf : X.fn x = true ∨ X.env.scope.names.lookup x = some .local := by first | exact .inl rfl | exact .inr rfl | assumption) : VS X W (.Assign [.Name x pos'] e pos) (ownS i φ) := by
  obtain ⟨t, p, r⟩ := h
  refine ⟨_, ps_set hN hi hx p hs hf, fun H0 M0 M H σ env D g h => ?_⟩
  refine r H0 M0 M H σ env _ g ?_
  unfold ownS at h
  cases q : φ env with
  | ok d =>
    rw [q] at h
    exact fun p H' hp e' o => h _ H' _ (g.own hp e' o) (sh_add e' hp)
  | exc c fs => rw [q] at h; exact fun cls dd H1 e1 r1 => h M H1 σ cls dd (g.mono e1) (Sh_mono e1.v) r1
  | bad => rw [q] at h; exact h
theorem ow_newL {p : Addr} {ds : List VL.D} {xs : List V} (hp : H p = none) (r : RpL (gm X) (Sh M (vw H)) ds xs) : OwOk (gm X) (addM M p) (upd H p (.lst xs)) p (.lst ds) := ⟨xs, upd_same, r.mono (sh_add (Ext.new hp) hp)⟩
theorem vf_lst {es : List Expr} (h : VA X W true es φs) : VF X W (.List es pos) (aE lstD φs) := by
  obtain ⟨t, p, r⟩ := h
  refine ⟨_, pe_lst p, fun H0 M0 M H σ env Q g h => ?_⟩
  refine r H0 M0 M H σ env _ g ?_
  have h0 : PostN X W M σ H Q ((φs env).bind lstD) := h
  cases q : φs env with
  | ok ds =>
    rw [q] at h0
    intro vs H1 e1 r1
    have h1 : PostN X W M σ H Q (lstD ds) := h0
    unfold lstD at h1
    by_cases c : ds.length ≤ sizeLine
    · rw [if_pos c] at h1
      refine ⟨by rw [← r1.length]; exact c, fun p hp => h1 p _ (e1.fresh hp) (e1.trans (Ext.new hp)) (ow_newL hp r1)⟩
    · rw [if_neg c] at h1; exact h1.elim
  | exc c fs => rw [q] at h0; exact h0
  | bad => rw [q] at h0; exact h0
theorem vf_dic0 : VF X W (.Dict [] [] pos) (cE (.dic 0 [])) := ⟨_, pe_dnewK, fun H0 M0 M H σ env Q g h p hp => h p _ hp (Ext.new hp) ⟨[], upd_same, rfl, .nil⟩⟩
theorem vf_dic1 : VF X W (.Dict [] [] pos) (cE (.dic 1 [])) := ⟨_, pe_dnewT, fun H0 M0 M H σ env Q g h p hp => h p _ hp (Ext.new hp) ⟨[], upd_same, rfl, .nil⟩⟩
def appS (i : Nat) (φ : Env → Res VL.D) (env : Env) : SRes := match env[i]? with
  | some (.ow (.lst ds)) => ofE (φ env) env fun d => if ds.length < sizeLine then .nx (env.set i (.ow (.lst (ds ++ [d])))) else .bad
  | _ => .bad
theorem PostS.ite {c : Prop} [Decidable c] {r : SRes} (h : PostS X W H0 M0 M H D (if c then r else .bad)) : c ∧ PostS X W H0 M0 M H D r := by
  by_cases hc : c
  · rw [if_pos hc] at h; exact ⟨hc, h⟩
  · rw [if_neg hc] at h; exact h.elim
theorem vs_app (i : Nat) {x : Str} {px apos cpos : Pos} (h : VE X W true e φ) (hN : X.N[i]? = some x := by rfl) (hv : Vis X.env.scope x := by first | exact Or.inl rfl | exact Or.inr (Or.inl rfl) | exact Or.inr (Or.inr rfl))
    (hp : ∀ (ta : TE) (r : PE X (.Name x px) ta) (tb : TA) (rb : PA X [e] tb), PE X (.Call (.Attribute (.Name x px) "append" apos) [e] [] cpos) (tBM X.K "list" rAppend ta tb) := by exact fun _ r _ rb => pe_bm PySem.F.plainAttrs_list PySem.F.slot_list_append PySem.F.type_list_append mt_append r rb)
    (hd : (x == ("__debug__" : Str)) = false := by decide) (hcd : (x == ("__classdict__" : Str)) = false := by decide)
    (hs : swapsWith (.Call (.Attribute (.Name x px) "append" apos) [e] [] cpos) none pos.line X.env = pure false := by rfl) (hst : starEach (e :: []) X.env = (false, eval e X.env) :: starEach [] X.env := by rfl) :
    VS X W (.Expr (.Call (.Attribute (.Name x px) "append" apos) [e] [] cpos) pos) (appS i φ) := by
  obtain ⟨t, p, r⟩ := h
  refine ⟨_, ps_expr (hp _ (pe_var hN hv hd hcd) _ (pa_cons p pa_nil hst)) hs, fun H0 M0 M H σ env D g h => ?_⟩
  unfold appS at h
  cases q : env[i]? with
  | none => rw [q] at h; exact h.elim
  | some s =>
    rw [q] at h
    cases s with
    | no => exact h.elim
    | sh d => exact h.elim
    | ow d =>
      cases d with
      | lst ds =>
        obtain ⟨p', hv', mp, m0, xs, hx, rx⟩ := g.sl i _ q
        refine ⟨_, hv', .inl ⟨rfl, _, SqL.of hx⟩, ?_⟩
        refine r H0 M0 M H σ env _ g (PostS.ofE g h fun d v H1 e1 g1 r1 h1 => ?_)
        obtain ⟨hc, h1⟩ := PostS.ite h1
        have rx1 := rx.mono (Sh_mono e1.v)
        refine ⟨p', xs, v, rfl, rfl, e1 _ _ hx, by rw [← rx.length]; exact hc, ?_⟩
        have rr : OwOk (gm X) M (upd H1 p' (.lst (xs ++ [v]))) p' (.lst (ds ++ [d])) := ⟨_, upd_same, by rw [sh_mut mp]; exact rx1.append (.cons r1 .nil)⟩
        exact h1 M _ σ (g1.mut q hv' rr) (by rw [sh_mut mp]; exact .refl _)
      | _ => exact h.elim
def ifS (τ : Env → Res Bool) (ψ χ : Env → SRes) (env : Env) : SRes := ofT (τ env) env fun k => if k = true then ψ env else χ env
theorem vs_if (hc : VT X W e τ) (ha : VB X W a ψ) (hb : VB X W b χ) : VS X W (.If e a b pos) (ifS τ ψ χ) := by
  obtain ⟨t, p, r⟩ := hc
  obtain ⟨ta, pa, ra⟩ := ha
  obtain ⟨tb, pb, rb⟩ := hb
  refine ⟨_, ps_if p pa pb, fun H0 M0 M H σ env D g h => ?_⟩
  refine r H0 M0 M H σ env _ g (PostS.ofT g h fun k H1 e1 g1 h1 => ?_)
  cases k with
  | true => rw [if_pos rfl] at h1 ⊢; exact ra H0 M0 M H1 σ env D g1 h1
  | false => rw [if_neg Bool.false_ne_true] at h1 ⊢; exact rb H0 M0 M H1 σ env D g1 h1
def gnG (i : Nat) (d : VL.D) (env : Env) : Option Env := some (env.set i (.sh d))
theorem vg_n (i : Nat) {x : Str} (hN : X.N.Nodup) (hi : X.N[i]? = some x := by rfl) (hx : Loc X.env.scope x := by first | exact Or.inl rfl | exact Or.inr rfl) (hf : X.fn x = true ∨ X.env.scope.names.lookup x = some .local := by first | exact .inl rfl | exact .inr rfl | assumption) :
    VG X (.Name x pos) (gnG i) := ⟨_, pg_name hN hi hx hf, fun H0 M0 M H σ env env' d v Q g r e q => by cases e; exact q _ (g.set r)⟩
def nilG : List VL.D → Env → Option Env
  | [], env => some env
  | _ :: _, _ => none
def consG (γ : VL.D → Env → Option Env) (γs : List VL.D → Env → Option Env) : List VL.D → Env → Option Env
  | d :: ds, env => (γ d env).bind fun env' => γs ds env'
  | [], _ => none
theorem vgs_nil : VGs X [] nilG := ⟨_, pgs_nil, fun H0 M0 M H σ env env' d v Q g r e q => by
  cases r with
  | nil => cases e; exact ⟨rfl, q σ g⟩
  | cons _ _ => cases e⟩
theorem vgs_cons {es : List Expr} {γ : VL.D → Env → Option Env} {γs : List VL.D → Env → Option Env} (h1 : VG X e γ) (h2 : VGs X es γs) (hs : (assignEach (e :: es) X.env).map (·.2) = assign e X.env :: (assignEach es X.env).map (·.2) := by rfl) : VGs X (e :: es) (consG γ γs) := by
  obtain ⟨g1, p1, r1⟩ := h1
  obtain ⟨g2, p2, r2⟩ := h2
  refine ⟨_, pgs_cons p1 p2 hs, fun H0 M0 M H σ env env' d v Q g r e q => ?_⟩
  cases r with
  | nil => cases e
  | cons ra rb =>
    rename_i d ds v vs
    have e' : (γ d env).bind (fun env' => γs ds env') = some env' := e
    cases z : γ d env with
    | none => rw [z] at e'; cases e'
    | some env1 =>
      rw [z] at e'
      exact ⟨_, _, rfl, r1 H0 M0 M H σ env env1 d v _ g ra z fun σ1 g1 => r2 H0 M0 M H σ1 env1 env' ds vs Q g1 rb e' q⟩
def tupG (n : Nat) (γs : List VL.D → Env → Option Env) (d : VL.D) (env : Env) : Option Env := match d with
  | .tup ds => if ds.length = n then γs ds env else none
  | _ => none
theorem vg_tup {es : List Expr} {k n : Nat} {γs : List VL.D → Env → Option Env} (hc : X.calm = true) (h : VGs X es γs) (hn : (assignEach es X.env).length = n := by rfl) (hst : (assignEach es X.env).findIdx? (·.1) = none := by rfl) : VG X (.Tuple es k pos) (tupG n γs) := by
  obtain ⟨g1, p1, r1⟩ := h
  refine ⟨_, pg_tup hc p1 hn hst, fun H0 M0 M H σ env env' d v Q g r e q => ?_⟩
  cases r <;> first | (cases e; done) | skip
  case tup a xs ds ha ra =>
    have e' : (if ds.length = n then γs ds env else none) = some env' := e
    by_cases c : ds.length = n
    · rw [if_pos c] at e'
      exact ⟨a, xs, rfl, .inl (.inl (vw_tup (Sh_some ha).2)), by rw [← ra.length]; exact c, r1 H0 M0 M H σ env env' ds xs Q g ra e' q⟩
    · rw [if_neg c] at e'; cases e'
def asgS (γ : VL.D → Env → Option Env) (φ : Env → Res VL.D) (env : Env) : SRes := ofE (φ env) env fun d => match γ d env with
  | some env' => .nx env'
  | none => .bad
end
end VL

set_option maxRecDepth 100000
set_option maxHeartbeats 2000000
namespace VL
open PySem L2

def ItOk (mg : Gm) (H0 : Hp) (M : Addr → Bool) (H : Hp) (J : It) (ds : List D) : Prop :=
  ∀ (M' : Addr → Bool) (H' : Hp), MOk M' H' → Ext H0 H' → VEx (Sh M (vw H)) (Sh M' (vw H')) → ∀ i : Nat, (ds.length ≤ i → J.stop i H') ∧ ∀ d, ds[i]? = some d → J.go i H' ∧ ∀ x H2, J.yld i H' x H2 → Ext H' H2 ∧ Rp mg (Sh M' (vw H2)) d x
def PostI (X : Cx) (W : WX) (H0 : Hp) (M : Addr → Bool) (σ : L2.St) (H : Hp) (R : It → Hp → Prop) : Res (List D) → Prop
  | .ok ds => ∀ J H', Ext H H' → ItOk (gm X) H0 M H' J ds → R J H'
  | .exc c fs => ∀ cls dd H', Ext H H' → RpX (gm X) (Sh M (vw H')) c fs cls dd → W cls dd σ H'
  | .bad => False
def VI (X : Cx) (W : WX) (tg iter : Expr) (ι : Env → Res (List D)) : Prop :=
  ∃ wi : TI, PI X tg iter wi ∧ ∀ (H0 : Hp) (M0 M : Addr → Bool) (H : Hp) (σ : L2.St) (env : Env) (R : It → Hp → Prop), Good (gm X) H0 M0 M H σ env → PostI X W H0 M σ H R (ι env) → wi σ H R
theorem PostI.mono {X : Cx} {W : WX} {H0 : Hp} {M : Addr → Bool} {σ : L2.St} {H H' : Hp} {R : It → Hp → Prop} {r : Res (List D)} (h : PostI X W H0 M σ H R r) (e : Ext H H') : PostI X W H0 M σ H' R r := by
  cases r with
  | ok d => exact fun J H2 e2 r => h J H2 (e.trans e2) r
  | exc c fs => exact fun cls dd H2 e2 r => h cls dd H2 (e.trans e2) r
  | bad => exact h
theorem PostI.seq {X : Cx} {W : WX} {H0 : Hp} {fl : Bool} {M : Addr → Bool} {σ : L2.St} {H : Hp} {R : It → Hp → Prop} {r : Res D} {f : D → Res (List D)} {Q' : VK} (h : PostI X W H0 M σ H R (r.bind f))
    (k : ∀ d v H1, Ext H H1 → Rp (gm X) (vis fl M (vw H1)) d v → PostI X W H0 M σ H1 R (f d) → Q' v H1) : PostE X W fl M σ H Q' r := by
  cases r with
  | ok d => exact fun v H1 e1 r1 => k d v H1 e1 r1 (PostI.mono h e1)
  | exc c fs => exact h
  | bad => exact h
theorem PostI.args {X : Cx} {W : WX} {H0 : Hp} {fl : Bool} {M : Addr → Bool} {σ : L2.St} {H : Hp} {R : It → Hp → Prop} {r : Res (List D)} {f : List D → Res (List D)} {Q' : List V → Hp → Prop} (h : PostI X W H0 M σ H R (r.bind f))
    (k : ∀ d v H1, Ext H H1 → RpL (gm X) (vis fl M (vw H1)) d v → PostI X W H0 M σ H1 R (f d) → Q' v H1) : PostA X W fl M σ H Q' r := by
  cases r with
  | ok d => exact fun v H1 e1 r1 => k d v H1 e1 r1 (PostI.mono h e1)
  | exc c fs => exact h
  | bad => exact h
theorem pi_or {X : Cx} {tg iter : Expr} {w1 w2 : TI} (h1 : PI X tg iter w1) (h2 : PI X tg iter w2) : PI X tg iter (fun σ H R => w1 σ H R ∨ w2 σ H R) :=
  ⟨fun pins s σ H R I h => h.elim (h1.run pins s σ H R I) (h2.run pins s σ H R I)⟩
def strItems (z : Str) : List D := z.cps.toList.map fun c => .str ⟨#[c]⟩
def itemsD : D → Res (List D)
  | .lst ds => .ok ds
  | .tup ds => .ok ds
  | .str z => .ok (strItems z)
  | _ => .bad
def iE (φ : Env → Res D) (env : Env) : Res (List D) := (φ env).bind itemsD
section
variable {mg : Gm} {M M' : Addr → Bool} {H0 H H' : Hp} {K : PySem.W.Frag}
theorem itOk_list {a : Addr} {xs : List V} {ds : List D} (h : Sh M (vw H) a = some (.lst xs)) (r : RpL mg (Sh M (vw H)) ds xs) : ItOk mg H0 M H (Itl K a) ds := by
  intro M' H' m e0 e i
  have h' := e _ _ h
  have q : SqL K H' a xs := .inl (vw_lst (Sh_some h').2)
  refine ⟨fun hi => ⟨xs, q, by rw [← r.length]; exact hi⟩, fun d hd => ?_⟩
  obtain ⟨x, hx, rx⟩ := r.get hd
  refine ⟨⟨xs, x, q, hx⟩, fun y H2 z => ?_⟩
  obtain ⟨z1, z2⟩ := z
  subst z1
  have := (z2 xs q).symm.trans hx
  cases this
  exact ⟨Ext.refl _, rx.mono e⟩
theorem itOk_tup {a : Addr} {xs : List V} {ds : List D} (h : Sh M (vw H) a = some (.tup xs)) (r : RpL mg (Sh M (vw H)) ds xs) : ItOk mg H0 M H (Itt K a) ds := by
  intro M' H' m e0 e i
  have h' := e _ _ h
  have q : SqT K H' a xs := .inl (.inl (vw_tup (Sh_some h').2))
  refine ⟨fun hi => ⟨xs, q, by rw [← r.length]; exact hi⟩, fun d hd => ?_⟩
  obtain ⟨x, hx, rx⟩ := r.get hd
  refine ⟨⟨xs, x, q, hx⟩, fun y H2 z => ?_⟩
  obtain ⟨z1, z2⟩ := z
  subst z1
  have := (z2 xs q).symm.trans hx
  cases this
  exact ⟨Ext.refl _, rx.mono e⟩
theorem itOk_str {z : Str} : ItOk mg H0 M H (Its z) (strItems z) := by
  intro M' H' m e0 e i
  have hl : (strItems z).length = z.cps.size := by unfold strItems; rw [List.length_map]; exact Array.length_toList
  refine ⟨fun hi => by rw [hl] at hi; exact hi, fun d hd => ?_⟩
  unfold strItems at hd
  rw [List.getElem?_map] at hd
  cases q : z.cps.toList[i]? with
  | none => rw [q] at hd; cases hd
  | some c =>
    rw [q] at hd
    cases hd
    have q' : z.cps[i]? = some c := by rw [← Array.getElem?_toList]; exact q
    refine ⟨(Array.getElem?_eq_some_iff.mp q').1, fun x H2 y => ?_⟩
    obtain ⟨y1, c', y2, y3⟩ := y
    subst y1
    rw [q'] at y2
    cases y2
    subst y3
    exact ⟨Ext.refl _, .str _⟩
def rangeD (lo : Int) (n : Nat) : List D := (List.range n).map fun (i : Nat) => .int (lo + (i : Int))
theorem itOk_range {lo : Int} {n : Nat} : ItOk mg H0 M H (Itr lo n) (rangeD lo n) := by
  intro M' H' m e0 e i
  have hl : (rangeD lo n).length = n := by unfold rangeD; rw [List.length_map, List.length_range]
  refine ⟨fun hi => by rw [hl] at hi; exact hi, fun d hd => ?_⟩
  have hi : i < n := by
    have := (List.getElem?_eq_some_iff.mp hd).1
    rw [hl] at this; exact this
  unfold rangeD at hd
  rw [List.getElem?_map, List.getElem?_range hi] at hd
  cases hd
  refine ⟨hi, fun x H2 y => ?_⟩
  obtain ⟨y1, y2⟩ := y
  subst y1; subst y2
  exact ⟨Ext.refl _, .int _⟩
end
section
variable {X : Cx} {W : WX} {fl fla flb : Bool} {tg e iter : Expr} {es : List Expr} {sts : List Stmt} {pos : Pos} {φ : Env → Res D} {τ : Env → Res Bool} {φs : Env → Res (List D)} {ψ χ : Env → SRes} {ι : Env → Res (List D)} {γ : D → Env → Option Env}
theorem vi_seq (h : VE X W true e φ) : VI X W tg e (iE φ) := by
  obtain ⟨t, p, r⟩ := h
  refine ⟨_, pi_or (pi_list p) (pi_or (pi_tup p) (pi_str p)), fun H0 M0 M H σ env R g h => ?_⟩
  have h0 : PostI X W H0 M σ H R ((φ env).bind itemsD) := h
  have go : ∀ {Q' : VK}, (∀ d v H1, φ env = .ok d → Ext H H1 → Rp (gm X) (Sh M (vw H1)) d v → PostI X W H0 M σ H1 R (itemsD d) → Q' v H1) → t σ H Q' := fun {Q'} k => by
    refine r H0 M0 M H σ env _ g ?_
    cases q : φ env with
    | ok d => rw [q] at h0; exact fun v H1 e1 r1 => k d v H1 q e1 r1 (PostI.mono h0 e1)
    | exc c fs => rw [q] at h0; exact h0
    | bad => rw [q] at h0; exact h0
  have pick : (∃ ds, φ env = .ok (.tup ds)) ∨ (∃ z, φ env = .ok (.str z)) ∨ ∀ d, φ env = .ok d → (∀ ds, d ≠ .tup ds) ∧ ∀ z, d ≠ .str z := by
    cases q : φ env with
    | ok d =>
      cases d with
      | tup ds => exact .inl ⟨ds, rfl⟩
      | str z => exact .inr (.inl ⟨z, rfl⟩)
      | _ => exact .inr (.inr fun d hd => by cases hd; exact ⟨(fun _ z => nomatch z), (fun _ z => nomatch z)⟩)
    | exc c fs => exact .inr (.inr fun d hd => by cases hd)
    | bad => exact .inr (.inr fun d hd => by cases hd)
  rcases pick with ⟨ds, q⟩ | ⟨z, q⟩ | q
  · refine .inr (.inl (go fun d v H1 qd e1 r1 h1 => ?_))
    rw [q] at qd; cases qd
    cases r1 with
    | tup ha ra => exact ⟨_, rfl, ⟨_, .inl (.inl (vw_tup (Sh_some ha).2))⟩, h1 _ H1 (Ext.refl _) (itOk_tup ha ra)⟩
  · refine .inr (.inr (go fun d v H1 qd e1 r1 h1 => ?_))
    rw [q] at qd; cases qd
    cases r1
    exact ⟨z, rfl, h1 _ H1 (Ext.refl _) itOk_str⟩
  · refine .inl (go fun d v H1 qd e1 r1 h1 => ?_)
    obtain ⟨n1, n2⟩ := q d qd
    cases d with
    | lst ds =>
      cases r1 with
      | lst ha ra => exact ⟨_, rfl, ⟨_, .inl (vw_lst (Sh_some ha).2)⟩, h1 _ H1 (Ext.refl _) (itOk_list ha ra)⟩
    | tup ds => exact absurd rfl (n1 ds)
    | str z => exact absurd rfl (n2 z)
    | _ => exact h1.elim
def small62 (j : Int) : Bool := decide (j.natAbs.log2 < 62)
theorem small62_bd {j : Int} (h : small62 j = true) : -4611686018427387904 ≤ j ∧ j < 4611686018427387904 := by
  have h' : j.natAbs.log2 < 62 := of_decide_eq_true h
  by_cases hz : j.natAbs = 0
  · omega
  · have := (Nat.log2_lt hz).mp h'
    omega
theorem small62_of {j : Int} (h : -4611686018427387904 < j) (h2 : j < 4611686018427387904) : small62 j = true := by
  refine decide_eq_true ?_
  by_cases hz : j.natAbs = 0
  · rw [hz]; decide
  · exact (Nat.log2_lt hz).mpr (by omega)
def range1 : List D → Res (List D)
  | [.int j] => if small62 j = true then .ok (rangeD 0 j.toNat) else .bad
  | _ => .bad
def aI (f : List D → Res (List D)) (φs : Env → Res (List D)) (env : Env) : Res (List D) := (φs env).bind f
theorem PostI.ite {H0 : Hp} {M : Addr → Bool} {σ : L2.St} {H : Hp} {R : It → Hp → Prop} {c : Prop} [Decidable c] {r : Res (List D)} (h : PostI X W H0 M σ H R (if c then r else .bad)) : c ∧ PostI X W H0 M σ H R r := by
  by_cases hc : c
  · rw [if_pos hc] at h; exact ⟨hc, h⟩
  · rw [if_neg hc] at h; exact h.elim
theorem vi_range1 {a : Expr} {p : Pos} (hm : X.mg "range" = none) (ha : VA X W fl [a] φs) (hg : Gl X "range" := by rfl) (hs : starEach [a] X.env = [(false, eval a X.env)] := by rfl) : VI X W tg (.Call (.Name "range" p) [a] [] pos) (aI range1 φs) := by
  obtain ⟨t, pt, r⟩ := ha
  refine ⟨_, pi_range1 hg hm pt hs, fun H0 M0 M H σ env R g h => ?_⟩
  refine r H0 M0 M H σ env _ g (PostI.args h fun ds vs H1 e1 r1 h1 => ?_)
  cases r1 with
  | nil => exact h1.elim
  | cons r t =>
    cases t with
    | cons _ _ => cases r <;> exact h1.elim
    | nil =>
      cases r <;> first | exact h1.elim | skip
      obtain ⟨hs, h1⟩ := PostI.ite h1
      exact ⟨_, rfl, (small62_bd hs).1, (small62_bd hs).2, h1 _ H1 (Ext.refl _) itOk_range⟩
def flowL (r : SRes) (k : Env → SRes) : SRes := match r with
  | .nx env => k env
  | .ct env => k env
  | .bk env => .nx env
  | r => r
def forL (γ : D → Env → Option Env) (ψ : Env → SRes) : List D → Env → SRes
  | [], env => .nx env
  | d :: ds, env => match γ d env with
    | none => .bad
    | some env1 => flowL (ψ env1) (forL γ ψ ds)
def forS (γ : D → Env → Option Env) (ι : Env → Res (List D)) (ψ : Env → SRes) (env : Env) : SRes := ofA (ι env) env fun ds => forL γ ψ ds env
theorem vs_for (hp : PassesOwn (model X.prog X.w) X.A X.env X.xe) (hc : X.calm = true) (hi : VI X W tg iter ι) (hg : VG X tg γ) (hb : VB X W sts ψ) (hs : ∀ x, foldedSetIterable iter X.env x = pure x := by intro _; rfl) : VS X W (.For tg iter sts [] pos) (forS γ ι ψ) := by
  obtain ⟨wi, pi, ri⟩ := hi
  obtain ⟨tg', pg, rg⟩ := hg
  obtain ⟨tb, pb, rb⟩ := hb
  refine ⟨_, ps_for hp hc pi pg pb hs, fun H0 M0 M H σ env D g h => ?_⟩
  refine ri H0 M0 M H σ env _ g ?_
  unfold forS at h
  cases q : ι env with
  | bad => rw [q] at h; exact h
  | exc c fs => rw [q] at h; exact fun cls dd H1 e1 r1 => h M H1 σ cls dd (g.mono e1) (Sh_mono e1.v) r1
  | ok ds =>
    rw [q] at h
    intro J H1 e1 ok
    have h1 : PostS X W H0 M0 M H1 D (forL γ ψ ds env) := PostS.mono h (Sh_mono e1.v)
    refine ⟨fun i m σ' H' => m = ds.length - i ∧ ∃ M' env', Good (gm X) H0 M0 M' H' σ' env' ∧ VEx (Sh M (vw H1)) (Sh M' (vw H')) ∧ PostS X W H0 M0 M' H' D (forL γ ψ (ds.drop i) env'), ⟨ds.length, rfl, M, env, g.mono e1, .refl _, h1⟩, ?_⟩
    rintro i m σ' H' ⟨rfl, M', env', g', e', h'⟩
    obtain ⟨o1, o2⟩ := ok M' H' g'.ok g'.ex e' i
    cases qd : ds[i]? with
    | none =>
      have hi : ds.length ≤ i := List.getElem?_eq_none_iff.mp qd
      rw [List.drop_of_length_le hi] at h'
      exact .inl ⟨o1 hi, h' M' H' σ' g' (.refl _)⟩
    | some d =>
      obtain ⟨o3, o4⟩ := o2 d qd
      have hi : i < ds.length := (List.getElem?_eq_some_iff.mp qd).1
      have hdr : ds.drop i = d :: ds.drop (i + 1) := by
        rw [List.drop_eq_getElem_cons hi]
        rw [List.getElem?_eq_getElem hi] at qd
        cases qd; rfl
      rw [hdr] at h'
      unfold forL at h'
      cases qg : γ d env' with
      | none => rw [qg] at h'; exact h'.elim
      | some env1 =>
        rw [qg] at h'
        refine .inr ⟨o3, fun σ2 H2 => ∃ M2 env2, Good (gm X) H0 M0 M2 H2 σ2 env2 ∧ VEx (Sh M (vw H1)) (Sh M2 (vw H2)) ∧ PostS X W H0 M0 M2 H2 D (forL γ ψ (ds.drop (i + 1)) env2), fun σ2 H2 ⟨M2, env2, x1, x2, x3⟩ => ⟨ds.length - (i + 1), by omega, rfl, M2, env2, x1, x2, x3⟩, fun x H2 y => ?_⟩
        obtain ⟨ey, ry⟩ := o4 x H2 y
        refine rg H0 M0 M' H2 σ' env' env1 d x _ (g'.mono ey) ry qg fun σ3 g3 => ?_
        have h3 : PostS X W H0 M0 M' H2 D (flowL (ψ env1) (forL γ ψ (ds.drop (i + 1)))) := PostS.mono h' (Sh_mono (M := M') ey.v)
        have e3 := e'.trans (Sh_mono (M := M') ey.v)
        refine rb H0 M0 M' H2 σ3 env1 _ g3 ?_
        cases qb : ψ env1 with
        | nx env2 => rw [qb] at h3; exact fun M4 H4 σ4 g4 e4 => ⟨M4, env2, g4, e3.trans e4, PostS.mono h3 e4⟩
        | ct env2 => rw [qb] at h3; exact fun M4 H4 σ4 g4 e4 => ⟨M4, env2, g4, e3.trans e4, PostS.mono h3 e4⟩
        | bk env2 => rw [qb] at h3; exact h3
        | rt d => rw [qb] at h3; exact h3
        | xc c fs env2 => rw [qb] at h3; exact h3
        | bad => rw [qb] at h3; exact h3
        | ro d => rw [qb] at h3; exact h3
end
end VL

set_option maxRecDepth 100000
set_option maxHeartbeats 2000000
namespace VL
open PySem L2

def env0 (m : Nat) (ds : List D) : Env := ds.map .sh ++ List.replicate (m - ds.length) .no
def outS : SRes → Res D
  | .rt d => .ok d
  | .nx _ => .ok .non
  | .xc c fs _ => .exc c fs
  | _ => .bad
def defM (m : Nat) (ψ : Env → SRes) (ds : List D) : Res D := outS (ψ (env0 m ds))
theorem good0 {mg : Gm} {H : Hp} {M : Addr → Bool} {ds : List D} {vs : List V} {N : List Str} (m : MOk M H) (r : RpL mg (Sh M (vw H)) ds vs) : Good mg H M M H (L2.start N vs) (env0 N.length ds) where
  len := by unfold L2.start env0; rw [List.length_append, List.length_append, List.length_map, List.length_map, List.length_replicate, List.length_replicate, r.length]
  ok := m
  sub := fun a h => h
  new := fun a h => .inl h
  ok0 := m
  ex := .refl H
  sl := fun i s h => by
    unfold env0 at h
    by_cases hi : i < ds.length
    · rw [List.getElem?_append_left (by rw [List.length_map]; exact hi), List.getElem?_map] at h
      cases q : ds[i]? with
      | none => rw [q] at h; cases h
      | some d =>
        rw [q] at h
        cases h
        obtain ⟨v, hv, rv⟩ := r.get q
        refine ⟨v, ?_, rv⟩
        unfold L2.start
        rw [List.getElem?_append_left (by rw [List.length_map, ← r.length]; exact hi), List.getElem?_map, hv]
        rfl
    · rw [List.getElem?_append_right (by rw [List.length_map]; omega)] at h
      have := List.mem_of_getElem? h
      rw [List.mem_replicate] at this
      rw [this.2]
      trivial
  inj := fun i j p hne h1 h2 h3 => by
    have no : isOw (env0 N.length ds)[i]? = false := by
      unfold env0
      by_cases hi : i < ds.length
      · rw [List.getElem?_append_left (by rw [List.length_map]; exact hi), List.getElem?_map]
        cases ds[i]? <;> rfl
      · rw [List.getElem?_append_right (by rw [List.length_map]; omega)]
        cases q : (List.replicate (N.length - ds.length) Sl.no)[i - (List.map Sl.sh ds).length]? with
        | none => rfl
        | some s =>
          have := List.mem_of_getElem? q
          rw [List.mem_replicate] at this
          rw [this.2]; rfl
    rw [no] at h1; cases h1
abbrev WB (E : XK) : WX := fun cls d _ H => E cls d H
theorem fun_okN {P : Program} {w : World} {K : PySem.W.Frag} {mg : Str → Option Value} {base : Heap} {CX : CXT} {x qual : Str} {st : Stmt} {f : Addr} {fd : FuncData} {N ps : List Str} {k : Nat} {sp : Sp} (F : Fun K x qual st f fd) (S : FnScope N ps (defScope st)) (len : ∀ vs H Q E, sp vs H Q E → vs.length = ps.length)
    (hbody : ∀ (cdv : Value) (A : Around) (outer : List PySem.Env) (s : Shared) (H : Hp) (vs : List V) (Q : VK) (E : XK), Room k (A.deeper (PyProof.Rows.envOfC qual (defScope st) s.heap.objs.size f cdv)) → sp vs H Q E →
      ∃ t, PSs (cxOf CX P w K mg base N qual (defScope st) f cdv A outer s H E) (defBody st) t ∧ t { nx := fun _ H' => Q .non H', rt := Q } (L2.start N vs) H) : FnOk P w K mg base CX (k + 1) f fd ps sp := by
  obtain ⟨oc, od, kV, doc, pm, an, cdv, ct, osl, rfl, lk, hcd⟩ := F.ex
  exact fn_of lk hcd S len fun A outer s H vs Q E hr hsp => hbody cdv A outer s H vs Q E hr hsp
theorem fn_v {P : Program} {w : World} {K : PySem.W.Frag} {mg : Str → Option Value} {base : Heap} {x qual : Str} {st : Stmt} {f : Addr} {fd : FuncData} {N ps : List Str} {k n : Nat} {ψ : Env → SRes} (F : Fun K x qual st f fd) (S : FnScope N ps (defScope st)) (hn : ps.length = n)
    (body : ∀ (cdv : Value) (A : Around) (outer : List PySem.Env) (s : Shared) (H : Hp) (E : XK), Room k (A.deeper (PyProof.Rows.envOfC qual (defScope st) s.heap.objs.size f cdv)) →
      L2N.Takes (cxOf (L2N.CX P w) P w K mg base N qual (defScope st) f cdv A outer s H E) (WB E) →
      PassesOwn (model P w) (A.deeper (PyProof.Rows.envOfC qual (defScope st) s.heap.objs.size f cdv)) (PyProof.Rows.envOfC qual (defScope st) s.heap.objs.size f cdv) (cxOf (L2N.CX P w) P w K mg base N qual (defScope st) f cdv A outer s H E).xe →
      VB (cxOf (L2N.CX P w) P w K mg base N qual (defScope st) f cdv A outer s H E) (WB E) (defBody st) ψ) :
    FnOk P w K mg base (L2N.CX P w) (k + 1) f fd ps (spV ⟨P, w, K, mg⟩ n (defM N.length ψ)) := by
  refine fun_okN F S (fun vs H Q E h => h.1.trans hn.symm) fun cdv A outer s H vs Q E hr h => ?_
  obtain ⟨hl, M, ds, m, r, post⟩ := h
  obtain ⟨t, p, rr⟩ := body cdv A outer s H E hr (L2N.takes_of rfl rfl rfl rfl) (passes_of rfl)
  refine ⟨t, p, rr H M M H _ (env0 N.length ds) _ (good0 m r) ?_⟩
  unfold defM at post
  cases q : ψ (env0 N.length ds) with
  | rt d => rw [q] at post; exact fun v H' e r' => post v H' e r'
  | nx env => rw [q] at post; exact fun M' H' σ' g e => post .non H' g.ex .non
  | bk env => rw [q] at post; exact post.elim
  | ct env => rw [q] at post; exact post.elim
  | xc c fs env =>
    rw [q] at post
    exact fun M' H' σ' cls dd g e r' => post cls dd H' g.ex (r'.mono (Good.rt (X := cxOf (L2N.CX P w) P w K mg base N qual (defScope st) f cdv A outer s H E) g))
  | bad => rw [q] at post; exact post
  | ro d => rw [q] at post; exact post.elim
theorem fn_is {P : Program} {w : World} {K : PySem.W.Frag} {mg : Str → Option Value} {base : Heap} {CX : CXT} {f : Addr} {fd : FuncData} {ps : List Str} {k n : Nat} {gm : Gm} {F G : List D → Res D} (h : FnOk P w K mg base CX k f fd ps (spV gm n F)) (e : ∀ ds, G ds ≠ .bad → F ds = G ds) :
    FnOk P w K mg base CX k f fd ps (spV gm n G) := h.imp fun vs H Q E s => by
  obtain ⟨hl, M, ds, m, r, post⟩ := s
  refine ⟨hl, M, ds, m, r, ?_⟩
  by_cases c : G ds = .bad
  · rw [c] at post; exact post.elim
  · rw [e ds c]; exact post

def tVE (g : Gm) (X : Cx) (W : WX) (fl : Bool) (φ : Env → Res D) : TE := fun σ H Q => ∃ H0 M0 M env, Good g H0 M0 M H σ env ∧ PostE X W fl M σ H Q (φ env)
def tVT (g : Gm) (X : Cx) (W : WX) (τ : Env → Res Bool) : TT := fun σ H Q => ∃ H0 M0 M env, Good g H0 M0 M H σ env ∧ PostT X W M σ H Q (τ env)
def wipeE : Env → List Nat → Env
  | env, [] => env
  | env, v :: vs => (wipeE env vs).set v .no
theorem Good.no {mg : Gm} {H0 H : Hp} {M0 M : Addr → Bool} {σ : L2.St} {env : Env} (g : Good mg H0 M0 M H σ env) (i : Nat) (x : Option V) : Good mg H0 M0 M H (σ.set i x) (env.set i .no) where
  len := by rw [List.length_set, List.length_set]; exact g.len
  ok := g.ok
  sub := g.sub
  new := g.new
  ok0 := g.ok0
  ex := g.ex
  sl := fun j s h => by
    by_cases e : j = i
    · subst e
      have hj : j < env.length := by
        have := (List.getElem?_eq_some_iff.mp h).1
        rw [List.length_set] at this; exact this
      rw [List.getElem?_set_self hj] at h
      cases h
      trivial
    · rw [get_set_ne e] at h ⊢
      exact g.sl j s h
  inj := fun j k p hne h1 h2 h3 => by
    by_cases e1 : j = i
    · subst e1; rw [isOw_sh rfl] at h1; cases h1
    · by_cases e2 : k = i
      · subst e2; rw [isOw_sh rfl] at h2; cases h2
      · rw [get_set_ne e1] at h1 h3
        rw [get_set_ne e2] at h2 ⊢
        exact g.inj j k p hne h1 h2 h3
theorem Good.wipe {mg : Gm} {H0 H : Hp} {M0 M : Addr → Bool} {σ : L2.St} {env : Env} (g : Good mg H0 M0 M H σ env) : ∀ vs : List Nat, Good mg H0 M0 M H (L2.wipe σ vs) (wipeE env vs)
  | [] => g
  | v :: vs => (Good.wipe g vs).no v none
theorem Good.beside {mg : Gm} {H0 H H' : Hp} {M0 M : Addr → Bool} {σ : L2.St} {env : Env} (g : Good mg H0 M0 M H σ env) {p : Addr} (hp : H p = none) (e : Ext H H') {xs : List V} (hx : H' p = some (.lst xs)) : Good mg H0 M0 (addM M p) H' σ env where
  len := g.len
  ok := by
    have m := g.ok.mono e
    refine ⟨fun a h => ?_, fun a xs h z => ?_, fun a fs h z => ?_⟩
    · by_cases q : a = p
      · subst q; exact ⟨_, hx⟩
      · rw [addM_ne q] at h; exact m.dom a h
    · by_cases q : a = p
      · subst q; rw [hx] at z; cases z
      · rw [addM_ne q] at h; exact m.tup a xs h z
    · by_cases q : a = p
      · subst q; rw [hx] at z; cases z
      · rw [addM_ne q] at h; exact m.xd a fs h z
  sub := fun a h => by
    by_cases q : a = p
    · subst q; exact addM_self
    · rw [addM_ne q]; exact g.sub a h
  new := fun a h => by
    by_cases q : a = p
    · subst q; exact .inr (g.h0 hp)
    · rw [addM_ne q] at h; exact g.new a h
  ok0 := g.ok0
  ex := g.ex.trans e
  sl := fun j s h => (g.sl j s h).imp (sh_add e hp) fun a _ ha => ⟨by
    have : a ≠ p := fun z => by rw [z, (g.nm hp).1] at ha; cases ha
    rw [addM_ne this]; exact ha, fun o ho => e a o ho⟩
  inj := g.inj
theorem Good.turn {mg : Gm} {H0 H : Hp} {M0 M : Addr → Bool} {σ : L2.St} {env : Env} (g : Good mg H0 M0 M H σ env) {p : Addr} {xs : List V} (mp : M p = true) (h0 : H0 p = none) (hs : ∀ i : Nat, isOw env[i]? = true → σ[i]? ≠ some (some (V.ref p))) : Good mg H0 M0 M (upd H p (.lst xs)) σ env where
  len := g.len
  ok := by
    refine ⟨fun a h => ?_, fun a xs h z => ?_, fun a fs h z => ?_⟩
    · by_cases q : a = p
      · subst q; exact ⟨_, upd_same⟩
      · rw [upd_ne q]; exact g.ok.dom a h
    · by_cases q : a = p
      · subst q; rw [upd_same] at z; cases z
      · rw [upd_ne q] at z; exact g.ok.tup a xs h z
    · by_cases q : a = p
      · subst q; rw [upd_same] at z; cases z
      · rw [upd_ne q] at z; exact g.ok.xd a fs h z
  sub := g.sub
  new := g.new
  ok0 := g.ok0
  ex := g.ex.mut h0
  sl := fun j s h => by
    cases s with
    | no => trivial
    | sh d =>
      obtain ⟨x, e2, r2⟩ := g.sl j _ h
      exact ⟨x, e2, by rw [sh_mut mp]; exact r2⟩
    | ow d =>
      obtain ⟨a, e2, m2, m3, r2⟩ := g.sl j _ h
      have hne : a ≠ p := fun z => by subst z; exact hs j (by rw [h]; rfl) e2
      exact ⟨a, e2, m2, m3, r2.imp (by rw [sh_mut mp]; exact .refl _) fun o ho => by rw [upd_ne hne]; exact ho⟩
  inj := g.inj
end VL

set_option maxRecDepth 100000
set_option maxHeartbeats 2000000
namespace VL
open PySem L2

theorem wipe_get (σ : L2.St) : ∀ (vs : List Nat) (j : Nat), (L2.wipe σ vs)[j]? = if j ∈ vs ∧ j < σ.length then some none else if j ∈ vs then none else σ[j]?
  | [], j => by simp [L2.wipe]
  | v :: vs, j => by
    show ((L2.wipe σ vs).set v none)[j]? = _
    by_cases e : j = v
    · subst e
      by_cases hl : j < σ.length
      · rw [List.getElem?_set_self (by rw [L2.wipe_length]; exact hl), if_pos ⟨List.mem_cons_self, hl⟩]
      · rw [List.getElem?_eq_none (by rw [List.length_set, L2.wipe_length]; omega), if_neg (fun q => hl q.2), if_pos List.mem_cons_self]
    · rw [List.getElem?_set_ne (Ne.symm e), wipe_get σ vs j]
      have : j ∈ v :: vs ↔ j ∈ vs := by simp [e]
      simp only [this]
theorem wipe_set {σ : L2.St} {vs : List Nat} {i : Nat} {x : Option V} (h : i ∈ vs) : L2.wipe (σ.set i x) vs = L2.wipe σ vs := by
  apply List.ext_getElem?
  intro j
  rw [wipe_get, wipe_get, List.length_set]
  by_cases e : j = i
  · subst e
    simp only [h, true_and, if_true]
  · rw [List.getElem?_set_ne (Ne.symm e)]
theorem wipe_wipe {σ : L2.St} {vs : List Nat} : L2.wipe (L2.wipe σ vs) vs = L2.wipe σ vs := by
  apply List.ext_getElem?
  intro j
  rw [wipe_get, wipe_get, L2.wipe_length]
  by_cases h : j ∈ vs
  · simp only [h, true_and, if_true]
  · simp only [h, false_and, if_false]
def VGc (vs : List Nat) (X : Cx) (tg : Expr) (γ : D → Env → Option Env) : Prop :=
  ∃ g : TG, PG X tg g ∧ ∀ (H0 : Hp) (M0 M : Addr → Bool) (H : Hp) (σ : L2.St) (env env' : Env) (d : D) (v : V) (Q : L2.St → Hp → Prop), Good (gm X) H0 M0 M H σ env → Rp (gm X) (Sh M (vw H)) d v → γ d env = some env' → (∀ σ', Good (gm X) H0 M0 M H σ' env' → L2.wipe σ' vs = L2.wipe σ vs → Q σ' H) → g v σ H Q
def VTs (X : Cx) (W : WX) (ifs : List Expr) (τ : Env → Res Bool) : Prop :=
  ∃ t : TT, PTs X ifs t ∧ ∀ (H0 : Hp) (M0 M : Addr → Bool) (H : Hp) (σ : L2.St) (env : Env) (Q : Bool → Hp → Prop), Good (gm X) H0 M0 M H σ env → PostT X W M σ H Q (τ env) → t σ H Q
def yesT (_ : Env) : Res Bool := .ok true
abbrev W0 : WX := fun _ _ _ _ => False
section
variable {X : Cx} {W : WX} {vs : List Nat} {e : Expr} {pos : Pos} {τ : Env → Res Bool}
theorem vgc_n (i : Nat) {x : Str} (hm : i ∈ vs) (hN : X.N.Nodup) (hi : X.N[i]? = some x := by rfl) (hx : Loc X.env.scope x := by first | exact Or.inl rfl | exact Or.inr rfl) (hf : X.fn x = true ∨ X.env.scope.names.lookup x = some .local := by first | exact .inl rfl | exact .inr rfl | assumption) :
    VGc vs X (.Name x pos) (gnG i) := ⟨_, pg_name hN hi hx hf, fun H0 M0 M H σ env env' d v Q g r e q => by cases e; exact q _ (g.set r) (wipe_set hm)⟩
theorem vts_nil : VTs X W [] yesT := ⟨_, pts_nil, fun H0 M0 M H σ env Q g h => h H (Ext.refl H)⟩
theorem vts_one (h : VT X W e τ) : VTs X W [e] τ := by
  obtain ⟨t, p, r⟩ := h
  exact ⟨_, pts_one p, r⟩
end
def compL (γ : D → Env → Option Env) (τ : Env → Res Bool) (φ : Env → Res D) (env : Env) : List D → List D → Res D
  | [], acc => .ok (.lst acc)
  | d :: ds, acc => match γ d env with
    | none => .bad
    | some env1 => match τ env1 with
      | .ok true => (match φ env1 with
        | .ok y => if acc.length < sizeLine then compL γ τ φ env ds (acc ++ [y]) else .bad
        | _ => .bad)
      | .ok false => compL γ τ φ env ds acc
      | _ => .bad
def lcE (vs : List Nat) (γ : D → Env → Option Env) (ι : Env → Res (List D)) (τ : Env → Res Bool) (φ : Env → Res D) (env : Env) : Res D := (ι env).bind fun ds => compL γ τ φ (wipeE env vs) ds []
def tGc (g : Gm) (vs : List Nat) (γ : D → Env → Option Env) : TG := fun v σ H Q => ∃ (H0 : Hp) (M0 M : Addr → Bool) (env env' : Env) (d : D), Good g H0 M0 M H σ env ∧ Rp g (Sh M (vw H)) d v ∧ γ d env = some env' ∧ ∀ σ', Good g H0 M0 M H σ' env' → L2.wipe σ' vs = L2.wipe σ vs → Q σ' H
section
variable {X : Cx} {W : WX} {tg iter elt : Expr} {ifs : List Expr} {scope : Scope} {own : List (Str × Nat)} {pos : Pos} {ι : Env → Res (List D)} {γ : D → Env → Option Env} {τ : Env → Res Bool} {φ : Env → Res D}
theorem lc_parts {own : List (Str × Nat)} (hg : ∀ (s : Shared) (H : Hp) (C : Addr) (cl : List (Str × Addr)) (fp : List Addr), VGc (own.map (·.2)) (X.blk s H scope (compEnvC scope cl C X.env) fp) tg γ)
    (ht : ∀ (s : Shared) (H : Hp) (C : Addr) (cl : List (Str × Addr)) (fp : List Addr), VTs (X.blk s H scope (compEnvC scope cl C X.env) fp) W0 ifs τ)
    (he : ∀ (s : Shared) (H : Hp) (C : Addr) (cl : List (Str × Addr)) (fp : List Addr), VE (X.blk s H scope (compEnvC scope cl C X.env) fp) W0 true elt φ) :
    (∀ (s : Shared) (H : Hp) (C : Addr) (cl : List (Str × Addr)) (fp : List Addr), PG (X.blk s H scope (compEnvC scope cl C X.env) fp) tg (tGc (gm X) (own.map (·.2)) γ)) ∧
    (∀ (s : Shared) (H : Hp) (C : Addr) (cl : List (Str × Addr)) (fp : List Addr), PTs (X.blk s H scope (compEnvC scope cl C X.env) fp) ifs (tVT (gm X) X W0 τ)) ∧
    ∀ (s : Shared) (H : Hp) (C : Addr) (cl : List (Str × Addr)) (fp : List Addr), PE (X.blk s H scope (compEnvC scope cl C X.env) fp) elt (tVE (gm X) X W0 true φ) := by
  refine ⟨fun s H C cl fp => ?_, fun s H C cl fp => ?_, fun s H C cl fp => ?_⟩
  · obtain ⟨g, p, r⟩ := hg s H C cl fp
    exact ⟨fun pins s1 σ1 H1 v u Q I rv ⟨H0, M0, M, env, env', d, g0, rp, e, k⟩ => p.run pins s1 σ1 H1 v u Q I rv (r H0 M0 M H1 σ1 env env' d v Q g0 rp e k)⟩
  · obtain ⟨g, p, r⟩ := ht s H C cl fp
    exact ⟨fun pins s1 σ1 H1 Q I ⟨H0, M0, M, env, g0, k⟩ => p.run pins s1 σ1 H1 Q I (r H0 M0 M H1 σ1 env Q g0 k)⟩
  · obtain ⟨g, p, r⟩ := he s H C cl fp
    exact ⟨fun pins s1 σ1 H1 Q I ⟨H0, M0, M, env, g0, k⟩ => p.run pins s1 σ1 H1 Q I (r H0 M0 M H1 σ1 env Q g0 k)⟩
theorem lc_read {wi : TI} (vs : List Nat) {H0 : Hp} {M0 M : Addr → Bool} {H : Hp} {σ : L2.St} {env : Env} {Q : VK} (ri : ∀ R : It → Hp → Prop, PostI X W H0 M σ H R (ι env) → wi σ H R) (g : Good (gm X) H0 M0 M H σ env) (h : PostN X W M σ H Q (lcE vs γ ι τ φ env)) :
    tLc wi (tGc (gm X) vs γ) (tVT (gm X) X W0 τ) (tVE (gm X) X W0 true φ) vs σ H Q := by
  refine ri _ ?_
  have h0 : PostN X W M σ H Q ((ι env).bind fun ds => compL γ τ φ (wipeE env vs) ds []) := h
  cases q : ι env with
  | bad => rw [q] at h0; exact h0
  | exc c fs => rw [q] at h0; exact h0
  | ok ds =>
    rw [q] at h0
    have h1 : PostN X W M σ H Q (compL γ τ φ (wipeE env vs) ds []) := h0
    clear h0 h
    intro J H1 e1 ok1 Dd hD
    have gw := (g.mono e1).wipe vs
    have hs0 : ∀ i : Nat, isOw (wipeE env vs)[i]? = true → (L2.wipe σ vs)[i]? ≠ some (some (V.ref Dd)) := fun i ho hr => by
      cases z : (wipeE env vs)[i]? with
      | none => rw [z] at ho; cases ho
      | some s =>
        rw [z] at ho
        cases s with
        | ow d =>
          obtain ⟨p, hp, mp, _⟩ := gw.sl i _ z
          rw [hr] at hp
          cases hp
          rw [(gw.nm hD).1] at mp; cases mp
        | no => cases ho
        | sh _ => cases ho
    refine ⟨fun i m Hc => m = ds.length - i ∧ ∃ (acc : List V) (accD : List D), Good (gm X) H0 M0 (addM M Dd) Hc (L2.wipe σ vs) (wipeE env vs) ∧ Hc Dd = some (.lst acc) ∧ RpL (gm X) (Sh (addM M Dd) (vw Hc)) accD acc ∧
      VEx (Sh M (vw H1)) (Sh (addM M Dd) (vw Hc)) ∧ Ext H1 Hc ∧ PostN X W M σ H Q (compL γ τ φ (wipeE env vs) (ds.drop i) accD), ⟨ds.length, rfl, [], [], gw.beside hD (Ext.new hD) upd_same, upd_same, .nil, sh_add (Ext.new hD) hD, Ext.new hD, h1⟩, ?_⟩
    rintro i m Hc ⟨rfl, acc, accD, gc, hx, rx, ve, ex, hp⟩
    obtain ⟨o1, o2⟩ := ok1 _ Hc gc.ok gc.ex ve i
    cases qd : ds[i]? with
    | none =>
      have hi : ds.length ≤ i := List.getElem?_eq_none_iff.mp qd
      rw [List.drop_of_length_le hi] at hp
      exact .inl ⟨o1 hi, hp Dd Hc (e1.fresh hD) (e1.trans ex) ⟨acc, hx, rx⟩⟩
    | some d =>
      obtain ⟨o3, o4⟩ := o2 d qd
      have hi : i < ds.length := (List.getElem?_eq_some_iff.mp qd).1
      have hdr : ds.drop i = d :: ds.drop (i + 1) := by
        rw [List.drop_eq_getElem_cons hi]
        rw [List.getElem?_eq_getElem hi] at qd
        cases qd; rfl
      rw [hdr] at hp
      unfold compL at hp
      refine .inr ⟨o3, fun Hc' => ∃ (acc : List V) (accD : List D), Good (gm X) H0 M0 (addM M Dd) Hc' (L2.wipe σ vs) (wipeE env vs) ∧ Hc' Dd = some (.lst acc) ∧ RpL (gm X) (Sh (addM M Dd) (vw Hc')) accD acc ∧
        VEx (Sh M (vw H1)) (Sh (addM M Dd) (vw Hc')) ∧ Ext H1 Hc' ∧ PostN X W M σ H Q (compL γ τ φ (wipeE env vs) (ds.drop (i + 1)) accD), fun Hc' w => ⟨ds.length - (i + 1), by omega, rfl, w⟩, fun x H2 y => ?_⟩
      obtain ⟨ey, ry⟩ := o4 x H2 y
      cases qg : γ d (wipeE env vs) with
      | none => rw [qg] at hp; exact hp.elim
      | some env1 =>
        rw [qg] at hp
        refine ⟨H0, M0, addM M Dd, _, env1, d, gc.mono ey, ry, qg, fun σ2 g2 w2 => ⟨by rw [w2, wipe_wipe], ?_⟩⟩
        refine ⟨H0, M0, addM M Dd, env1, g2, ?_⟩
        have hp2 : PostN X W M σ H Q (match τ env1 with
          | .ok true => (match φ env1 with
            | .ok y => if accD.length < sizeLine then compL γ τ φ (wipeE env vs) (ds.drop (i + 1)) (accD ++ [y]) else .bad
            | _ => .bad)
          | .ok false => compL γ τ φ (wipeE env vs) (ds.drop (i + 1)) accD
          | _ => .bad) := hp
        cases qt : τ env1 with
        | bad => rw [qt] at hp2; exact hp2.elim
        | exc c fs => rw [qt] at hp2; exact hp2.elim
        | ok b =>
          rw [qt] at hp2
          intro H3 e3
          cases b with
          | false =>
            rw [if_neg Bool.false_ne_true]
            exact ⟨acc, accD, (gc.mono ey).mono e3, e3 _ _ (ey _ _ hx), rx.mono (Sh_mono (ey.trans e3).v), ve.trans (Sh_mono (ey.trans e3).v), (ex.trans ey).trans e3, hp2⟩
          | true =>
            rw [if_pos rfl]
            refine ⟨H0, M0, addM M Dd, env1, g2.mono e3, ?_⟩
            have hp3 : PostN X W M σ H Q (match φ env1 with
              | .ok y => if accD.length < sizeLine then compL γ τ φ (wipeE env vs) (ds.drop (i + 1)) (accD ++ [y]) else .bad
              | _ => .bad) := hp2
            cases qf : φ env1 with
            | bad => rw [qf] at hp3; exact hp3.elim
            | exc c fs => rw [qf] at hp3; exact hp3.elim
            | ok yD =>
              rw [qf] at hp3
              intro v H4 e4 r4
              have hp4 : PostN X W M σ H Q (if accD.length < sizeLine then compL γ τ φ (wipeE env vs) (ds.drop (i + 1)) (accD ++ [yD]) else .bad) := hp3
              by_cases cz : accD.length < sizeLine
              · rw [if_pos cz] at hp4
                have e34 : Ext Hc H4 := (ey.trans e3).trans e4
                have gm4 := gc.mono e34
                have rx4 : RpL (gm X) (Sh (addM M Dd) (vw H4)) accD acc := rx.mono (Sh_mono e34.v)
                refine ⟨acc, e34 _ _ hx, by rw [← rx.length]; exact cz, acc ++ [v], accD ++ [yD], gm4.turn addM_self (g.h0 (e1.fresh hD)) hs0, upd_same, ?_, ?_, ?_, hp4⟩
                · rw [sh_mut addM_self]; exact rx4.append (.cons r4 .nil)
                · rw [sh_mut addM_self]; exact ve.trans (Sh_mono e34.v)
                · exact (ex.trans e34).mut hD
              · rw [if_neg cz] at hp4; exact hp4.elim
theorem vf_lc (hc : X.calm = true) (hN : X.N.Nodup) (hi : VI X W tg iter ι) (ok : BlkOk X.N X.env.scope scope own)
    (hg : ∀ (s : Shared) (H : Hp) (C : Addr) (cl : List (Str × Addr)) (fp : List Addr), VGc (own.map (·.2)) (X.blk s H scope (compEnvC scope cl C X.env) fp) tg γ)
    (ht : ∀ (s : Shared) (H : Hp) (C : Addr) (cl : List (Str × Addr)) (fp : List Addr), VTs (X.blk s H scope (compEnvC scope cl C X.env) fp) W0 ifs τ)
    (he : ∀ (s : Shared) (H : Hp) (C : Addr) (cl : List (Str × Addr)) (fp : List Addr), VE (X.blk s H scope (compEnvC scope cl C X.env) fp) W0 true elt φ)
    (hs : ∀ x, foldedSetIterable iter X.env x = pure x := by intro _; rfl) : VF X W (.ListComp elt [⟨tg, iter, ifs, 0⟩] scope pos) (lcE (own.map (·.2)) γ ι τ φ) := by
  obtain ⟨wi, pi, ri⟩ := hi
  obtain ⟨pg, pt, pe⟩ := lc_parts hg ht he
  exact ⟨_, pe_lc hc hN pi ok pg pt pe hs, fun H0 M0 M H σ env Q g h => lc_read _ (fun R => ri H0 M0 M H σ env R g) g h⟩
def strsOf : List D → Option (List Str)
  | [] => some []
  | .str s :: r => (strsOf r).map fun l => s :: l
  | _ :: _ => none
def joinS (a : Str) (ds : List D) : Res D := match strsOf ds with
  | some ys => if (ys.map (·.length)).sum + ys.length * a.length ≤ 16777216 then .ok (.str (Txt.join a ys)) else .bad
  | none => .bad
def joinD (a : Str) : D → Res D
  | .lst ds => joinS a ds
  | .tup ds => joinS a ds
  | _ => .bad
def strE (f : Str → D → Res D) (φa φb : Env → Res D) (env : Env) : Res D := (φa env).bind fun d => match d with
  | .str a => (φb env).bind (f a)
  | _ => .bad
theorem strsOf_rp {mg : Gm} {G : Vw} : ∀ {ds : List D} {xs : List V} {ys : List Str}, RpL mg G ds xs → strsOf ds = some ys → xs = ys.map V.str
  | [], _, _, .nil, h => by cases h; rfl
  | d :: ds, _, ys, .cons r t, h => by
    cases d <;> first | (cases h; done) | skip
    rename_i s
    have h' : (strsOf ds).map (fun l => s :: l) = some ys := h
    cases q : strsOf ds with
    | none => rw [q] at h'; cases h'
    | some l =>
      rw [q] at h'
      cases h'
      cases r
      rw [strsOf_rp t q]
      rfl
end
section
variable {X : Cx} {W : WX} {fl fla flb : Bool} {o e : Expr} {apos pos : Pos} {φa φb : Env → Res D}
theorem ve_join (ha : VE X W fla o φa) (hb : VE X W flb e φb) (hs : starEach [e] X.env = [(false, eval e X.env)] := by rfl) (hbase : attributeBase o "join" X.env (eval o X.env) = eval o X.env := by rfl) (hline : (apos.endLine == pos.line) = true := by rfl) :
    VE X W fl (.Call (.Attribute o "join" apos) [e] [] pos) (strE joinD φa φb) := by
  obtain ⟨ta, pa, ra⟩ := ha
  obtain ⟨tb, pb, rb⟩ := hb
  refine ⟨_, pe_join pa pb hs hbase hline, fun H0 M0 M H σ env Q g h => ?_⟩
  refine ra H0 M0 M H σ env _ g (PostE.seq h fun d v H1 e1 r1 h1 => ?_)
  cases r1 <;> first | exact h1.elim | skip
  case str a =>
    refine ⟨⟨a, rfl⟩, rb H0 M0 M H1 σ env _ (g.mono e1) (PostE.seq h1 fun d2 v2 H2 e2 r2 h2 => ?_)⟩
    have r2' := r2.mono (vis_le flb M _)
    have go : ∀ {ds : List D} {xs : List V} {p : Addr}, RpL (gm X) (vw H2) ds xs → (SqL X.K H2 p xs ∨ SqT X.K H2 p xs) → PostE X W fl M σ H2 Q (joinS a ds) → ∃ a' p' , ∃ ys : List Str, V.str a = .str a' ∧ [V.ref p] = [.ref p'] ∧ (SqL X.K H2 p' (ys.map V.str) ∨ SqT X.K H2 p' (ys.map V.str)) ∧
        (ys.map (·.length)).sum + ys.length * a'.length ≤ 16777216 ∧ Q (.str (Txt.join a' ys)) H2 := fun {ds xs p} rp sq h3 => by
      unfold joinS at h3
      cases q : strsOf ds with
      | none => rw [q] at h3; exact h3.elim
      | some ys =>
        rw [q] at h3
        obtain ⟨hz, h3⟩ := PostE.ite h3
        have ex := strsOf_rp rp q
        subst ex
        exact ⟨a, p, ys, rfl, rfl, sq, hz, h3 _ H2 (Ext.refl _) (.str _)⟩
    cases r2' <;> first | exact h2.elim | skip
    case tup p xs ds hp rp => exact go rp (.inr (.inl (.inl (vw_tup hp)))) h2
    case lst p xs ds hp rp => exact go rp (.inl (.inl (vw_lst hp))) h2
end
end VL

set_option maxRecDepth 100000
set_option maxHeartbeats 2000000
namespace VL
open PySem L2

theorem ru1 {k : Nat} {A : Around} (r : Room k A) : A.units + 1 < cLine := by have := r.un; omega
theorem ru65 {k : Nat} {A : Around} (r : Room k A) : A.units + 65 < cLine := by have := r.un; omega
theorem tkW0 {X : Cx} : L2N.Takes X (fun _ _ _ _ => False) := fun _ _ ⟨_, _, _, _, _, _, _, _, _, _, _, _, _, _, _, _, w⟩ => w.elim
theorem la_nil : ∀ (env : Env) (ds : List D), nilA env = .ok ds → ds.length = 0 := fun _ _ h => by cases h; rfl
theorem la_cons {n : Nat} {φ : Env → Res D} {φs : Env → Res (List D)} (h : ∀ env ds, φs env = .ok ds → ds.length = n) : ∀ (env : Env) (ds : List D), consA φ φs env = .ok ds → ds.length = n + 1 := fun env ds e => by
  unfold consA at e
  cases q : φ env with
  | ok d =>
    rw [q] at e
    have e' : (φs env).bind (fun ds => Res.ok (d :: ds)) = .ok ds := e
    cases z : φs env with
    | ok ds' =>
      rw [z] at e'
      cases e'
      rw [List.length_cons, h env ds' z]
    | exc c fs => rw [z] at e'; cases e'
    | bad => rw [z] at e'; cases e'
  | exc c fs => rw [q] at e; cases e
  | bad => rw [q] at e; cases e
structure Raw (K : PySem.W.Frag) (mg : Str → Option Value) (x : Str) (st : Stmt) (ps : List Str) : Prop where
  ex : ∃ (f : Addr) (fd : FuncData), mg x = some (.ref f) ∧ Fun K x x st f fd ∧ Binds K fd ps []
structure DefOk (P : Program) (w : World) (K : PySem.W.Frag) (mg : Str → Option Value) (base : Heap) (x : Str) (k : Nat) (ps : List Str) (n : Nat) (F : List D → Res D) : Prop where
  ex : ∃ (f : Addr) (fd : FuncData), mg x = some (.ref f) ∧ PySem.W.keepIn K (.ref f) = true ∧ Binds K fd ps [] ∧ FnOk P w K mg base (L2N.CX P w) k f fd ps (spV ⟨P, w, K, mg⟩ n F)
  lk : ∀ f fd, mg x = some (.ref f) → (∃ oc od osl, K.lookup f = some ⟨oc, od, .func fd, osl⟩) → FnOk P w K mg base (L2N.CX P w) k f fd ps (spV ⟨P, w, K, mg⟩ n F)
section
variable {P : Program} {w : World} {K : PySem.W.Frag} {mg : Str → Option Value} {base : Heap} {x qual : Str} {st : Stmt} {N ps : List Str} {k n : Nat} {ψ : Env → SRes} {F G : List D → Res D}
theorem def_v (N : List Str) (ψ : Env → SRes) (R : Raw K mg x st ps) (S : FnScope N ps (defScope st)) (hn : ps.length = n) (hF : F = defM N.length ψ)
    (body : ∀ (f : Addr) (cdv : Value) (A : Around) (outer : List PySem.Env) (s : Shared) (H : Hp) (E : XK), Room k (A.deeper (PyProof.Rows.envOfC x (defScope st) s.heap.objs.size f cdv)) →
      L2N.Takes (cxOf (L2N.CX P w) P w K mg base N x (defScope st) f cdv A outer s H E) (WB E) →
      PassesOwn (model P w) (A.deeper (PyProof.Rows.envOfC x (defScope st) s.heap.objs.size f cdv)) (PyProof.Rows.envOfC x (defScope st) s.heap.objs.size f cdv) (cxOf (L2N.CX P w) P w K mg base N x (defScope st) f cdv A outer s H E).xe →
      VB (cxOf (L2N.CX P w) P w K mg base N x (defScope st) f cdv A outer s H E) (WB E) (defBody st) ψ) :
    DefOk P w K mg base x (k + 1) ps n F := by
  subst hF
  obtain ⟨f, fd, h1, h2, h3⟩ := R.ex
  refine ⟨⟨f, fd, h1, h2.kp, h3, fn_v h2 S hn (body f)⟩, fun f' fd' e h => ?_⟩
  rw [h1] at e
  cases e
  obtain ⟨_, _, _, h⟩ := h
  obtain ⟨_, _, _, _, _, _, _, _, _, _, h', _⟩ := h2.ex
  rw [h'] at h
  cases h
  exact fn_v h2 S hn (body f)
theorem DefOk.is (h : DefOk P w K mg base x k ps n F) (e : ∀ ds, G ds ≠ .bad → F ds = G ds) : DefOk P w K mg base x k ps n G := by
  obtain ⟨f, fd, h1, h2, h3, h4⟩ := h.ex
  exact ⟨⟨f, fd, h1, h2, h3, fn_is h4 e⟩, fun f fd e1 e2 => fn_is (h.lk f fd e1 e2) e⟩
variable {X : Cx} {W : WX} {fl : Bool} {e : Expr} {es : List Expr} {pos p : Pos} {φs : Env → Res (List D)}
theorem ve_def (h : DefOk X.prog X.w X.K X.mg X.base x k ps n F) (tk : L2N.Takes X W) (hr : Room k X.A) (ha : VA X W true (e :: es) φs) (hn : (e :: es).length = n) (hl : ∀ env ds, φs env = .ok ds → ds.length = n) (hg : Gl X x := by rfl) (hdb : (x == ("__debug__" : Str)) = false := by decide)
    (he : starEach (e :: es) X.env = (false, eval e X.env) :: starEach es X.env := by rfl) (hpl : (backTo pos (starEach es X.env)).any (·.1) = false := by rfl) : VE X W fl (.Call (.Name x p) (e :: es) [] pos) (aE F φs) := by
  obtain ⟨f, fd, h1, h2, h3, h4⟩ := h.ex
  exact ve_call tk h4 hr h1 h2 h3 ha hn hl hg hdb he hpl
theorem ve_defb (h : DefOk X.prog X.w X.K X.mg X.base x k ps n F) (tk : L2N.Takes X W) (hr : Room k X.A) (ha : VA X W false (e :: es) φs) (hn : (e :: es).length = n) (hl : ∀ env ds, φs env = .ok ds → ds.length = n) (hg : Gl X x := by rfl) (hdb : (x == ("__debug__" : Str)) = false := by decide)
    (he : starEach (e :: es) X.env = (false, eval e X.env) :: starEach es X.env := by rfl) (hpl : (backTo pos (starEach es X.env)).any (·.1) = false := by rfl) : VE X W false (.Call (.Name x p) (e :: es) [] pos) (aE (fun ds => guardX (F ds)) φs) := by
  obtain ⟨f, fd, h1, h2, h3, h4⟩ := h.ex
  exact ve_callb tk h4 hr h1 h2 h3 ha hn hl hg hdb he hpl
end
theorem raw_mk {K : PySem.W.Frag} {h : Heap} {mg : Str → Option Value} {x : Str} {st : Stmt} {ps : List Str} {f : Addr} {oc : Value} {od an : Option Addr} {osl : Array (Option Value)} {kV doc pm cdv ct : Value} (X : K.In h) (G : h.Ns mainGlobals mg)
    (a : PySem.W.nsIn K mainGlobals x = some (some (.ref f))) (l : K.lookup f = some ⟨oc, od, .func (PySem.W.fnOf x x (defArgs st) (defBody st) (defScope st) .none kV doc pm an cdv ct), osl⟩) (c : PySem.W.codeIn K cdv x = true) (k : PySem.W.keepIn K (.ref f) = true)
    (hb : ∀ (kV doc pm : Value) (an : Option Addr) (cdv ct : Value) (us : List Value), us.length = ps.length → bindArgs (PySem.W.fnOf x x (defArgs st) (defBody st) (defScope st) .none kV doc pm an cdv ct) ⟨us, []⟩ = pure (ps.zip us)) : Raw K mg x st ps := by
  have F := fun_mk (st := st) l c k
  exact ⟨f, _, PySem.W.mg_of X G a, F, F.binds hb⟩
def spEnd (K : PySem.W.Frag) : Sp := fun vs H Q _ => ∃ (a : Addr) (ns : List Int), vs = [.ref a] ∧ SqL K H a (ns.map V.int) ∧ ns.length ≤ 63 ∧ (∀ z ∈ ns, Builtin.Int.intBits z ≤ 1048576) ∧ ∀ H', Q (.bl true) H'
theorem rd_vw {H : Hp} {a : Addr} {xs : List V} (h : Rd H a (.lst xs)) : vw H a = some (.lst xs) := by
  rcases h with h | ⟨o, h⟩
  · exact vw_of h trivial
  · unfold vw; rw [h]
theorem end_of {P : Program} {w : World} {K : PySem.W.Frag} {mg : Str → Option Value} {base : Heap} {CX : CXT} {f : Addr} {fd : FuncData} {ps : List Str} {k : Nat} {F : List D → Res D} (h : FnOk P w K mg base CX k f fd ps (spV ⟨P, w, K, mg⟩ 1 F))
    (e : ∀ ns : List Int, ns.length ≤ 63 → (∀ z ∈ ns, Builtin.Int.intBits z ≤ 1048576) → F [.scr ns] = .ok (.bl true)) : FnOk P w K mg base CX k f fd ps (spEnd K) := h.imp fun vs H Q E s => by
  obtain ⟨a, ns, rfl, hs, hl, hb, q⟩ := s
  refine ⟨rfl, fun _ => false, [.scr ns], MOk.empty, .cons (.scr ?_) .nil, ?_⟩
  · rcases hs with hs | hs
    · exact .inl (by rw [Sh_of rfl]; exact rd_vw hs)
    · exact .inr hs
  · rw [e ns hl hb]
    intro v H' _ r
    cases r
    exact q H'
theorem cx_end (P : Program) (w : World) (H : Hp) (s : Shared) (e : Value) (s' : Shared) (h : L2N.CX P w [] H s (fun _ _ _ => False) e s') : False := by
  obtain ⟨_, _, _, _, _, _, _, _, _, _, _, _, z⟩ := h
  exact z
end VL
namespace VL
open PySem L2
theorem law_fin {P : Program} {w : World} {K : PySem.W.Frag} {mg : Str → Option Value} {base : Heap} {x : Str} {ps : List Str} {k : Nat} {F : List D → Res D} {fa f : Addr} {fd : FuncData} {oc : Value} {od : Option Addr} {sl : Array (Option Value)}
    (h : DefOk P w K mg base x k ps 1 F) (hfa : mg x = some (.ref fa)) (hf : mg x = some (.ref f)) (l : K.lookup f = some ⟨oc, od, .func fd, sl⟩) (e : ∀ ns : List Int, ns.length ≤ 63 → (∀ z ∈ ns, Builtin.Int.intBits z ≤ 1048576) → F [.scr ns] = .ok (.bl true)) :
    FnOk P w K mg base (L2N.CX P w) k fa fd ps (spEnd K) := by
  rw [hfa] at hf
  cases hf
  exact end_of (h.lk _ _ hfa ⟨_, _, _, l⟩) e
end VL

set_option maxRecDepth 100000
set_option maxHeartbeats 2000000
namespace VL
open PySem L2
structure Post where
  nx : Env → Prop := fun _ => False
  ct : Env → Prop := fun _ => False
  bk : Env → Prop := fun _ => False
  rt : D → Prop := fun _ => False
  xc : Str → List (Str × D) → Env → Prop := fun _ _ _ => False
  ro : D → Prop := fun _ => False
def Sat (P : Post) : SRes → Prop
  | .nx e => P.nx e | .ct e => P.ct e | .bk e => P.bk e | .rt d => P.rt d | .xc c f e => P.xc c f e | .bad => False | .ro d => P.ro d
theorem Sat.mono {P Q : Post} {r : SRes} (h : Sat P r) (h1 : ∀ e, P.nx e → Q.nx e) (h2 : ∀ e, P.ct e → Q.ct e) (h3 : ∀ e, P.bk e → Q.bk e) (h4 : ∀ e, P.rt e → Q.rt e) (h5 : ∀ c f e, P.xc c f e → Q.xc c f e) (h6 : ∀ d, P.ro d → Q.ro d) : Sat Q r := by
  cases r with
  | nx e => exact h1 e h
  | ct e => exact h2 e h
  | bk e => exact h3 e h
  | rt d => exact h4 d h
  | xc c f e => exact h5 c f e h
  | bad => exact h
  | ro d => exact h6 d h
def Post.thn (P : Post) (χ : Env → SRes) : Post := { P with nx := fun e => Sat P (χ e) }
def Post.lp (P : Post) (I : Env → Prop) : Post := { P with nx := I, ct := I, bk := P.nx }
def rSeq (r : SRes) (χ : Env → SRes) : SRes := match r with
  | .nx env => χ env
  | r => r
theorem seq_eq (ψ χ : Env → SRes) (env : Env) : seqS ψ χ env = rSeq (ψ env) χ := rfl
theorem Sat.rseq {P : Post} {r : SRes} {χ : Env → SRes} (h : Sat (P.thn χ) r) : Sat P (rSeq r χ) := by
  unfold rSeq
  cases r <;> exact h
theorem Sat.seq {P : Post} {ψ χ : Env → SRes} {env : Env} (h : Sat (P.thn χ) (ψ env)) : Sat P (seqS ψ χ env) := Sat.rseq h
theorem Sat.flow {P : Post} {r : SRes} {k : Env → SRes} (h : Sat { P with nx := fun e => Sat P (k e), ct := fun e => Sat P (k e), bk := P.nx } r) : Sat P (flowL r k) := by
  unfold flowL
  cases r <;> exact h
theorem Sat.forL' {P : Post} {γ : D → Env → Option Env} {ψ : Env → SRes} (I : Nat → Env → Prop) : ∀ (ds : List D) (k : Nat) (env : Env), I k env →
    (∀ i d env, ds[i]? = some d → I (k + i) env → ∃ e1, γ d env = some e1 ∧ Sat (P.lp (I (k + i + 1))) (ψ e1)) → (∀ env, I (k + ds.length) env → P.nx env) → Sat P (VL.forL γ ψ ds env)
  | [], k, env, h0, _, hn => hn env h0
  | d :: ds, k, env, h0, hs, hn => by
    obtain ⟨e1, g1, s1⟩ := hs 0 d env rfl h0
    unfold VL.forL
    rw [g1]
    refine Sat.flow (s1.mono ?_ ?_ (fun _ h => h) (fun _ h => h) (fun _ _ _ h => h) (fun _ h => h))
    all_goals
      intro e he
      refine Sat.forL' I ds (k + 1) e he (fun i d env q h => ?_) (fun env h => hn env ?_)
      · have := hs (i + 1) d env (by rw [gs_]; exact q) (by rw [show k + (i + 1) = k + 1 + i by omega]; exact h)
        rw [show k + (i + 1) = k + 1 + i by omega] at this
        exact this
      · rw [List.length_cons, show k + (ds.length + 1) = k + 1 + ds.length by omega]; exact h
theorem Sat.forS {P : Post} {γ : D → Env → Option Env} {ι : Env → Res (List D)} {ψ : Env → SRes} {env : Env} (I : Nat → Env → Prop) {ds : List D} (hi : ι env = .ok ds) (h0 : I 0 env)
    (hs : ∀ i d env, ds[i]? = some d → I i env → ∃ e1, γ d env = some e1 ∧ Sat (P.lp (I (i + 1))) (ψ e1)) (hn : ∀ env, I ds.length env → P.nx env) : Sat P (VL.forS γ ι ψ env) := by
  unfold VL.forS ofA
  rw [hi]
  refine Sat.forL' I ds 0 env h0 (fun i d env q h => ?_) (fun env h => hn env (by rwa [Nat.zero_add] at h))
  rw [Nat.zero_add] at h ⊢
  exact hs i d env q h
theorem Sat.forS0 {P : Post} {γ : D → Env → Option Env} {ι : Env → Res (List D)} {ψ : Env → SRes} {env : Env} (I : Env → Prop) {ds : List D} (hi : ι env = .ok ds) (h0 : I env)
    (hs : ∀ d, d ∈ ds → ∀ env, I env → ∃ e1, γ d env = some e1 ∧ Sat (P.lp I) (ψ e1)) (hn : ∀ env, I env → P.nx env) : Sat P (VL.forS γ ι ψ env) :=
  Sat.forS (fun _ => I) hi h0 (fun i d env q h => hs d (List.mem_of_getElem? q) env h) hn
theorem m_ok {n : Nat} {b : Env → SRes} {ds : List D} {d : D} (h : Sat { rt := fun x => x = d } (b (env0 n ds))) : defM n b ds = .ok d := by
  unfold defM
  cases q : b (env0 n ds) <;> rw [q] at h <;> first | exact h.elim | skip
  show outS (.rt _) = _
  rw [show _ = d from h]
  rfl
theorem m_ex {n : Nat} {b : Env → SRes} {ds : List D} {p : D → Prop} (h : Sat { rt := p } (b (env0 n ds))) : ∃ d, defM n b ds = .ok d ∧ p d := by
  unfold defM
  cases q : b (env0 n ds) <;> rw [q] at h <;> first | exact h.elim | skip
  exact ⟨_, rfl, h⟩
theorem m_non {n : Nat} {b : Env → SRes} {ds : List D} (h : Sat { rt := fun x => x = .non, nx := fun _ => True } (b (env0 n ds))) : defM n b ds = .ok .non := by
  unfold defM
  cases q : b (env0 n ds) <;> rw [q] at h <;> first | exact h.elim | skip
  · rfl
  · show outS (.rt _) = _
    rw [show _ = D.non from h]
    rfl
theorem Sat.nx {P : Post} {r : SRes} {e : Env} (h : r = .nx e) (p : P.nx e) : Sat P r := by rw [h]; exact p
theorem Sat.rt {P : Post} {r : SRes} {e : D} (h : r = .rt e) (p : P.rt e) : Sat P r := by rw [h]; exact p
def r2 (f : D → D → Res D) (a b : Res D) : Res D := a.bind fun x => b.bind fun y => f x y
def r1 {α β : Type} (f : α → Res β) (a : Res α) : Res β := a.bind f
def rC (a : Res D) (b : Res (List D)) : Res (List D) := a.bind fun x => b.bind fun y => .ok (x :: y)
def rAnd (a b : Res Bool) : Res Bool := a.bind fun x => if x = true then b else .ok false
def rOr (a b : Res Bool) : Res Bool := a.bind fun x => if x = true then .ok true else b
def rNot (a : Res Bool) : Res Bool := a.bind fun x => .ok (!x)
def rAndE (a b : Res D) : Res D := a.bind fun d => match d with
  | .bl true => b
  | .bl false => .ok (.bl false)
  | _ => .bad
def rOrE (a b : Res D) : Res D := a.bind fun d => match d with
  | .bl true => .ok (.bl true)
  | .bl false => b
  | _ => .bad
def rIfE (t : Res Bool) (a b : Res D) : Res D := t.bind fun x => if x = true then a else b
def rSl (a : Res D) (l h : Res (Option Int)) : Res D := a.bind fun d => l.bind fun l => h.bind fun u => sliceD d l u
def rCh (f f' : D → D → Res D) (a b c : Res D) : Res D := a.bind fun x => b.bind fun y => (f x y).bind fun z => match z with
  | .bl true => c.bind fun w => f' y w
  | .bl false => .ok (.bl false)
  | _ => .bad
def rStr (f : Str → D → Res D) (a b : Res D) : Res D := a.bind fun d => match d with
  | .str a => b.bind (f a)
  | _ => .bad
def rImm (a : Res D) : Res D := a.bind fun d => if immut d = true then .ok d else .bad
def rSet (i : Nat) (r : Res D) (env : Env) : SRes := ofE r env fun d => .nx (env.set i (.sh d))
def rOwn (i : Nat) (r : Res D) (env : Env) : SRes := ofE r env fun d => .nx (env.set i (.ow d))
def rRet (r : Res D) (env : Env) : SRes := ofE r env fun d => .rt d
def rDrop (r : Res D) (env : Env) : SRes := ofE r env fun _ => .nx env
def rIf (t : Res Bool) (ψ χ : Env → SRes) (env : Env) : SRes := ofT t env fun k => if k = true then ψ env else χ env
def rAsg (γ : D → Env → Option Env) (r : Res D) (env : Env) : SRes := ofE r env fun d => match γ d env with
  | some env' => .nx env'
  | none => .bad
def rApp (i : Nat) (s : Option Sl) (r : Res D) (env : Env) : SRes := match s with
  | some (.ow (.lst ds)) => ofE r env fun d => if ds.length < sizeLine then .nx (env.set i (.ow (.lst (ds ++ [d])))) else .bad
  | _ => .bad
def rGet (s : Option Sl) : Res D := match s with
  | some (.sh d) => .ok d
  | _ => .bad
def rGetB (s : Option Sl) : Res D := match s with
  | some (.sh d) => .ok d
  | some (.ow d) => .ok d
  | _ => .bad
section
variable {f f' : D → D → Res D} {φ φa φb φc : Env → Res D} {φs : Env → Res (List D)} {τ τ' : Env → Res Bool} {env : Env} {i : Nat} {d e w : D} {ds : List D} {b c : Bool} {ψ χ : Env → SRes} {γ : D → Env → Option Env}
theorem getP_eq : getP i env = rGet env[i]? := rfl
theorem getB_eq : getB i env = rGetB env[i]? := rfl
theorem rGet_ok : rGet (some (.sh d)) = .ok d := rfl
theorem rGetB_ok : rGetB (some (.sh d)) = .ok d := rfl
theorem rGetB_ow : rGetB (some (.ow d)) = .ok d := rfl
theorem cE_eq : cE d env = .ok d := rfl
theorem op2_eq : op2 f φa φb env = r2 f (φa env) (φb env) := rfl
theorem r2_ok : r2 f (.ok d) (.ok e) = f d e := rfl
theorem aE_eq {g : List D → Res D} : aE g φs env = r1 g (φs env) := rfl
theorem aI_eq {g : List D → Res (List D)} : aI g φs env = r1 g (φs env) := rfl
theorem iE_eq : iE φ env = r1 itemsD (φ env) := rfl
theorem tE_eq : tE φ env = r1 toB (φ env) := rfl
theorem someO_eq : someO φ env = r1 toI (φ env) := rfl
theorem notE_eq : notE φ env = r1 notD (φ env) := rfl
theorem isTE_eq {T : String} : isTE T φ env = r1 (isT T) (φ env) := rfl
theorem r1_ok {α β : Type} {g : α → Res β} {a : α} : r1 g (.ok a) = g a := rfl
theorem toB_ok : toB (.bl b) = .ok b := rfl
theorem toI_ok {k : Int} : toI (.int k) = .ok (some k) := rfl
theorem notD_ok : notD (.bl b) = .ok (.bl (!b)) := rfl
theorem noO_eq : noO env = .ok none := rfl
theorem nilA_eq : nilA env = .ok [] := rfl
theorem consA_eq : consA φ φs env = rC (φ env) (φs env) := rfl
theorem rC_ok : rC (.ok d) (.ok ds) = .ok (d :: ds) := rfl
theorem andT_eq : andT τ τ' env = rAnd (τ env) (τ' env) := rfl
theorem orT_eq : orT τ τ' env = rOr (τ env) (τ' env) := rfl
theorem notT_eq : notT τ env = rNot (τ env) := rfl
theorem rAnd_t {r : Res Bool} : rAnd (.ok true) r = r := rfl
theorem rAnd_f {r : Res Bool} : rAnd (.ok false) r = .ok false := rfl
theorem rAnd_ok : rAnd (.ok b) (.ok c) = .ok (b && c) := by cases b <;> rfl
theorem rOr_t {r : Res Bool} : rOr (.ok true) r = .ok true := rfl
theorem rOr_f {r : Res Bool} : rOr (.ok false) r = r := rfl
theorem rOr_ok : rOr (.ok b) (.ok c) = .ok (b || c) := by cases b <;> rfl
theorem rNot_ok : rNot (.ok b) = .ok (!b) := rfl
theorem andE_eq : andE φa φb env = rAndE (φa env) (φb env) := rfl
theorem orE_eq : orE φa φb env = rOrE (φa env) (φb env) := rfl
theorem rAndE_t {r : Res D} : rAndE (.ok (.bl true)) r = r := rfl
theorem rAndE_f {r : Res D} : rAndE (.ok (.bl false)) r = .ok (.bl false) := rfl
theorem rAndE_ok : rAndE (.ok (.bl b)) (.ok (.bl c)) = .ok (.bl (b && c)) := by cases b <;> rfl
theorem rOrE_t {r : Res D} : rOrE (.ok (.bl true)) r = .ok (.bl true) := rfl
theorem rOrE_f {r : Res D} : rOrE (.ok (.bl false)) r = r := rfl
theorem rOrE_ok : rOrE (.ok (.bl b)) (.ok (.bl c)) = .ok (.bl (b || c)) := by cases b <;> rfl
theorem ifE_eq : ifE τ φa φb env = rIfE (τ env) (φa env) (φb env) := rfl
theorem rIfE_ok {r r' : Res D} : rIfE (.ok b) r r' = if b = true then r else r' := rfl
theorem slE_eq {ml mh : Env → Res (Option Int)} : slE φ ml mh env = rSl (φ env) (ml env) (mh env) := rfl
theorem rSl_ok {l h : Option Int} : rSl (.ok d) (.ok l) (.ok h) = sliceD d l h := rfl
theorem chE_eq : chE f f' φa φb φc env = rCh f f' (φa env) (φb env) (φc env) := rfl
theorem rCh_ok (h : f d e = .ok (.bl b)) (h' : f' e w = .ok (.bl c)) : rCh f f' (.ok d) (.ok e) (.ok w) = .ok (.bl (b && c)) := by
  show ((f d e).bind _) = _
  rw [h]
  cases b
  · rfl
  · exact h'
theorem rCh_le {i j k : Int} : rCh leD leD (.ok (.int i)) (.ok (.int j)) (.ok (.int k)) = .ok (.bl (decide (i ≤ j) && decide (j ≤ k))) := rCh_ok rfl rfl
theorem rCh_lelt {i j k : Int} : rCh leD ltD (.ok (.int i)) (.ok (.int j)) (.ok (.int k)) = .ok (.bl (decide (i ≤ j) && decide (j < k))) := rCh_ok rfl rfl
theorem rCh_ltlt {i j k : Int} : rCh ltD ltD (.ok (.int i)) (.ok (.int j)) (.ok (.int k)) = .ok (.bl (decide (i < j) && decide (j < k))) := rCh_ok rfl rfl
theorem rCh_ltle {i j k : Int} : rCh ltD leD (.ok (.int i)) (.ok (.int j)) (.ok (.int k)) = .ok (.bl (decide (i < j) && decide (j ≤ k))) := rCh_ok rfl rfl
theorem strE_eq {g : Str → D → Res D} : strE g φa φb env = rStr g (φa env) (φb env) := rfl
theorem rStr_ok {g : Str → D → Res D} {s : Str} : rStr g (.ok (.str s)) (.ok d) = g s d := rfl
theorem immE_eq : immE φ env = rImm (φ env) := rfl
theorem rImm_ok : rImm (.ok d) = if immut d = true then .ok d else .bad := rfl
theorem rSeq_nx : rSeq (.nx env) χ = χ env := rfl
theorem rSeq_rt : rSeq (.rt d) χ = .rt d := rfl
theorem rSeq_bk : rSeq (.bk env) χ = .bk env := rfl
theorem rSeq_ct : rSeq (.ct env) χ = .ct env := rfl
theorem rSeq_xc {C : Str} {fs : List (Str × D)} : rSeq (.xc C fs env) χ = .xc C fs env := rfl
theorem setS_eq : setS i φ env = rSet i (φ env) env := rfl
theorem rSet_ok : rSet i (.ok d) env = .nx (env.set i (.sh d)) := rfl
theorem ownS_eq : ownS i φ env = rOwn i (φ env) env := rfl
theorem rOwn_ok : rOwn i (.ok d) env = .nx (env.set i (.ow d)) := rfl
theorem retS_eq : retS φ env = rRet (φ env) env := rfl
theorem rRet_ok : rRet (.ok d) env = .rt d := rfl
theorem retNS_eq : retNS env = .rt .non := rfl
theorem nxS_eq : nxS env = .nx env := rfl
theorem bkS_eq : bkS env = .bk env := rfl
theorem ctS_eq : ctS env = .ct env := rfl
theorem dropS_eq : dropS φ env = rDrop (φ env) env := rfl
theorem rDrop_ok : rDrop (.ok d) env = .nx env := rfl
theorem ifS_eq : ifS τ ψ χ env = rIf (τ env) ψ χ env := rfl
theorem rIf_t : rIf (.ok true) ψ χ env = ψ env := rfl
theorem rIf_f : rIf (.ok false) ψ χ env = χ env := rfl
theorem Sat.ifb {P : Post} (h1 : b = true → Sat P (ψ env)) (h2 : b = false → Sat P (χ env)) : Sat P (rIf (.ok b) ψ χ env) := by
  cases b
  · exact h2 rfl
  · exact h1 rfl
theorem Sat.ifP {P : Post} {p : Prop} [Decidable p] (h1 : p → Sat P (ψ env)) (h2 : ¬p → Sat P (χ env)) : Sat P (rIf (.ok (decide p)) ψ χ env) :=
  Sat.ifb (fun h => h1 (of_decide_eq_true h)) (fun h => h2 (of_decide_eq_false h))
theorem asgS_eq : asgS γ φ env = rAsg γ (φ env) env := rfl
theorem appS_eq : appS i φ env = rApp i env[i]? (φ env) env := by
  unfold appS rApp
  rfl
theorem rApp_ok : rApp i (some (.ow (.lst ds))) (.ok d) env = if ds.length < sizeLine then .nx (env.set i (.ow (.lst (ds ++ [d])))) else .bad := rfl
theorem giveS_eq : giveS i ψ env = ψ (VL.give i env) := rfl
theorem gnG_eq : gnG i d env = some (env.set i (.sh d)) := rfl
theorem Sat_nx {P : Post} : Sat P (.nx env) = P.nx env := rfl
theorem Sat_rt {P : Post} : Sat P (.rt d) = P.rt d := rfl
theorem Sat_ct {P : Post} : Sat P (.ct env) = P.ct env := rfl
theorem Sat_bk {P : Post} : Sat P (.bk env) = P.bk env := rfl
theorem Sat_xc {P : Post} {C : Str} {fs : List (Str × D)} : Sat P (.xc C fs env) = P.xc C fs env := rfl
theorem thn_nx {P : Post} : (P.thn χ).nx env = Sat P (χ env) := rfl
theorem thn_rt {P : Post} : (P.thn χ).rt d = P.rt d := rfl
theorem thn_ct {P : Post} : (P.thn χ).ct env = P.ct env := rfl
theorem thn_bk {P : Post} : (P.thn χ).bk env = P.bk env := rfl
theorem thn_xc {P : Post} {C : Str} {fs : List (Str × D)} : (P.thn χ).xc C fs env = P.xc C fs env := rfl
theorem lp_nx {P : Post} {I : Env → Prop} : (P.lp I).nx env = I env := rfl
theorem lp_ct {P : Post} {I : Env → Prop} : (P.lp I).ct env = I env := rfl
theorem lp_bk {P : Post} {I : Env → Prop} : (P.lp I).bk env = P.nx env := rfl
theorem lp_rt {P : Post} {I : Env → Prop} : (P.lp I).rt d = P.rt d := rfl
theorem lp_xc {P : Post} {I : Env → Prop} {C : Str} {fs : List (Str × D)} : (P.lp I).xc C fs env = P.xc C fs env := rfl
theorem add_int {i j : Int} : addD (.int i) (.int j) = .ok (.int (i + j)) := rfl
theorem add_str {i j : Str} (h : i.length + j.length ≤ sizeLine) : addD (.str i) (.str j) = .ok (.str (i ++ j)) := if_pos h
theorem sub_int {i j : Int} : subD (.int i) (.int j) = .ok (.int (i - j)) := rfl
theorem mul_int {i j : Int} (h : i.natAbs.log2 + j.natAbs.log2 < 1000000) : mulD (.int i) (.int j) = .ok (.int (i * j)) := if_pos h
theorem mod_int {i j : Int} (h : 0 < j) : modD (.int i) (.int j) = .ok (.int (i % j)) := if_pos h
theorem fdiv_int {i j : Int} (h : 0 < j ∧ j < 1073741824) : fdivD (.int i) (.int j) = .ok (.int (i / j)) := if_pos h
theorem pow_int {i j : Int} (h : 0 ≤ j ∧ j ≤ 1000000 ∧ i.natAbs < 2 ^ 64) : powD (.int i) (.int j) = .ok (.int (i ^ j.toNat)) := if_pos h
theorem pow_18 : powD (.int 10) (.int 18) = .ok (.int 1000000000000000000) := pow_int (by decide)
theorem lt_int {i j : Int} : ltD (.int i) (.int j) = .ok (.bl (decide (i < j))) := rfl
theorem le_int {i j : Int} : leD (.int i) (.int j) = .ok (.bl (decide (i ≤ j))) := rfl
theorem gt_int {i j : Int} : gtD (.int i) (.int j) = .ok (.bl (decide (j < i))) := rfl
theorem ge_int {i j : Int} : geD (.int i) (.int j) = .ok (.bl (decide (j ≤ i))) := rfl
theorem isN_eq : isNO d .non = .ok (.bl (isNon d)) := rfl
theorem notN_eq : notNO d .non = .ok (.bl (!isNon d)) := rfl
theorem len_lst : lenF [.lst ds] = .ok (.int ds.length) := rfl
theorem len_tup : lenF [.tup ds] = .ok (.int ds.length) := rfl
theorem len_scr {ns : List Int} : lenF [.scr ns] = .ok (.int ns.length) := rfl
theorem len_str {s : Str} (h : s.length ≤ sizeLine) : lenF [.str s] = .ok (.int s.length) := if_pos h
theorem int_int {k : Int} : intF [.int k] = .ok (.int k) := rfl
theorem get_str {z : Str} {k : Int} : getD (.str z) (.int k) = strGet z k := rfl
theorem get_tup {k : Int} : getD (.tup ds) (.int k) = seqGet ds k := rfl
theorem get_lst {k : Int} : getD (.lst ds) (.int k) = seqGet ds k := rfl
theorem get_scr {ns : List Int} {k : Int} : getD (.scr ns) (.int k) = seqGet (ns.map .int) k := rfl
theorem items_str {z : Str} : itemsD (.str z) = .ok (strItems z) := rfl
theorem items_lst : itemsD (.lst ds) = .ok ds := rfl
theorem items_tup : itemsD (.tup ds) = .ok ds := rfl
theorem range1_ok {k : Int} (h : -4611686018427387904 < k ∧ k < 4611686018427387904) : range1 [.int k] = .ok (rangeD 0 k.toNat) := if_pos (small62_of h.1 h.2)
theorem range1_nat {k : Nat} (h : k < 4611686018427387904) : range1 [.int (k : Int)] = .ok (rangeD 0 k) := by rw [range1_ok (by omega), Int.toNat_natCast]
theorem lst_ok (h : ds.length ≤ sizeLine) : lstD ds = .ok (.lst ds) := if_pos h
theorem tup_ok (h : ds.length ≤ sizeLine) : tupD ds = .ok (.tup ds) := if_pos h
theorem lst_nil : lstD [] = .ok (.lst []) := if_pos (Nat.zero_le _)
theorem sl_str {z : Str} {l u : Option Int} (h : z.length ≤ sizeLine) : sliceD (.str z) l u = .ok (.str (cutS z l u)) := if_pos h
theorem sl_tup {l u : Option Int} : sliceD (.tup ds) l u = .ok (.tup (cutD ds l u)) := rfl
theorem sl_lst {l u : Option Int} : sliceD (.lst ds) l u = .ok (.lst (cutD ds l u)) := rfl
theorem isT_bl {b : Bool} : isT "bool" (.bl b) = .ok (.bl true) := rfl
end
theorem str_len (s : Str) : s.length = s.cps.toList.length := rfl
theorem str_app (s t : Str) : (s ++ t).cps.toList = s.cps.toList ++ t.cps.toList := by
  show (s.cps ++ t.cps).toList = _
  simp
theorem str_app_len (s t : Str) : (s ++ t).length = s.length + t.length := by
  rw [str_len, str_app, List.length_append]; rfl
theorem str_ext {s t : Str} (h : s.cps.toList = t.cps.toList) : s = t := by
  cases s; cases t
  exact congrArg Str.mk (Array.toList_inj.mp h)
theorem strGet_of {z : Str} {i : Nat} (hl : z.length ≤ sizeLine) (h : i < z.length) : ∃ c, z.cps.toList[i]? = some c ∧ strGet z i = .ok (.str ⟨#[c]⟩) := by
  have h' : i < z.cps.toList.length := h
  refine ⟨z.cps.toList[i], List.getElem?_eq_getElem h', ?_⟩
  unfold strGet
  rw [if_pos hl]
  unfold atI
  have : ixN z.cps.toList.length (i : Int) = some i := by
    unfold ixN
    rw [if_pos (by omega), if_pos (by omega)]; rfl
  rw [this]
  show (match z.cps.toList[i]? with | some c => Res.ok (D.str ⟨#[c]⟩) | none => .bad) = _
  rw [List.getElem?_eq_getElem h']
theorem seqGet_of {ds : List D} {i : Nat} {d : D} (h : ds[i]? = some d) : seqGet ds i = .ok d := by
  have h' : i < ds.length := (List.getElem?_eq_some_iff.mp h).1
  unfold seqGet atI
  have : ixN ds.length (i : Int) = some i := by
    unfold ixN
    rw [if_pos (by omega), if_pos (by omega)]; rfl
  rw [this]
  show (match ds[i]? with | some c => Res.ok c | none => .bad) = _
  rw [h]
theorem rangeD_get {lo : Int} {n i : Nat} {d : D} (h : (rangeD lo n)[i]? = some d) : i < n ∧ d = .int (lo + i) := by
  unfold rangeD at h
  rw [List.getElem?_map] at h
  cases q : (List.range n)[i]? with
  | none => rw [q] at h; cases h
  | some j =>
    rw [q] at h
    have := List.getElem?_eq_some_iff.mp q
    obtain ⟨h1, h2⟩ := this
    rw [List.getElem_range] at h2
    rw [List.length_range] at h1
    subst h2
    cases h
    exact ⟨h1, rfl⟩
theorem rangeD_len (lo : Int) (n : Nat) : (rangeD lo n).length = n := by unfold rangeD; rw [List.length_map, List.length_range]
theorem rangeD_mem {lo : Int} {n : Nat} {d : D} (h : d ∈ rangeD lo n) : ∃ i : Nat, i < n ∧ d = .int (lo + i) := by
  unfold rangeD at h
  obtain ⟨i, h1, h2⟩ := List.mem_map.mp h
  exact ⟨i, List.mem_range.mp h1, h2.symm⟩
theorem shaped_flat {p : PyData} (h : p.canLay0 = true) (d : p.depth ≤ 64) : SeqAt.shaped p = true := by
  unfold SeqAt.shaped
  rw [h, decide_eq_true d]; rfl
def okS (s : Str) : Bool := s.cps.all (· < 0x110000)
theorem cmp_str {s : Str} (h : okS s = true) : cmpOk (.str s) = true := by
  unfold cmpOk
  rw [show plain (.str s) = true from rfl, Bool.true_and]
  refine shaped_flat ?_ (by simp [toPy, PyData.depth])
  unfold toPy PyData.canLay0
  exact h
theorem cmp_int (i : Int) : cmpOk (.int i) = true := by
  unfold cmpOk
  rw [show plain (.int i) = true from rfl, Bool.true_and]
  exact shaped_flat (by simp [toPy, PyData.canLay0]) (by simp [toPy, PyData.depth])
theorem cmp_bl (i : Bool) : cmpOk (.bl i) = true := by
  unfold cmpOk
  rw [show plain (.bl i) = true from rfl, Bool.true_and]
  exact shaped_flat (by simp [toPy, PyData.canLay0]) (by simp [toPy, PyData.depth])
theorem eqD_str (s t : Str) : eqD (.str s) (.str t) = decide (s = t) := by
  unfold eqD
  simp only [toPy, PyData.eqv]
  rfl
theorem eqD_int (s t : Int) : eqD (.int s) (.int t) = decide (s = t) := by
  unfold eqD
  simp only [toPy, PyData.eqv]
  rfl
theorem eqD_bl (s t : Bool) : eqD (.bl s) (.bl t) = (s == t) := by
  unfold eqD
  simp only [toPy, PyData.eqv]
theorem eqO_str {s t : Str} (h1 : okS s = true) (h2 : okS t = true) : eqO (.str s) (.str t) = .ok (.bl (decide (s = t))) := by
  unfold eqO
  rw [if_pos ⟨cmp_str h1, cmp_str h2⟩, eqD_str]
theorem eqO_int (s t : Int) : eqO (.int s) (.int t) = .ok (.bl (decide (s = t))) := by
  unfold eqO
  rw [if_pos ⟨cmp_int s, cmp_int t⟩, eqD_int]
theorem eqO_bl (s t : Bool) : eqO (.bl s) (.bl t) = .ok (.bl (s == t)) := by
  unfold eqO
  rw [if_pos ⟨cmp_bl s, cmp_bl t⟩, eqD_bl]
theorem neO_int (s t : Int) : neO (.int s) (.int t) = .ok (.bl (!decide (s = t))) := by
  unfold neO
  rw [if_pos ⟨cmp_int s, cmp_int t⟩, eqD_int]
theorem canLay_ints : ∀ ns : List Int, PyData.canLayAll0 (ns.map .int) = true
  | [] => by simp [PyData.canLayAll0]
  | n :: ns => by simp [PyData.canLayAll0, PyData.canLay0, canLay_ints ns]
theorem depth_ints : ∀ ns : List Int, PyData.depthAll (ns.map .int) ≤ 1
  | [] => by simp [PyData.depthAll]
  | n :: ns => by
    have := depth_ints ns
    simp [PyData.depthAll, PyData.depth] at this ⊢
    try omega
theorem cmp_scr (ns : List Int) : cmpOk (.scr ns) = true := by
  unfold cmpOk
  rw [show plain (.scr ns) = true from rfl, Bool.true_and]
  have := depth_ints ns
  exact shaped_flat (by simp [toPy, PyData.canLay0, canLay_ints]) (by simp [toPy, PyData.depth]; omega)
theorem cmp_nil : cmpOk (.lst []) = true := by decide +kernel
theorem eqO_scr (ns : List Int) : eqO (.scr ns) (.lst []) = .ok (.bl ns.isEmpty) := by
  unfold eqO
  rw [if_pos ⟨cmp_scr ns, cmp_nil⟩]
  cases ns <;> simp [eqD, toPy, PyData.eqv, PyData.eqvAll, toPys, List.isEmpty]
theorem le_line {n : Nat} (h : n ≤ 1000000) : n ≤ sizeLine := Nat.le_trans h (by decide)
theorem pick_str (L : Str) (m : Int) (hl : L.length ≤ 1000000) (h0 : 0 < m) (hm : m ≤ L.length) (z : Int) : ∃ c, strGet L (z % m) = .ok (.str ⟨#[c]⟩) ∧ c ∈ L.cps.toList := by
  have a0 := Int.emod_nonneg z (show m ≠ 0 by omega)
  have a1 := Int.emod_lt_of_pos z h0
  generalize z % m = i at a0 a1
  obtain ⟨i, rfl⟩ := Int.eq_ofNat_of_zero_le a0
  obtain ⟨c, h1, h2⟩ := @strGet_of L i (le_line hl) (by omega)
  exact ⟨c, h2, List.mem_of_getElem? h1⟩
theorem pick_seq (ds : List D) (m : Int) (h0 : 0 < m) (hm : m ≤ ds.length) (z : Int) : ∃ d, seqGet ds (z % m) = .ok d ∧ d ∈ ds := by
  have a0 := Int.emod_nonneg z (show m ≠ 0 by omega)
  have a1 := Int.emod_lt_of_pos z h0
  generalize z % m = i at a0 a1
  obtain ⟨i, rfl⟩ := Int.eq_ofNat_of_zero_le a0
  have hi : i < ds.length := by omega
  exact ⟨ds[i], seqGet_of (List.getElem?_eq_getElem hi), List.getElem_mem hi⟩
theorem str_sing (c : Nat) : Str.length ⟨#[c]⟩ = 1 := rfl
end VL

set_option maxRecDepth 100000
set_option maxHeartbeats 2000000
namespace VL
open PySem L2
section
variable {γ : D → Env → Option Env} {τ : Env → Res Bool} {φ : Env → Res D} {env : Env} {ι : Env → Res (List D)} {vs : List Nat}
theorem compL_fil (p : D → Bool) (f : D → D) : ∀ (ds acc : List D), (∀ d ∈ ds, ∃ e1, γ d env = some e1 ∧ τ e1 = .ok (p d) ∧ (p d = true → φ e1 = .ok (f d))) → acc.length + ds.length ≤ sizeLine →
    compL γ τ φ env ds acc = .ok (.lst (acc ++ (ds.filter p).map f))
  | [], acc, _, _ => by simp [compL]
  | d :: ds, acc, h, hl => by
    obtain ⟨e1, h1, h2, h3⟩ := h d (List.mem_cons_self ..)
    rw [List.length_cons] at hl
    unfold compL
    rw [h1]
    simp only []
    rw [h2]
    cases q : p d with
    | true =>
      simp only [h3 q]
      rw [if_pos (by omega), compL_fil p f ds (acc ++ [f d]) (fun d hd => h d (List.mem_cons_of_mem _ hd)) (by simp; omega), List.filter_cons_of_pos q]
      simp
    | false =>
      simp only []
      rw [compL_fil p f ds acc (fun d hd => h d (List.mem_cons_of_mem _ hd)) (by omega), List.filter_cons_of_neg (by simp [q])]
theorem lcE_fil (p : D → Bool) (f : D → D) {ds : List D} (hi : ι env = .ok ds) (hl : ds.length ≤ sizeLine) (h : ∀ d ∈ ds, ∃ e1, γ d (wipeE env vs) = some e1 ∧ τ e1 = .ok (p d) ∧ (p d = true → φ e1 = .ok (f d))) :
    lcE vs γ ι τ φ env = .ok (.lst ((ds.filter p).map f)) := by
  unfold lcE
  rw [hi]
  exact (compL_fil p f ds [] h (by simpa using hl)).trans (by rw [List.nil_append])
theorem lcE_map (f : D → D) {ds : List D} (hi : ι env = .ok ds) (hl : ds.length ≤ sizeLine) (h : ∀ d ∈ ds, ∃ e1, γ d (wipeE env vs) = some e1 ∧ φ e1 = .ok (f d)) :
    lcE vs γ ι yesT φ env = .ok (.lst (ds.map f)) := by
  rw [lcE_fil (fun _ => true) f hi hl (fun d hd => by obtain ⟨e1, h1, h2⟩ := h d hd; exact ⟨e1, h1, rfl, fun _ => h2⟩)]
  rw [List.filter_eq_self.mpr (fun _ _ => rfl)]
theorem compL_ex (p : D → Prop) : ∀ (ds acc : List D), (∀ d ∈ ds, ∃ e1, γ d env = some e1 ∧ ∃ y, φ e1 = .ok y ∧ p y) → acc.length + ds.length ≤ sizeLine →
    ∃ ys, compL γ yesT φ env ds acc = .ok (.lst (acc ++ ys)) ∧ ys.length = ds.length ∧ ∀ y ∈ ys, p y
  | [], acc, _, _ => ⟨[], by simp [compL], rfl, by simp⟩
  | d :: ds, acc, h, hl => by
    obtain ⟨e1, h1, y, h2, h3⟩ := h d (List.mem_cons_self ..)
    rw [List.length_cons] at hl
    obtain ⟨ys, k1, k2, k3⟩ := compL_ex p ds (acc ++ [y]) (fun d hd => h d (List.mem_cons_of_mem _ hd)) (by simp; omega)
    refine ⟨y :: ys, ?_, by rw [List.length_cons, List.length_cons, k2], fun z hz => ?_⟩
    · unfold compL
      rw [h1]
      simp only [yesT]
      simp only [h2]
      rw [if_pos (by omega), k1]
      simp
    · rcases List.mem_cons.mp hz with rfl | hz
      · exact h3
      · exact k3 z hz
theorem lcE_ex (p : D → Prop) {ds : List D} (hi : ι env = .ok ds) (hl : ds.length ≤ sizeLine) (h : ∀ d ∈ ds, ∃ e1, γ d (wipeE env vs) = some e1 ∧ ∃ y, φ e1 = .ok y ∧ p y) :
    ∃ ys, lcE vs γ ι yesT φ env = .ok (.lst ys) ∧ ys.length = ds.length ∧ ∀ y ∈ ys, p y := by
  unfold lcE
  rw [hi]
  obtain ⟨ys, h1, h2, h3⟩ := compL_ex (env := wipeE env vs) p ds [] h (by simpa using hl)
  exact ⟨ys, h1, h2, h3⟩
end
theorem strsOf_map : ∀ l : List Str, strsOf (l.map .str) = some l
  | [] => rfl
  | s :: l => by
    rw [List.map_cons]
    show (strsOf (l.map .str)).map _ = _
    rw [strsOf_map l]; rfl
theorem sum_le (l : List Str) (k : Nat) (h : ∀ s ∈ l, s.length ≤ k) : (l.map (·.length)).sum ≤ l.length * k := by
  induction l with
  | nil => simp
  | cons s l ih =>
    have h1 := h s (List.mem_cons_self ..)
    have h2 := ih fun s hs => h s (List.mem_cons_of_mem _ hs)
    rw [List.map_cons, List.sum_cons, List.length_cons, Nat.succ_mul]
    omega
theorem join_of (a : Str) (l : List Str) (h : (l.map (·.length)).sum + l.length * a.length ≤ 16777216) : joinD a (.lst (l.map .str)) = .ok (.str (Txt.join a l)) := by
  show joinS a _ = _
  unfold joinS
  rw [strsOf_map]
  exact if_pos h
theorem joinL_nil : ∀ l : List (List Nat), TL.joinL [] l = l.flatten
  | [] => rfl
  | [p] => by simp [TL.joinL]
  | p :: q :: r => by
    show p ++ ([] ++ TL.joinL [] (q :: r)) = _
    rw [joinL_nil (q :: r)]
    simp
theorem tl_join0 (l : List Str) : (Txt.join (Str.ofString "") l).cps.toList = (l.map fun s => s.cps.toList).flatten := by
  have h : TL.tl (Txt.join (Str.ofString "") l) = TL.joinL (TL.tl (Str.ofString "")) (l.map TL.tl) := by rw [TL.join_eq, TL.tl_join]
  have h2 : TL.tl (Str.ofString "") = [] := by decide +kernel
  rw [h2, joinL_nil] at h
  exact h
end VL

set_option maxRecDepth 100000
set_option maxHeartbeats 2000000
namespace VL
open PySem L2
section
variable {X : Cx} {W : WX} {fl fla : Bool} {e a : Expr} {st : Stmt} {sts : List Stmt} {pos : Pos} {φ : Env → Res VL.D}
def badS (_ : Env) : SRes := .bad
theorem vs_bad : VS X W st badS := ⟨fun _ _ _ => False, ⟨fun _ _ _ _ _ _ h => h.elim⟩, fun _ _ _ _ _ _ _ _ h => h⟩
def negD : VL.D → Res VL.D
  | .int i => .ok (.int (-i))
  | _ => .bad
def negE (φ : Env → Res VL.D) (env : Env) : Res VL.D := (φ env).bind negD
theorem ve_neg (h : VE X W fla a φ) : VE X W fl (.UnaryOp .USub a pos) (negE φ) := by
  obtain ⟨t, p, r⟩ := h
  refine ⟨_, pe_un un_neg p, fun H0 M0 M H σ env Q g h => ?_⟩
  refine r H0 M0 M H σ env _ g (PostE.seq h fun d v H1 e1 r1 h1 => ?_)
  cases d with
  | int k => cases r1; exact ⟨k, rfl, h1 _ H1 (Ext.refl _) (.int _)⟩
  | _ => exact h1.elim
theorem negE_eq {env : Env} : negE φ env = r1 negD (φ env) := rfl
theorem neg_int {i : Int} : negD (.int i) = .ok (.int (-i)) := rfl
end
end VL

set_option maxRecDepth 100000
set_option maxHeartbeats 2000000
namespace VL
open PySem L2
section
variable {X : Cx} {W : WX} {fl fla : Bool} {e a : Expr} {es : List Expr} {st : Stmt} {sts : List Stmt} {pos : Pos} {φ : Env → Res VL.D} {φs : Env → Res (List VL.D)}
def retOS (i : Nat) (env : Env) : SRes := match env[i]? with
  | some (.ow d) => .ro d
  | _ => .bad
theorem OwOk.vex {mg : Gm} {M M' : Addr → Bool} {H : Hp} {p : Addr} (le : VEx (Sh M (vw H)) (Sh M' (vw H))) : ∀ {d : VL.D}, OwOk mg M H p d → OwOk mg M' H p d := by
  intro d h
  match d, h with
  | .lst ds, ⟨xs, h, r⟩ => exact ⟨xs, h, r.mono le⟩
  | .dic 0 es, ⟨kvs, h, k, r⟩ => exact ⟨kvs, h, k, r.mono le⟩
  | .dic 1 es, ⟨kvs, h, k, r⟩ => exact ⟨kvs, h, k, r.mono le⟩
  | .dic 2 es, ⟨kvs, h, n, k, r⟩ => exact ⟨kvs, h, fun x hx => (n x hx).mono le, k, r.mono le⟩
  | .dic (_ + 3) _, h => exact h.elim
  | .ins c gs, ⟨C, dx, fs, mm, h, k, r⟩ => exact ⟨C, dx, fs, mm, h, k, r.mono le⟩
  | .non, h => exact h.elim
  | .bl _, h => exact h.elim
  | .int _, h => exact h.elim
  | .str _, h => exact h.elim
  | .tup _, h => exact h.elim
  | .scr _, h => exact h.elim
  | .exn _ _, h => exact h.elim
  | .sel x c gs, ⟨q, C, dx, fs, mm, h, k, r⟩ => exact ⟨q, C, dx, fs, mm, h, k, r.mono le⟩
theorem vs_retO (i : Nat) {x : Str} {px : Pos} (hN : X.N[i]? = some x := by rfl) (hv : Vis X.env.scope x := by first | exact Or.inl rfl | exact Or.inr (Or.inl rfl) | exact Or.inr (Or.inr rfl))
    (hd : (x == ("__debug__" : Str)) = false := by decide) (hcd : (x == ("__classdict__" : Str)) = false := by decide) : VS X W (.Return (some (.Name x px)) pos) (retOS i) := by
  refine ⟨_, ps_ret (pe_var hN hv hd hcd), fun H0 M0 M H σ env D g h => ?_⟩
  unfold retOS at h
  cases q : env[i]? with
  | none => rw [q] at h; exact h.elim
  | some s =>
    rw [q] at h
    cases s with
    | no => exact h.elim
    | sh d => exact h.elim
    | ow d =>
      obtain ⟨p, hv', mp, m0, ho⟩ := g.sl i _ q
      refine ⟨_, hv', ?_⟩
      have h0 : H0 p = none := (g.new p mp).resolve_left (by rw [m0]; exact Bool.false_ne_true)
      refine h p H g.ex h0 (ho.vex fun a u hu => ?_)
      obtain ⟨h1, h2⟩ := Sh_some hu
      rw [Sh_of]
      · exact h2
      · unfold addM
        have : M0 a = false := by
          cases z : M0 a with
          | false => rfl
          | true => rw [g.sub a z] at h1; cases h1
        rw [this]
        refine decide_eq_false fun e => ?_
        rw [e, mp] at h1
        cases h1
def retFS (φ : Env → Res VL.D) (env : Env) : SRes := ofE (φ env) env fun d => .ro d
theorem vs_retF (h : VF X W e φ) : VS X W (.Return (some e) pos) (retFS φ) := by
  obtain ⟨t, p, r⟩ := h
  refine ⟨_, ps_ret p, fun H0 M0 M H σ env D g h => ?_⟩
  refine r H0 M0 M H σ env _ g ?_
  unfold retFS at h
  cases q : φ env with
  | ok d =>
    rw [q] at h
    intro p' H' hp e' o
    have h0 : H0 p' = none := by
      cases z : H0 p' with
      | none => rfl
      | some o => rw [g.ex _ _ z] at hp; cases hp
    refine h p' H' (g.ex.trans e') h0 (o.vex fun a u hu => ?_)
    obtain ⟨h1, h2⟩ := Sh_some hu
    rw [Sh_of]
    · exact h2
    · unfold addM at h1 ⊢
      cases z : M0 a with
      | false => cases y : decide (a = p') with
        | false => rfl
        | true => rw [y, Bool.or_true] at h1; cases h1
      | true => rw [g.sub a z] at h1; cases h1
  | exc c fs => rw [q] at h; exact fun cls dd H' e' r' => h M H' σ cls dd (g.mono e') (Sh_mono e'.v) r'
  | bad => rw [q] at h; exact h
def outO : SRes → Res VL.D
  | .ro d => .ok d
  | .xc c fs _ => .exc c fs
  | _ => .bad
def defO (m : Nat) (ψ : Env → SRes) (ds : List VL.D) : Res VL.D := outO (ψ (env0 m ds))
def PostO (mg : Gm) (M : Addr → Bool) (H : Hp) (Q : VK) (E : XK) : Res VL.D → Prop
  | .ok d => ∀ p H', Ext H H' → H p = none → OwOk mg (addM M p) H' p d → Q (.ref p) H'
  | .exc c fs => ∀ cls dd H', Ext H H' → RpX mg (Sh M (vw H')) c fs cls dd → E cls dd H'
  | .bad => False
def spO (mg : Gm) (n : Nat) (F : List VL.D → Res VL.D) : Sp := fun vs H Q E => vs.length = n ∧ ∃ (M : Addr → Bool) (ds : List VL.D), MOk M H ∧ RpL mg (Sh M (vw H)) ds vs ∧ PostO mg M H Q E (F ds)
end
theorem fn_vo {P : Program} {w : World} {K : PySem.W.Frag} {mg : Str → Option Value} {base : Heap} {x qual : Str} {st : Stmt} {f : Addr} {fd : FuncData} {N ps : List Str} {k n : Nat} {ψ : Env → SRes} (F : Fun K x qual st f fd) (S : FnScope N ps (defScope st)) (hn : ps.length = n)
    (body : ∀ (cdv : Value) (A : Around) (outer : List PySem.Env) (s : Shared) (H : Hp) (E : XK), Room k (A.deeper (PyProof.Rows.envOfC qual (defScope st) s.heap.objs.size f cdv)) →
      L2N.Takes (cxOf (L2N.CX P w) P w K mg base N qual (defScope st) f cdv A outer s H E) (WB E) →
      PassesOwn (model P w) (A.deeper (PyProof.Rows.envOfC qual (defScope st) s.heap.objs.size f cdv)) (PyProof.Rows.envOfC qual (defScope st) s.heap.objs.size f cdv) (cxOf (L2N.CX P w) P w K mg base N qual (defScope st) f cdv A outer s H E).xe →
      VB (cxOf (L2N.CX P w) P w K mg base N qual (defScope st) f cdv A outer s H E) (WB E) (defBody st) ψ) :
    FnOk P w K mg base (L2N.CX P w) (k + 1) f fd ps (spO ⟨P, w, K, mg⟩ n (defO N.length ψ)) := by
  refine fun_okN F S (fun vs H Q E h => h.1.trans hn.symm) fun cdv A outer s H vs Q E hr h => ?_
  obtain ⟨hl, M, ds, m, r, post⟩ := h
  obtain ⟨t, p, rr⟩ := body cdv A outer s H E hr (L2N.takes_of rfl rfl rfl rfl) (passes_of rfl)
  refine ⟨t, p, rr H M M H _ (env0 N.length ds) _ (good0 m r) ?_⟩
  unfold defO at post
  cases q : ψ (env0 N.length ds) with
  | rt d => rw [q] at post; exact post.elim
  | nx env => rw [q] at post; exact post.elim
  | bk env => rw [q] at post; exact post.elim
  | ct env => rw [q] at post; exact post.elim
  | xc c fs env =>
    rw [q] at post
    exact fun M' H' σ' cls dd g e r' => post cls dd H' g.ex (r'.mono (Good.rt (X := cxOf (L2N.CX P w) P w K mg base N qual (defScope st) f cdv A outer s H E) g))
  | bad => rw [q] at post; exact post
  | ro d => rw [q] at post; exact fun p H' e h0 o => post p H' e h0 o
structure DefOkO (P : Program) (w : World) (K : PySem.W.Frag) (mg : Str → Option Value) (base : Heap) (x : Str) (k : Nat) (ps : List Str) (n : Nat) (F : List D → Res D) : Prop where
  ex : ∃ (f : Addr) (fd : FuncData), mg x = some (.ref f) ∧ PySem.W.keepIn K (.ref f) = true ∧ Binds K fd ps [] ∧ FnOk P w K mg base (L2N.CX P w) k f fd ps (spO ⟨P, w, K, mg⟩ n F)
section
variable {P : Program} {w : World} {K : PySem.W.Frag} {mg : Str → Option Value} {base : Heap} {x qual : Str} {st : Stmt} {N ps : List Str} {k n : Nat} {ψ : Env → SRes} {F G : List D → Res D}
theorem def_vo (N : List Str) (ψ : Env → SRes) (R : Raw K mg x st ps) (S : FnScope N ps (defScope st)) (hn : ps.length = n) (hF : F = defO N.length ψ)
    (body : ∀ (f : Addr) (cdv : Value) (A : Around) (outer : List PySem.Env) (s : Shared) (H : Hp) (E : XK), Room k (A.deeper (PyProof.Rows.envOfC x (defScope st) s.heap.objs.size f cdv)) →
      L2N.Takes (cxOf (L2N.CX P w) P w K mg base N x (defScope st) f cdv A outer s H E) (WB E) →
      PassesOwn (model P w) (A.deeper (PyProof.Rows.envOfC x (defScope st) s.heap.objs.size f cdv)) (PyProof.Rows.envOfC x (defScope st) s.heap.objs.size f cdv) (cxOf (L2N.CX P w) P w K mg base N x (defScope st) f cdv A outer s H E).xe →
      VB (cxOf (L2N.CX P w) P w K mg base N x (defScope st) f cdv A outer s H E) (WB E) (defBody st) ψ) :
    DefOkO P w K mg base x (k + 1) ps n F := by
  subst hF
  obtain ⟨f, fd, h1, h2, h3⟩ := R.ex
  exact ⟨⟨f, fd, h1, h2.kp, h3, fn_vo h2 S hn (body f)⟩⟩
variable {X : Cx} {W : WX} {fl : Bool} {e : Expr} {es : List Expr} {pos p : Pos} {φs : Env → Res (List D)}
theorem vf_def (h : DefOkO X.prog X.w X.K X.mg X.base x k ps n F) (tk : L2N.Takes X W) (hr : Room k X.A) (ha : VA X W true (e :: es) φs) (hn : (e :: es).length = n) (hl : ∀ env ds, φs env = .ok ds → ds.length = n) (hg : Gl X x := by rfl) (hdb : (x == ("__debug__" : Str)) = false := by decide)
    (he : starEach (e :: es) X.env = (false, eval e X.env) :: starEach es X.env := by rfl) (hpl : (backTo pos (starEach es X.env)).any (·.1) = false := by rfl) : VF X W (.Call (.Name x p) (e :: es) [] pos) (aE F φs) := by
  obtain ⟨f, fd, hm, hk, hb, hF⟩ := h.ex
  obtain ⟨t, pt, r⟩ := ha
  refine ⟨_, pe_callS hF hr hg hm hk hb (fun σ => L2N.passAt tk σ) pt hdb he hpl, fun H0 M0 M H σ env Q g h => ?_⟩
  have h0 : PostN X W M σ H Q ((φs env).bind F) := h
  refine r H0 M0 M H σ env _ g ?_
  cases q : φs env with
  | ok ds =>
    rw [q] at h0
    intro vs H1 e1 r1
    refine ⟨(r1.length.symm).trans (hl env ds q), M, ds, g.ok.mono e1, r1, ?_⟩
    have h0' : PostN X W M σ H Q (F ds) := h0
    cases z : F ds with
    | ok d =>
      rw [z] at h0'
      exact fun p H2 e2 hp o => h0' p H2 (by
        cases y : H p with
        | none => rfl
        | some o => rw [e1 _ _ y] at hp; cases hp) (e1.trans e2) o
    | exc c fs => rw [z] at h0'; exact fun cls dd H2 e2 r2 => h0' cls dd H2 (e1.trans e2) r2
    | bad => rw [z] at h0'; exact h0'
  | exc c fs => rw [q] at h0; exact h0
  | bad => rw [q] at h0; exact h0
end
end VL

set_option maxRecDepth 100000
set_option maxHeartbeats 2000000
namespace VL
open PySem L2
section
variable {X : Cx} {W : WX} {fl fla flb : Bool} {e a b value : Expr} {es : List Expr} {st : Stmt} {sts body orelse : List Stmt} {pos pos' : Pos} {φ φa φb : Env → Res VL.D} {φs : Env → Res (List VL.D)} {ψ : Env → SRes}
def clearS (i : Nat) (env : Env) : SRes := match env[i]? with
  | some (.ow (.lst _)) => .nx (env.set i (.ow (.lst [])))
  | _ => .bad
theorem vs_clear (i : Nat) {x : Str} {px apos cpos : Pos} (hN : X.N[i]? = some x := by rfl) (hv : Vis X.env.scope x := by first | exact Or.inl rfl | exact Or.inr (Or.inl rfl) | exact Or.inr (Or.inr rfl))
    (hp : ∀ (ta : TE) (r : PE X (.Name x px) ta), PE X (.Call (.Attribute (.Name x px) "clear" apos) [] [] cpos) (tBM0 X.K "list" rClear ta) := by exact fun _ r => pe_bm0 PySem.F.plainAttrs_list PySem.F.slot_list_clear PySem.F.type_list_clear mt_clear r)
    (hd : (x == ("__debug__" : Str)) = false := by decide) (hcd : (x == ("__classdict__" : Str)) = false := by decide)
    (hs : swapsWith (.Call (.Attribute (.Name x px) "clear" apos) [] [] cpos) none pos.line X.env = pure false := by rfl) :
    VS X W (.Expr (.Call (.Attribute (.Name x px) "clear" apos) [] [] cpos) pos) (clearS i) := by
  refine ⟨_, ps_expr (hp _ (pe_var hN hv hd hcd)) hs, fun H0 M0 M H σ env D g h => ?_⟩
  unfold clearS at h
  cases q : env[i]? with
  | none => rw [q] at h; exact h.elim
  | some s =>
    rw [q] at h
    cases s with
    | no => exact h.elim
    | sh d => exact h.elim
    | ow d =>
      cases d with
      | lst ds =>
        obtain ⟨p', hv', mp, m0, xs, hx, rx⟩ := g.sl i _ q
        refine ⟨_, hv', .inl ⟨rfl, _, SqL.of hx⟩, ?_⟩
        refine ⟨p', xs, rfl, rfl, hx, ?_⟩
        have rr : OwOk (gm X) M (upd H p' (.lst [])) p' (.lst []) := ⟨_, upd_same, .nil⟩
        exact h M _ σ (g.mut q hv' rr) (by rw [sh_mut mp]; exact .refl _)
      | _ => exact h.elim
theorem clearS_ow {i : Nat} {env : Env} {ds : List VL.D} (h : env[i]? = some (.ow (.lst ds))) : clearS i env = .nx (env.set i (.ow (.lst []))) := by
  unfold clearS
  rw [h]
def inX (d e : VL.D) : Res VL.D := match e with
  | .dic t es => if keyFit t d = true then .ok (.bl (lookD es d).isSome) else .bad
  | e => inD d e
def notInX (d e : VL.D) : Res VL.D := match e with
  | .dic t es => if keyFit t d = true then .ok (.bl (!(lookD es d).isSome)) else .bad
  | e => notInD d e
def rInDic : R2 := fun y x H Q => ∃ a o, x = .ref a ∧ DGet H a y o ∧ Q (.bl o.isSome) H
def rNotInDic : R2 := fun y x H Q => ∃ a o, x = .ref a ∧ DGet H a y o ∧ Q (.bl (!o.isSome)) H
theorem op_inDic (hu : X.A.units + 1 < cLine) : OpR X (compareOp .In) rInDic := by
  intro pins s σ H y x u v Q I ry rx h
  obtain ⟨a, o, rfl, g, q⟩ := h
  obtain rfl : v = Value.ref a := rx
  exact d_in hu I g ry fun s3 I3 => ⟨.bl o.isSome, H, I3, rfl, q⟩
theorem op_notInDic (hu : X.A.units + 1 < cLine) : OpR X (compareOp .NotIn) rNotInDic := by
  intro pins s σ H y x u v Q I ry rx h
  obtain ⟨a, o, rfl, g, q⟩ := h
  obtain rfl : v = Value.ref a := rx
  exact d_notIn hu I g ry fun s3 I3 => ⟨.bl (!o.isSome), H, I3, rfl, q⟩
theorem op_inX (hu : X.A.units + 65 < cLine) : OpR X (compareOp .In) (fun x y H Q => rInA X.K x y H Q ∨ rInDic x y H Q) := (op_inA hu).or (op_inDic (by omega))
theorem op_notInX (hu : X.A.units + 65 < cLine) : OpR X (compareOp .NotIn) (fun x y H Q => rNotInA X.K x y H Q ∨ rNotInDic x y H Q) := (op_notInA hu).or (op_notInDic (by omega))
theorem got_some {mg : Gm} {H : Hp} {G : Vw} {a : Addr} {y : V} {o : Option VL.D} (h : Got mg G H a y o) : ∃ o', DGet H a y o' ∧ o'.isSome = o.isSome := by
  cases o with
  | none => exact ⟨none, h, rfl⟩
  | some d => obtain ⟨v, h1, _⟩ := h; exact ⟨some v, h1, rfl⟩
theorem of_inX : OpF X W fla flb fl (fun x y H Q => rInA X.K x y H Q ∨ rInDic x y H Q) inX := by
  intro M H σ Q d e v w m rd re h
  cases e with
  | dic t es =>
    obtain ⟨hf, h'⟩ := PostE.ite h
    have rk := rd.mono (vis_le fla M (vw H))
    have re' := re.mono (vis_le flb M (vw H))
    cases re' with
    | dicK h1 e1 r1 =>
      obtain ⟨o, g1, g2⟩ := got_some (dget_of (G := vw H) (fun _ _ h => h) (.dicK h1 e1 r1) rk hf)
      refine .inr ⟨_, o, rfl, g1, ?_⟩
      rw [g2]
      exact h' _ H (Ext.refl H) (.bl _)
    | dicT h1 e1 r1 =>
      obtain ⟨o, g1, g2⟩ := got_some (dget_of (G := vw H) (fun _ _ h => h) (.dicT h1 e1 r1) rk hf)
      refine .inr ⟨_, o, rfl, g1, ?_⟩
      rw [g2]
      exact h' _ H (Ext.refl H) (.bl _)
    | dicN h1 n e1 r1 => cases d <;> cases hf
  | _ => exact .inl (of_in M H σ Q d _ v w m rd re h)
theorem of_notInX : OpF X W fla flb fl (fun x y H Q => rNotInA X.K x y H Q ∨ rNotInDic x y H Q) notInX := by
  intro M H σ Q d e v w m rd re h
  cases e with
  | dic t es =>
    obtain ⟨hf, h'⟩ := PostE.ite h
    have rk := rd.mono (vis_le fla M (vw H))
    have re' := re.mono (vis_le flb M (vw H))
    cases re' with
    | dicK h1 e1 r1 =>
      obtain ⟨o, g1, g2⟩ := got_some (dget_of (G := vw H) (fun _ _ h => h) (.dicK h1 e1 r1) rk hf)
      refine .inr ⟨_, o, rfl, g1, ?_⟩
      rw [g2]
      exact h' _ H (Ext.refl H) (.bl _)
    | dicT h1 e1 r1 =>
      obtain ⟨o, g1, g2⟩ := got_some (dget_of (G := vw H) (fun _ _ h => h) (.dicT h1 e1 r1) rk hf)
      refine .inr ⟨_, o, rfl, g1, ?_⟩
      rw [g2]
      exact h' _ H (Ext.refl H) (.bl _)
    | dicN h1 n e1 r1 => cases d <;> cases hf
  | _ => exact .inl (of_notIn M H σ Q d _ v w m rd re h)
def setD (es : List (VL.D × VL.D)) (k v : VL.D) : List (VL.D × VL.D) := if (es.any fun p => eqK p.1 k) = true then es.map (fun p => if eqK p.1 k = true then (p.1, v) else p) else es ++ [(k, v)]
theorem any_rel {κ : Type} [DecidableEq κ] {f : κ → VL.D} {k : VL.D} {key : κ} (hk : ∀ a, eqK (f a) k = decide (a = key)) : ∀ {es : List (VL.D × VL.D)} {kvs : List (κ × V)}, es.map (·.1) = kvs.map (fun p => f p.1) → (es.any fun p => eqK p.1 k) = kvs.any fun q => decide (q.1 = key)
  | [], [], _ => rfl
  | [], _ :: _, e => by cases e
  | _ :: _, [], e => by cases e
  | p :: es, q :: kvs, e => by
    rw [List.map_cons, List.map_cons] at e
    obtain ⟨e1, e2⟩ := List.cons.inj e
    rw [List.any_cons, List.any_cons, any_rel hk e2, e1, hk]
theorem map_rel {κ : Type} [DecidableEq κ] {mg : Gm} {G : Vw} {f : κ → VL.D} {k : VL.D} {key : κ} {d : VL.D} {v : V} (hk : ∀ a, eqK (f a) k = decide (a = key)) (rv : Rp mg G d v) : ∀ {es : List (VL.D × VL.D)} {kvs : List (κ × V)}, es.map (·.1) = kvs.map (fun p => f p.1) → RpL mg G (es.map (·.2)) (kvs.map (·.2)) →
    (es.map (fun p => if eqK p.1 k = true then (p.1, d) else p)).map (·.1) = (kvs.map (fun q => if q.1 = key then (q.1, v) else q)).map (fun p => f p.1) ∧
    RpL mg G ((es.map (fun p => if eqK p.1 k = true then (p.1, d) else p)).map (·.2)) ((kvs.map (fun q => if q.1 = key then (q.1, v) else q)).map (·.2))
  | [], [], _, _ => ⟨rfl, .nil⟩
  | [], _ :: _, e, _ => by cases e
  | _ :: _, [], e, _ => by cases e
  | p :: es, q :: kvs, e, r => by
    rw [List.map_cons, List.map_cons] at e
    obtain ⟨e1, e2⟩ := List.cons.inj e
    have r' : RpL mg G (p.2 :: es.map (·.2)) (q.2 :: kvs.map (·.2)) := r
    cases r' with
    | cons r1 r2 =>
      obtain ⟨i1, i2⟩ := map_rel hk rv e2 r2
      have hc : eqK p.1 k = decide (q.1 = key) := by rw [e1, hk]
      simp only [List.map_cons]
      by_cases c : q.1 = key
      · rw [if_pos c, if_pos (by rw [hc, decide_eq_true c])]
        exact ⟨by rw [i1, e1], .cons rv i2⟩
      · rw [if_neg c, if_neg (by rw [hc, decide_eq_false c]; exact Bool.false_ne_true)]
        exact ⟨by rw [i1, e1], .cons r1 i2⟩
theorem set_rel {κ : Type} [DecidableEq κ] {mg : Gm} {G : Vw} {f : κ → VL.D} {k : VL.D} {key : κ} {d : VL.D} {v : V} {es : List (VL.D × VL.D)} {kvs : List (κ × V)} (hk : ∀ a, eqK (f a) k = decide (a = key)) (ek : k = f key) (rv : Rp mg G d v)
    (e : es.map (·.1) = kvs.map (fun p => f p.1)) (r : RpL mg G (es.map (·.2)) (kvs.map (·.2))) :
    (setD es k d).map (·.1) = (putK kvs key v).map (fun p => f p.1) ∧ RpL mg G ((setD es k d).map (·.2)) ((putK kvs key v).map (·.2)) := by
  unfold setD putK
  rw [any_rel hk e]
  by_cases c : (kvs.any fun q => decide (q.1 = key)) = true
  · rw [if_pos c, if_pos c]
    exact map_rel hk rv e r
  · rw [if_neg c, if_neg c, List.map_append, List.map_append, List.map_append, List.map_append, e]
    exact ⟨by rw [ek]; rfl, r.append (.cons rv .nil)⟩
theorem keyD_of {k : VL.D} {key : Key} (h : keyOf k = some key) : k = keyD key := by
  cases k <;> first | (cases h; done) | skip
  all_goals (cases h; rfl)
theorem keysD_of : ∀ {ds : List VL.D} {ks : List Key}, keysOf ds = some ks → ds = ks.map keyD
  | [], _, h => by cases h; rfl
  | d :: ds, _, h => by
    unfold keysOf at h
    cases h1 : keyOf d with
    | none => rw [h1] at h; cases h
    | some k =>
      cases h2 : keysOf ds with
      | none => rw [h1, h2] at h; cases h
      | some ks =>
        rw [h1, h2] at h
        cases h
        rw [List.map_cons, ← keyD_of h1, ← keysD_of h2]
theorem map_len {α β : Type} {f : α → β} {γ : Type} {g : γ → β} {l : List α} {m : List γ} (h : l.map f = m.map g) : l.length = m.length := by
  have := congrArg List.length h
  rwa [List.length_map, List.length_map] at this
theorem put_own {mg : Gm} {M : Addr → Bool} {H : Hp} {p : Addr} {t : Nat} {es : List (VL.D × VL.D)} {k d : VL.D} {y v : V} (mp : M p = true) (ho : OwOk mg M H p (.dic t es)) (rk : Rp mg (vw H) k y) (rv : Rp mg (Sh M (vw H)) d v) (hf : keyFit t k = true) (hl : es.length < sizeLine) :
    ∃ o, DPut H p y v (upd H p o) ∧ OwOk mg M (upd H p o) p (.dic t (setD es k d)) := by
  match t, ho with
  | 0, ⟨kvs, h, e, r⟩ =>
    cases q : keyOf k with
    | none => rw [show keyFit 0 k = (keyOf k).isSome by cases k <;> rfl, q] at hf; cases hf
    | some key =>
      obtain ⟨s1, s2⟩ := set_rel (eqK_key q) (keyD_of q) rv e r
      rw [rp_key rk q]
      exact ⟨_, DPut.k h (by rw [← map_len e]; exact hl), _, upd_same, s1, by rw [sh_mut mp]; exact s2⟩
  | 1, ⟨kvs, h, e, r⟩ =>
    cases k with
    | tup ds =>
      cases q : keysOf ds with
      | none =>
        have : keyFit 1 (.tup ds) = (keysOf ds).isSome := rfl
        rw [this, q] at hf; cases hf
      | some ks =>
        have hk : ∀ b : List Key, eqK (.tup (b.map keyD)) (.tup ds) = decide (b = ks) := fun b => by
          have : eqK (.tup (b.map keyD)) (.tup ds) = eqKs (b.map keyD) ds := by rw [eqK]
          rw [this]; exact eqKs_keys q b
        obtain ⟨s1, s2⟩ := set_rel (f := fun b : List Key => .tup (b.map keyD)) hk (by rw [keysD_of q]) rv e r
        cases rk with
        | tup hb rb =>
          have ex := rp_keys rb q
          subst ex
          exact ⟨_, DPut.t h (vw_tup hb) (by rw [← map_len e]; exact hl), _, upd_same, s1, by rw [sh_mut mp]; exact s2⟩
    | _ => cases hf
  | 2, _ => cases k <;> cases hf
  | _ + 3, h => exact h.elim
def putS (i : Nat) (φk φv : Env → Res VL.D) (env : Env) : SRes := match env[i]? with
  | some (.ow (.dic t es)) => ofE (φv env) env fun d => ofE (φk env) env fun k => if keyFit t k = true ∧ es.length < sizeLine then .nx (env.set i (.ow (.dic t (setD es k d)))) else .bad
  | _ => .bad
theorem vs_put (i : Nat) {x : Str} {ke : Expr} {φk φv : Env → Res VL.D} {px : Pos} (hu : X.A.units + 1 < cLine) (hk : VE X W fla ke φk) (hv : VE X W true value φv) (hN : X.N[i]? = some x := by rfl) (hvi : Vis X.env.scope x := by first | exact Or.inl rfl | exact Or.inr (Or.inl rfl) | exact Or.inr (Or.inr rfl))
    (hd : (x == ("__debug__" : Str)) = false := by decide) (hcd : (x == ("__classdict__" : Str)) = false := by decide)
    (hs : swapsWith value (some (.Subscript (.Name x px) ke pos')) pos.line X.env = pure false := by rfl) : VS X W (.Assign [.Subscript (.Name x px) ke pos'] value pos) (putS i φk φv) := by
  obtain ⟨tk, pk, rk⟩ := hk
  obtain ⟨tv, pv, rv⟩ := hv
  refine ⟨_, ps_dput hu (pe_var hN hvi hd hcd) pk pv hs, fun H0 M0 M H σ env D g h => ?_⟩
  unfold putS at h
  cases q : env[i]? with
  | none => rw [q] at h; exact h.elim
  | some s =>
    rw [q] at h
    cases s with
    | no => exact h.elim
    | sh d => exact h.elim
    | ow dd =>
      cases dd with
      | dic t es =>
        refine rv H0 M0 M H σ env _ g (PostS.ofE g h fun d v H1 e1 g1 r1 h1 => ?_)
        obtain ⟨p', hv', mp, m0, ho⟩ := g1.sl i _ q
        refine ⟨_, hv', ?_⟩
        refine rk H0 M0 M H1 σ env _ g1 (PostS.ofE g1 h1 fun k y H2 e2 g2 r2 h2 => ?_)
        obtain ⟨⟨hf, hl⟩, h2⟩ := PostS.ite h2
        obtain ⟨p2, hv2, mp2, m02, ho2⟩ := g2.sl i _ q
        have ep : p2 = p' := by
          rw [hv'] at hv2
          cases hv2
          rfl
        subst ep
        obtain ⟨o, hp, ho'⟩ := put_own mp2 ho2 (r2.mono (vis_le fla M (vw H2))) (r1.mono (Sh_mono e2.v)) hf hl
        exact ⟨p2, _, rfl, hp, h2 M _ σ (g2.mut q hv2 ho') (by rw [sh_mut mp2]; exact .refl _)⟩
      | _ => exact h.elim
end
end VL

set_option maxRecDepth 100000
set_option maxHeartbeats 2000000
namespace VL
open PySem L2
section
variable {mg : Gm} {H0 H : Hp} {M0 M : Addr → Bool} {σ : L2.St} {env : Env}
theorem good_lock {j : Nat} {p : Addr} {d0 : D} {o : HO} (g : Good mg H0 M0 M H σ env) (hj : env[j]? = some (.ow d0)) (hv : σ[j]? = some (some (.ref p))) (mp : M p = true) (ht : ∀ xs, o ≠ .tup xs) (hx : ∀ fs, o ≠ .xd fs) :
    Good mg (upd H0 p o) (addM M0 p) M (upd H p o) σ (env.set j .no) where
  len := by rw [List.length_set]; exact g.len
  ok := { dom := fun a h => by
            by_cases e : a = p
            · subst e; exact ⟨_, upd_same⟩
            · obtain ⟨u, q⟩ := g.ok.dom a h; exact ⟨u, by rw [upd_ne e]; exact q⟩
          tup := fun a xs h z => by
            by_cases e : a = p
            · subst e; rw [upd_same] at z; cases z; exact ht xs rfl
            · rw [upd_ne e] at z; exact g.ok.tup a xs h z
          xd := fun a fs h z => by
            by_cases e : a = p
            · subst e; rw [upd_same] at z; cases z; exact hx fs rfl
            · rw [upd_ne e] at z; exact g.ok.xd a fs h z }
  sub := fun a h => by
    by_cases e : a = p
    · subst e; exact mp
    · rw [addM_ne e] at h; exact g.sub a h
  new := fun a h => by
    by_cases e : a = p
    · subst e; exact .inl addM_self
    · rw [addM_ne e, upd_ne e]; exact g.new a h
  ok0 := { dom := fun a h => by
            by_cases e : a = p
            · subst e; exact ⟨_, upd_same⟩
            · rw [addM_ne e] at h; obtain ⟨u, q⟩ := g.ok0.dom a h; exact ⟨u, by rw [upd_ne e]; exact q⟩
           tup := fun a xs h z => by
            by_cases e : a = p
            · subst e; rw [upd_same] at z; cases z; exact ht xs rfl
            · rw [addM_ne e] at h; rw [upd_ne e] at z; exact g.ok0.tup a xs h z
           xd := fun a fs h z => by
            by_cases e : a = p
            · subst e; rw [upd_same] at z; cases z; exact hx fs rfl
            · rw [addM_ne e] at h; rw [upd_ne e] at z; exact g.ok0.xd a fs h z }
  ex := fun a u h => by
    by_cases e : a = p
    · subst e; rw [upd_same] at h ⊢; exact h
    · rw [upd_ne e] at h ⊢; exact g.ex a u h
  sl := fun i s h => by
    by_cases e : i = j
    · subst e
      have hl : i < env.length := (List.getElem?_eq_some_iff.mp hj).1
      rw [List.getElem?_set_self hl] at h
      cases h
      trivial
    · rw [get_set_ne e] at h
      have hs := g.sl i s h
      cases s with
      | no => trivial
      | sh d =>
        obtain ⟨x, h1, h2⟩ := hs
        exact ⟨x, h1, by rw [sh_mut mp]; exact h2⟩
      | ow d =>
        obtain ⟨q, h1, h2, h3, h4⟩ := hs
        have hne : q ≠ p := fun z => by
          subst z
          exact g.inj i j q e (by rw [h]; rfl) (by rw [hj]; rfl) h1 hv
        exact ⟨q, h1, h2, by rw [addM_ne hne]; exact h3, h4.imp (by rw [sh_mut mp]; exact .refl _) fun o ho => by rw [upd_ne hne]; exact ho⟩
  inj := fun i k q hne h1 h2 h3 => by
    by_cases e1 : i = j
    · subst e1; rw [isOw_sh rfl] at h1; cases h1
    · by_cases e2 : k = j
      · subst e2; rw [isOw_sh rfl] at h2; cases h2
      · rw [get_set_ne e1] at h1
        rw [get_set_ne e2] at h2
        exact g.inj i k q hne h1 h2 h3
end
theorem compL_not {γ : D → Env → Option Env} {τ : Env → Res Bool} {φ : Env → Res D} {env : Env} {c : Str} {fs : List (Str × D)} : ∀ (ds acc : List D), compL γ τ φ env ds acc ≠ .exc c fs
  | [], acc, h => by cases h
  | d :: ds, acc, h => by
    unfold compL at h
    cases q : γ d env with
    | none => rw [q] at h; cases h
    | some e1 =>
      rw [q] at h
      have h1 : (match τ e1 with
        | .ok true => (match φ e1 with
          | .ok y => if acc.length < sizeLine then compL γ τ φ env ds (acc ++ [y]) else .bad
          | _ => .bad)
        | .ok false => compL γ τ φ env ds acc
        | _ => .bad) = Res.exc c fs := h
      cases qt : τ e1 with
      | bad => rw [qt] at h1; cases h1
      | exc _ _ => rw [qt] at h1; cases h1
      | ok b =>
        rw [qt] at h1
        cases b with
        | false => exact compL_not ds acc h1
        | true =>
          have h2 : (match φ e1 with
            | .ok y => if acc.length < sizeLine then compL γ τ φ env ds (acc ++ [y]) else .bad
            | _ => .bad) = Res.exc c fs := h1
          cases qf : φ e1 with
          | bad => rw [qf] at h2; cases h2
          | exc _ _ => rw [qf] at h2; cases h2
          | ok y =>
            rw [qf] at h2
            have h3 : (if acc.length < sizeLine then compL γ τ φ env ds (acc ++ [y]) else .bad) = Res.exc c fs := h2
            by_cases hl : acc.length < sizeLine
            · rw [if_pos hl] at h3; exact compL_not ds _ h3
            · rw [if_neg hl] at h3; cases h3
theorem itOk_keys {mg : Gm} {H0 H : Hp} {M : Addr → Bool} {p : Addr} {od : Obj} {kvs : List (Key × V)} {ks : List D} (h0 : H0 p = some (.frz od (.dK kvs))) (e : ks = kvs.map fun q => keyD q.1) : ItOk mg H0 M H (Itk p od kvs) ks := by
  intro M' H' m e0 ev i
  have hp := e0 _ _ h0
  refine ⟨fun hi => ⟨hp, by rw [e, List.length_map] at hi; exact hi⟩, fun d hd => ?_⟩
  rw [e, List.getElem?_map] at hd
  cases q : kvs[i]? with
  | none => rw [q] at hd; cases hd
  | some kv =>
    rw [q] at hd
    cases hd
    refine ⟨⟨hp, (List.getElem?_eq_some_iff.mp q).1⟩, fun x H2 y => ?_⟩
    obtain ⟨rfl, k, v, h1, rfl⟩ := y
    rw [q] at h1
    cases h1
    refine ⟨.refl _, ?_⟩
    cases k with
    | inl i => exact .int i
    | inr s => exact .str s
def lcKE (j : Nat) (vs : List Nat) (γ : D → Env → Option Env) (τ : Env → Res Bool) (φ : Env → Res D) (env : Env) : Res D := match env[j]? with
  | some (.ow (.dic 0 es)) => lcE vs γ (fun _ => .ok (es.map (·.1))) τ φ (env.set j .no)
  | _ => .bad
section
variable {X : Cx} {W : WX} {tg elt : Expr} {ifs : List Expr} {scope : Scope} {own : List (Str × Nat)} {pos : Pos} {γ : D → Env → Option Env} {τ : Env → Res Bool} {φ : Env → Res D}
theorem vf_lcK (j : Nat) {x : Str} {px : Pos} (hc : X.calm = true) (hN : X.N.Nodup) (ok : BlkOk X.N X.env.scope scope own)
    (hg : ∀ (s : Shared) (H : Hp) (C : Addr) (cl : List (Str × Addr)) (fp : List Addr), VGc (own.map (·.2)) (X.blk s H scope (compEnvC scope cl C X.env) fp) tg γ)
    (ht : ∀ (s : Shared) (H : Hp) (C : Addr) (cl : List (Str × Addr)) (fp : List Addr), VTs (X.blk s H scope (compEnvC scope cl C X.env) fp) W0 ifs τ)
    (he : ∀ (s : Shared) (H : Hp) (C : Addr) (cl : List (Str × Addr)) (fp : List Addr), VE (X.blk s H scope (compEnvC scope cl C X.env) fp) W0 true elt φ)
    (hj : X.N[j]? = some x := by rfl) (hv : Vis X.env.scope x := by first | exact Or.inl rfl | exact Or.inr (Or.inl rfl) | exact Or.inr (Or.inr rfl)) (hd : (x == ("__debug__" : Str)) = false := by decide) (hcd : (x == ("__classdict__" : Str)) = false := by decide)
    (hs : ∀ y, foldedSetIterable (.Name x px) X.env y = pure y := by intro _; rfl) : VF X W (.ListComp elt [⟨tg, .Name x px, ifs, 0⟩] scope pos) (lcKE j (own.map (·.2)) γ τ φ) := by
  obtain ⟨pg, pt, pe⟩ := lc_parts hg ht he
  refine ⟨_, pe_lock (pe_lc hc hN (pi_keys (pe_var hj hv hd hcd)) ok pg pt pe hs), fun H0 M0 M H σ env Q g h => ?_⟩
  unfold lcKE at h
  cases q : env[j]? with
  | none => rw [q] at h; exact h.elim
  | some s =>
    rw [q] at h
    cases s with
    | no => exact h.elim
    | sh d => exact h.elim
    | ow d =>
      match d, h, q with
      | .dic 0 es, h, q =>
        obtain ⟨p, hv', mp, m0, kvs, hx, ek, rv⟩ := g.sl j _ q
        refine ⟨p, .dK kvs, hx, trivial, fun od => ?_⟩
        have gl := good_lock (o := .frz od (.dK kvs)) g q hv' mp (fun _ z => nomatch z) (fun _ z => nomatch z)
        have h' : PostN X W M σ H Q (lcE (own.map (·.2)) γ (fun _ => .ok (es.map (·.1))) τ φ (env.set j .no)) := h
        have rd : ∀ R : It → Hp → Prop, PostI X W (upd H0 p (.frz od (.dK kvs))) M σ (upd H p (.frz od (.dK kvs))) R (.ok (es.map (·.1))) → iKeys (tVar j) σ (upd H p (.frz od (.dK kvs))) R := fun R hR => ⟨_, hv', p, od, rfl, .inl ⟨kvs, upd_same, (show ∀ J H', Ext (upd H p (.frz od (.dK kvs))) H' → ItOk (gm X) (upd H0 p (.frz od (.dK kvs))) M H' J (es.map (·.1)) → R J H' from hR) _ _ (Ext.refl _) (itOk_keys upd_same ek)⟩⟩
        refine lc_read (X := X) (W := W) (wi := iKeys (tVar j)) (ι := fun _ => .ok (es.map (·.1))) (own.map (·.2)) rd gl ?_
        cases z : lcE (own.map (·.2)) γ (fun _ => .ok (es.map (·.1))) τ φ (env.set j .no) with
        | bad => rw [z] at h'; exact h'
        | exc c fs => exact absurd z (compL_not _ _)
        | ok d =>
          rw [z] at h'
          intro q' H' hq e' o
          have hne : q' ≠ p := fun z => by rw [z, upd_same] at hq; cases hq
          refine ⟨e' p _ upd_same, h' q' _ (by rw [upd_ne hne] at hq; exact hq) (fun a u hu => ?_) (o.imp (by rw [sh_mut (by rw [addM_ne (Ne.symm hne)]; exact mp)]; exact .refl _) fun o ho => by rw [upd_ne hne]; exact ho)⟩
          by_cases e : a = p
          · subst e; rw [upd_same]; rw [hx] at hu; exact hu
          · rw [upd_ne e]; exact e' a u (by rw [upd_ne e]; exact hu)
end
end VL

set_option maxRecDepth 100000
set_option maxHeartbeats 2000000
namespace VL
open PySem L2
theorem ltCps_iff : ∀ a b : List Nat, PySem.Spec.ltCps a b = decide (a < b)
  | [], [] => (decide_eq_false (List.lt_irrefl [])).symm
  | [], y :: t => (decide_eq_true (List.nil_lt_cons y t)).symm
  | x :: r, [] => (decide_eq_false (List.not_lt_nil _)).symm
  | x :: r, y :: t => by
    show (decide (x < y) || (x == y && PySem.Spec.ltCps r t)) = _
    rw [ltCps_iff r t]
    by_cases h : x < y
    · simp [h, List.cons_lt_cons_iff]
    · by_cases e : x = y
      · subst e; simp [List.cons_lt_cons_iff]
      · simp [h, e, List.cons_lt_cons_iff]
def leT (a b : Str) : Bool := decide (a.cps.toList ≤ b.cps.toList)
def sortT (l : List Str) : List Str := l.mergeSort leT
theorem leT_trans (a b c : Str) (h1 : leT a b = true) (h2 : leT b c = true) : leT a c = true := decide_eq_true (List.le_trans (of_decide_eq_true h1) (of_decide_eq_true h2))
theorem leT_total (a b : Str) : (leT a b || leT b a) = true := by
  rcases List.le_total a.cps.toList b.cps.toList with h | h
  · rw [show leT a b = true from decide_eq_true h]; rfl
  · rw [show leT b a = true from decide_eq_true h, Bool.or_true]
theorem sortT_perm (l : List Str) : (sortT l).Perm l := List.mergeSort_perm l leT
theorem sortT_sorted (l : List Str) : (sortT l).Pairwise fun a b => leT a b = true := List.pairwise_mergeSort leT_trans leT_total l
theorem leT_anti {a b : Str} (h1 : leT a b = true) (h2 : leT b a = true) : a = b := str_ext (List.le_antisymm (of_decide_eq_true h1) (of_decide_eq_true h2))
theorem rising_pw : ∀ (l : List Str) (p : Str), PyProof.Rows.risingS p l = true → (p :: l).Pairwise fun a b => leT a b = true
  | [], p, _ => List.pairwise_singleton ..
  | x :: r, p, h => by
    have h' : (!PySem.Spec.ltCps x.cps.toList p.cps.toList && PyProof.Rows.risingS x r) = true := h
    obtain ⟨h1, h2⟩ := Bool.and_eq_true_iff.mp h'
    have ih := rising_pw r x h2
    have hpx : leT p x = true := by
      rw [ltCps_iff] at h1
      refine decide_eq_true ?_
      have : ¬ x.cps.toList < p.cps.toList := by simpa using h1
      exact List.not_lt.mp this
    refine List.pairwise_cons.mpr ⟨fun y hy => ?_, ih⟩
    rcases List.mem_cons.mp hy with rfl | hy
    · exact hpx
    · exact leT_trans _ _ _ hpx ((List.pairwise_cons.mp ih).1 y hy)
theorem sortedS_pw {l : List Str} (h : PyProof.Rows.sortedS l = true) : l.Pairwise fun a b => leT a b = true := by
  cases l with
  | nil => exact List.Pairwise.nil
  | cons x r => exact rising_pw r x h
theorem sortT_uniq {l m : List Str} (hp : m.Perm l) (hs : m.Pairwise fun a b => leT a b = true) : m = sortT l :=
  List.Perm.eq_of_pairwise (fun a b _ _ h1 h2 => leT_anti h1 h2) hs (sortT_sorted l) (hp.trans (sortT_perm l).symm)
def sortedF : List D → Res D
  | [.lst ds] => match strsOf ds with
    | some xs => if xs.length < 64 then .ok (.lst ((sortT xs).map .str)) else .bad
    | none => .bad
  | _ => .bad
theorem rpl_strs {mg : Gm} {G : Vw} : ∀ l : List Str, RpL mg G (l.map .str) (l.map V.str)
  | [] => .nil
  | s :: l => .cons (.str s) (rpl_strs l)
theorem rpl_strsOf {mg : Gm} {G : Vw} : ∀ {ds : List D} {vs : List V} {xs : List Str}, RpL mg G ds vs → strsOf ds = some xs → vs = xs.map V.str
  | [], _, _, .nil, h => by cases h; rfl
  | d :: ds, _, _, .cons r t, h => by
    cases d <;> first | (cases h; done) | skip
    cases r
    have h' : (strsOf ds).map _ = some _ := h
    cases q : strsOf ds with
    | none => rw [q] at h'; cases h'
    | some l =>
      rw [q] at h'
      cases h'
      rw [rpl_strsOf t q]
      rfl
section
variable {X : Cx} {W : WX} {fl fla flb : Bool} {e : Expr} {es : List Expr} {pos : Pos} {φs : Env → Res (List D)}
theorem vf_sorted {p : Pos} (hm : X.mg "sorted" = none) (ha : VA X W fla (e :: es) φs) (hg : Gl X "sorted" := by rfl) (he : starEach (e :: es) X.env = (false, eval e X.env) :: starEach es X.env := by rfl) (hpl : (backTo pos (starEach es X.env)).any (·.1) = false := by rfl) :
    VF X W (.Call (.Name "sorted" p) (e :: es) [] pos) (aE sortedF φs) := by
  obtain ⟨t, pt, r⟩ := ha
  refine ⟨_, pe_callB cr_sortedS hg hm (by decide +kernel) pt (by decide) (by decide) he hpl, fun H0 M0 M H σ env Q g h => ?_⟩
  refine r H0 M0 M H σ env _ g ?_
  have h0 : PostN X W M σ H Q ((φs env).bind sortedF) := h
  cases q : φs env with
  | bad => rw [q] at h0; exact h0
  | exc c fs => rw [q] at h0; exact h0
  | ok ds =>
    rw [q] at h0
    intro vs H1 e1 r1
    have h1 : PostN X W M σ H Q (sortedF ds) := h0
    have r2 := r1.mono (vis_le fla M (vw H1))
    cases r2 with
    | nil => exact h1.elim
    | cons ra rb =>
      cases rb with
      | cons _ _ => cases ra <;> exact h1.elim
      | nil =>
        cases ra <;> first | exact h1.elim | skip
        case lst a xs ds hx rx =>
          have h2 : PostN X W M σ H Q (match strsOf ds with
            | some xs => if xs.length < 64 then .ok (.lst ((sortT xs).map .str)) else .bad
            | none => .bad) := h1
          cases z : strsOf ds with
          | none => rw [z] at h2; exact h2.elim
          | some ss =>
            rw [z] at h2
            have h3 : PostN X W M σ H Q (if ss.length < 64 then .ok (.lst ((sortT ss).map .str)) else .bad) := h2
            by_cases hl : ss.length < 64
            · rw [if_pos hl] at h3
              refine ⟨a, ss, rfl, ?_, hl, fun ys p hp hs hn => ?_⟩
              · rw [← rpl_strsOf rx z]
                exact .inl (vw_lst hx)
              · rw [sortT_uniq hp (sortedS_pw hs)]
                exact h3 p _ (e1.fresh hn) (e1.trans (Ext.new hn)) ⟨_, upd_same, rpl_strs _⟩
            · rw [if_neg hl] at h3; exact h3.elim
def strF : List D → Res D
  | [.str s] => .ok (.str s)
  | _ => .bad
theorem cf_str : CallF X W fla fl (fun xs H Q => ∃ a, xs = [.str a] ∧ Q (.str a) H) strF := by
  intro M H σ Q ds vs m r h
  cases r with
  | nil => exact h.elim
  | cons ra rb =>
    cases rb with
    | cons _ _ => cases ra <;> exact h.elim
    | nil =>
      cases ra <;> first | exact h.elim | skip
      exact ⟨_, rfl, h _ H (Ext.refl H) (.str _)⟩
def ltX : D → D → Res D
  | .str s, .str t => .ok (.bl (decide (s.cps.toList < t.cps.toList)))
  | d, e => ltD d e
end
end VL

set_option maxRecDepth 100000
set_option maxHeartbeats 2000000
namespace VL
open PySem L2
theorem ofE_ok {d : D} {env : Env} {k : D → SRes} : ofE (.ok d) env k = k d := rfl
theorem Sat_ro {P : Post} {d : D} : Sat P (.ro d) = P.ro d := rfl
theorem thn_ro {P : Post} {χ : Env → SRes} {d : D} : (P.thn χ).ro d = P.ro d := rfl
theorem lp_ro {P : Post} {I : Env → Prop} {d : D} : (P.lp I).ro d = P.ro d := rfl
theorem o_ok {n : Nat} {b : Env → SRes} {ds : List D} {d : D} (h : Sat { ro := fun x => x = d } (b (env0 n ds))) : defO n b ds = .ok d := by
  unfold defO
  cases q : b (env0 n ds) <;> rw [q] at h <;> first | exact h.elim | skip
  show outO (.ro _) = _
  rw [show _ = d from h]
  rfl
theorem retOS_ow {i : Nat} {env : Env} {d : D} (h : env[i]? = some (.ow d)) : retOS i env = .ro d := by
  unfold retOS
  rw [h]
theorem ltX_int {i j : Int} : ltX (.int i) (.int j) = .ok (.bl (decide (i < j))) := rfl
theorem ltX_str {s t : Str} : ltX (.str s) (.str t) = .ok (.bl (decide (s.cps.toList < t.cps.toList))) := rfl
theorem str_str {s : Str} : strF [.str s] = .ok (.str s) := rfl
theorem inX_str {d : D} {z : Str} : inX d (.str z) = inD d (.str z) := rfl
theorem notInX_str {d : D} {z : Str} : notInX d (.str z) = notInD d (.str z) := rfl
theorem list_lst {ds : List D} : listF [.lst ds] = .ok (.lst ds) := rfl
theorem list_tup {ds : List D} : listF [.tup ds] = .ok (.lst ds) := rfl
theorem sorted_txts {l : List Str} (h : l.length < 64) : sortedF [.lst (l.map .str)] = .ok (.lst ((sortT l).map .str)) := by
  show (match strsOf (l.map .str) with
    | some xs => if xs.length < 64 then Res.ok (D.lst ((sortT xs).map D.str)) else Res.bad
    | none => Res.bad) = _
  rw [strsOf_map]
  exact if_pos h
end VL

set_option maxRecDepth 100000
set_option maxHeartbeats 2000000
set_option autoImplicit false
namespace VL
open PySem L2
section
variable {X : Cx} {pins : List (Addr × Obj)} {σ : L2.St} {H : Hp} {sI s s' : Shared} {B : Heap} {a : Addr} {oe : Obj}
abbrev hEx (H : Hp) (a : Addr) (oe : Obj) : Hp := upd H a (.frz oe (.own a))
end
abbrev TSx := Addr → Obj → Value → Option Addr → TS
inductive Hds (Zp : Value → Option Addr → Obj → Prop) (X : Cx) : List ExceptHandler → List (Value × Option Nat × TSx) → Prop
  | nil : Hds Zp X [] []
  | named {x n : Str} {c : Value} {i : Nat} {ts : TSx} {st1 : Stmt} {sts : List Stmt} {np hp : Pos} {hds : List ExceptHandler} {l : List (Value × Option Nat × TSx)} (hc : Names X x c) (hi : X.N[i]? = some n) (hln : X.env.kindOf n = some .local)
      (hsu : ∀ (a : Addr) (oe : Obj) (cls : Value) (d : Option Addr) (pn : List (Addr × Obj)), Zp cls d oe → (∃ vs, oe.data = .fields vs) → PSs (X.suite a pn) (st1 :: sts) (ts a oe cls d)) (r : Hds Zp X hds l) :
      Hds Zp X (.ExceptHandler (some (.Name x np)) (some n) (st1 :: sts) hp :: hds) ((c, some i, ts) :: l)
  | anon {x : Str} {c : Value} {ts : TSx} {st1 : Stmt} {sts : List Stmt} {np hp : Pos} {hds : List ExceptHandler} {l : List (Value × Option Nat × TSx)} (hc : Names X x c)
      (hsu : ∀ (a : Addr) (oe : Obj) (cls : Value) (d : Option Addr) (pn : List (Addr × Obj)), Zp cls d oe → (∃ vs, oe.data = .fields vs) → PSs (X.suite a pn) (st1 :: sts) (ts a oe cls d)) (r : Hds Zp X hds l) :
      Hds Zp X (.ExceptHandler (some (.Name x np)) none (st1 :: sts) hp :: hds) ((c, none, ts) :: l)
def unD : Option Nat → Ends → Ends
  | none, D => D
  | some i, D => { nx := fun σ H => D.nx (σ.set i none) H, rt := D.rt, bk := fun σ H => D.bk (σ.set i none) H, ct := fun σ H => D.ct (σ.set i none) H }
def inS (on : Option Nat) (a : Addr) (σ : L2.St) : L2.St := match on with
  | none => σ
  | some i => σ.set i (some (.ref a))
def wHs (Zp : Value → Option Addr → Obj → Prop) (K : PySem.W.Frag) (Wout : WX) (D : Ends) : List (Value × Option Nat × TSx) → WX
  | [] => Wout
  | (c, on, ts) :: l => fun cls d σ H => ∃ b, PySem.W.exmOne K cls c = some b ∧ (b = true → ∀ a oe, H a = none → Zp cls d oe → (∃ vs, oe.data = .fields vs) → ts a oe cls d (unD on D) (inS on a σ) (hEx H a oe)) ∧ (b = false → wHs Zp K Wout D l cls d σ H)
section
variable {X : Cx} {body : List Stmt} {h1 : ExceptHandler} {hds : List ExceptHandler} {l : List (Value × Option Nat × TSx)} {pos : Pos} {tb : WX → TS} {Wout : WX}
end
section
variable {X : Cx} {body : List Stmt} {h1 : ExceptHandler} {hds : List ExceptHandler} {l : List (Value × Option Nat × TSx)} {pos : Pos} {tb : WX → TS} {Wout : WX}
end
end VL

set_option maxRecDepth 100000
set_option maxHeartbeats 2000000
set_option autoImplicit false
namespace VL
open PySem L2
def spIn (C : Addr) (ns : List Str) : Sp := fun vs H Q _ => ∃ (a : Addr) (us : List V), vs = .ref a :: us ∧ us.length = ns.length ∧ H a = some (exo a C none) ∧
  ∀ dx, H dx = none → dx ≠ a → Q .non (upd (upd H dx (exd dx (ns.zip us).reverse)) a (exo a C (some dx)))
section
variable {P : Program} {w : World} {K : PySem.W.Frag} {mg : Str → Option Value} {base : Heap} {CX : CXT} {qual f1 f2 : Str} {st : Stmt} {f C : Addr} {fd : FuncData} {q1 q2 q3 q4 r1 r2 r3 r4 : Pos}
end
structure ExI (P : Program) (w : World) (K : PySem.W.Frag) (mg : Str → Option Value) (base : Heap) (x : Str) (ns : List Str) : Prop where
  ex : ∃ (C fI : Addr) (fd : FuncData) (ps : List Str), mg x = some (.ref C) ∧ OexC K C ∧ PySem.W.findIn K (.ref C) "__init__" = some (some (.ref fI)) ∧ PySem.W.typeIn K (.ref fI) = some (.type "function") ∧ Binds K fd ps [] ∧ FnOk P w K mg base (L2N.CX P w) 1 fI fd ps (spIn C ns)
def raise0S (c : Str) (env : Env) : SRes := .xc c [] env
def raiseS (c : Str) (ns : List Str) (φs : Env → Res (List D)) (env : Env) : SRes := ofA (φs env) env fun ds => if ds.length = ns.length then .xc c (ns.zip ds).reverse env else .bad
theorem RpL.reverse {mg : Gm} {G : Vw} : ∀ {ds : List D} {vs : List V}, RpL mg G ds vs → RpL mg G ds.reverse vs.reverse
  | _, _, .nil => .nil
  | _, _, .cons r t => by
    rw [List.reverse_cons, List.reverse_cons]
    exact (RpL.reverse t).append (.cons r .nil)
section
variable {X : Cx} {W : WX} {x m : Str} {j : Nat} {p p2 pos pos2 : Pos} {e : Expr} {es : List Expr} {φs : Env → Res (List VL.D)} {C : Addr} {bmB : List Value} {B newId initId : String}
end
end VL

set_option maxRecDepth 100000
set_option maxHeartbeats 2000000
set_option autoImplicit false
namespace VL
open PySem L2
abbrev HdD := List (Str × Bool) × Option Nat × (Env → SRes)
def outI : Option Nat → SRes → SRes
  | _, .xc _ _ _ => .bad
  | none, r => r
  | some i, .nx e => .nx (e.set i .no)
  | some i, .bk e => .bk (e.set i .no)
  | some i, .ct e => .ct (e.set i .no)
  | some _, r => r
def inE (on : Option Nat) (c : Str) (fs : List (Str × D)) (env : Env) : Env := match on with
  | none => env
  | some i => env.set i (.sh (.exn c fs))
def hndS (c : Str) (fs : List (Str × D)) : List HdD → Env → SRes
  | [], e => .xc c fs e
  | (cat, on, χ) :: r, e => match cat.lookup c with
    | some true => outI on (χ (inE on c fs e))
    | some false => hndS c fs r e
    | none => .bad
def tryS (ψ : Env → SRes) (hs : List HdD) (env : Env) : SRes := match ψ env with
  | .xc c fs e => hndS c fs hs e
  | r => r
def tVB (X : Cx) (W : WX) (χ : Env → SRes) : TS := fun D σ H => ∃ (H0 : Hp) (M0 M : Addr → Bool) (env : Env), Good (gm X) H0 M0 M H σ env ∧ PostS X W H0 M0 M H D (χ env)
theorem vb_canon {X Y : Cx} {W : WX} {sts : List Stmt} {χ : Env → SRes} (h : VB X W sts χ) (e : gm X = gm Y) : PSs X sts (tVB Y W χ) := by
  obtain ⟨t, p, r⟩ := h
  refine ⟨fun pins s σ H D I ⟨H0, M0, M, env, g, k⟩ => p.run pins s σ H D I (r H0 M0 M H σ env D (by rw [e]; exact g) ?_)⟩
  cases q : χ env <;> rw [q] at k <;> first | exact k | (unfold PostS at k ⊢; rw [e]; exact k)
inductive VHds (X : Cx) : List ExceptHandler → List HdD → Prop
  | nil : VHds X [] []
  | named {x n : Str} {cv : Value} {cat : List (Str × Bool)} {i : Nat} {χ : Env → SRes} {st1 : Stmt} {sts : List Stmt} {np hp : Pos} {hds : List ExceptHandler} {l : List HdD} (hc : Names X x cv)
      (hcat : ∀ c b, cat.lookup c = some b → ∃ C, X.mg c = some C ∧ PySem.W.exmOne X.K C cv = some b) (hi : X.N[i]? = some n) (hln : X.env.kindOf n = some .local) (hs : ∀ (a : Addr) (pn : List (Addr × Obj)), VB (X.suite a pn) W0 (st1 :: sts) χ) (r : VHds X hds l) :
      VHds X (.ExceptHandler (some (.Name x np)) (some n) (st1 :: sts) hp :: hds) ((cat, some i, χ) :: l)
  | anon {x : Str} {cv : Value} {cat : List (Str × Bool)} {χ : Env → SRes} {st1 : Stmt} {sts : List Stmt} {np hp : Pos} {hds : List ExceptHandler} {l : List HdD} (hc : Names X x cv)
      (hcat : ∀ c b, cat.lookup c = some b → ∃ C, X.mg c = some C ∧ PySem.W.exmOne X.K C cv = some b) (hs : ∀ (a : Addr) (pn : List (Addr × Obj)), VB (X.suite a pn) W0 (st1 :: sts) χ) (r : VHds X hds l) :
      VHds X (.ExceptHandler (some (.Name x np)) none (st1 :: sts) hp :: hds) ((cat, none, χ) :: l)
section
variable {X : Cx} {W : WX} {H0 H : Hp} {M0 M : Addr → Bool} {D : Ends}
theorem PostS.outI {on : Option Nat} {r : SRes} (h : PostS X W H0 M0 M H D (outI on r)) : PostS X W0 H0 M0 M H (unD on D) r := by
  cases on with
  | none => cases r <;> first | exact h | exact h.elim
  | some i =>
    cases r with
    | nx e => exact fun M' H' σ' g e' => h M' H' _ (g.no i none) e'
    | bk e => exact fun M' H' σ' g e' => h M' H' _ (g.no i none) e'
    | ct e => exact fun M' H' σ' g e' => h M' H' _ (g.no i none) e'
    | xc c fs e => exact h.elim
    | rt d => exact h
    | bad => exact h
    | ro d => exact h
theorem rp_exn {mg : Gm} {a : Addr} {oe : Obj} {c : Str} {fs : List (Str × VL.D)} {cls : Value} {dd : Option Addr} (na : H a = none) (hm : M a = false) (z : Zc cls dd oe) (hv : ∃ vs, oe.data = .fields vs) (h : RpX mg (Sh M (vw H)) c fs cls dd) :
    Rp mg (Sh M (vw (hEx H a oe))) (.exn c fs) (.ref a) := by
  have at_ : Sh M (vw (hEx H a oe)) a = some (.frz oe (.own a)) := by
    rw [Sh_of hm]
    unfold vw
    rw [show hEx H a oe a = _ from upd_same]
  have le : VEx (Sh M (vw H)) (Sh M (vw (hEx H a oe))) := Sh_mono (Ext.new na).v
  obtain ⟨hc, ⟨rfl, rfl⟩ | ⟨d, vs, rfl, hd, hk, hr⟩⟩ := h
  · exact .exn0 at_ z hv hc
  · exact .exnF at_ z hv hc (le _ _ hd) hk (hr.mono le)
theorem Hds.of {hds : List ExceptHandler} {l : List HdD} (h : VHds X hds l) : ∃ l', Hds L2N.Zn X hds l' ∧ Hds Zc X hds l' ∧
    ∀ (Zp : Value → Option Addr → Obj → Prop) (hZ : ∀ c d o, Zp c d o → Zc c d o) (W : WX) (H0 : Hp) (M0 M : Addr → Bool) (H : Hp) (σ : L2.St) (env : Env) (D : Ends) (c : Str) (fs : List (Str × VL.D)) (cls : Value) (dd : Option Addr), Good (gm X) H0 M0 M H σ env → RpX (gm X) (Sh M (vw H)) c fs cls dd →
      PostS X W H0 M0 M H D (hndS c fs l env) → wHs Zp X.K W D l' cls dd σ H := by
  induction h with
  | nil => exact ⟨[], .nil, .nil, fun Zp hZ W H0 M0 M H σ env D c fs cls dd g rx h => h M H σ cls dd g (.refl _) rx⟩
  | @named x n cv cat i χ st1 sts np hp hds l hc hcat hi hln hs r ih =>
    obtain ⟨l', k1, k2, k3⟩ := ih
    refine ⟨(cv, some i, fun _ _ _ _ => tVB X W0 χ) :: l', .named hc hi hln (fun a oe cls d pn _ _ => vb_canon (Y := X) (hs a pn) rfl) k1, .named hc hi hln (fun a oe cls d pn _ _ => vb_canon (Y := X) (hs a pn) rfl) k2, fun Zp hZ W H0 M0 M H σ env D c fs cls dd g rx h => ?_⟩
    unfold hndS at h
    cases q : cat.lookup c with
    | none => rw [q] at h; exact h.elim
    | some b =>
      obtain ⟨C, e1, e2⟩ := hcat c b q
      have ec : C = cls := by
        have := rx.1.symm.trans e1
        cases this; rfl
      subst ec
      rw [q] at h
      refine ⟨b, e2, fun hb a oe na z hv => ?_, fun hb => ?_⟩
      · subst hb
        have ex := Ext.new (o := .frz oe (.own a)) na
        exact ⟨H0, M0, M, _, (g.mono ex).set (rp_exn na (g.nm na).1 (hZ _ _ _ z) hv rx), PostS.outI (PostS.mono h (Sh_mono ex.v))⟩
      · subst hb
        exact k3 Zp hZ W H0 M0 M H σ env D c fs _ dd g rx h
  | @anon x cv cat χ st1 sts np hp hds l hc hcat hs r ih =>
    obtain ⟨l', k1, k2, k3⟩ := ih
    refine ⟨(cv, none, fun _ _ _ _ => tVB X W0 χ) :: l', .anon hc (fun a oe cls d pn _ _ => vb_canon (Y := X) (hs a pn) rfl) k1, .anon hc (fun a oe cls d pn _ _ => vb_canon (Y := X) (hs a pn) rfl) k2, fun Zp hZ W H0 M0 M H σ env D c fs cls dd g rx h => ?_⟩
    unfold hndS at h
    cases q : cat.lookup c with
    | none => rw [q] at h; exact h.elim
    | some b =>
      obtain ⟨C, e1, e2⟩ := hcat c b q
      have ec : C = cls := by
        have := rx.1.symm.trans e1
        cases this; rfl
      subst ec
      rw [q] at h
      refine ⟨b, e2, fun hb a oe na z hv => ?_, fun hb => ?_⟩
      · subst hb
        have ex := Ext.new (o := .frz oe (.own a)) na
        exact ⟨H0, M0, M, _, g.mono ex, PostS.outI (PostS.mono h (Sh_mono ex.v))⟩
      · subst hb
        exact k3 Zp hZ W H0 M0 M H σ env D c fs _ dd g rx h
end
section
variable {X : Cx} {W : WX} {body : List Stmt} {h1 : ExceptHandler} {hds : List ExceptHandler} {pos : Pos} {ψ : Env → SRes} {l : List HdD}
end
end VL

set_option maxRecDepth 100000
set_option maxHeartbeats 2000000
set_option autoImplicit false
namespace VL
open PySem L2
structure XCls (K : PySem.W.Frag) (mg : Str → Option Value) (x : Str) (C : Addr) : Prop where
  gC : mg x = some (.ref C)
  cl : PySem.W.isClsIn K C = true
  ga : PySem.W.findIn K (.ref C) "__getattribute__" = some (some (.builtin "BaseException.__getattribute__"))
  gg : PySem.W.findIn K (.ref C) "__getattr__" = some none
  exC : PySem.W.subIn K (.ref C) (.type "BaseException") = some true
  tyC : PySem.W.typeIn K (.ref C) = some (.type "type")
  hdC : PySem.W.hasDictIn K C = true
  ha : PySem.W.findIn K (.ref C) "__class__" = some (some (.builtin "object.__class__"))
  hm : PySem.W.mroIn K C (.type "object") = some true
structure XObj (K : PySem.W.Frag) : Prop where
  hn : PySem.W.specialIn K (.builtin "object.__class__") "__get__" = some (some (.builtin "getset_descriptor.__get__"))
  htk : PySem.W.takesIn K (.builtin "object.__class__") = some true
def isX (tbl : List (Str × Bool)) : D → Res D
  | .exn c _ => match tbl.lookup c with
    | some b => .ok (.bl b)
    | none => .bad
  | _ => .bad
def isXE (tbl : List (Str × Bool)) (φ : Env → Res D) (env : Env) : Res D := (φ env).bind (isX tbl)
section
variable {X : Cx} {W : WX} {fl fla : Bool} {e c : Expr} {xi pos pos2 : Pos} {φ : Env → Res D} {cv : Value} {es : List Expr} {cvs : List Value} {tbl : List (Str × Bool)} {kk : Nat}
def fldX (cs : List Str) (f : Str) : D → Res D
  | .exn c fs => if cs.contains c = true then (match fs.lookup f with | some v => .ok v | none => .bad) else .bad
  | _ => .bad
def fldXE (cs : List Str) (f : Str) (φ : Env → Res D) (env : Env) : Res D := (φ env).bind (fldX cs f)
end
structure FnC (P : Program) (w : World) (K : PySem.W.Frag) (mg : Str → Option Value) (base : Heap) (CX : CXT) (k : Nat) (f : Addr) (fd : FuncData) (ps : List Str) (sp : Sp) : Prop where
  len : ∀ vs H Q E, sp vs H Q E → vs.length = ps.length
  run : ∀ (A : Around) (outer : List PySem.Env) (s : Shared) (H : Hp) (args : Args) (us : List Value) (vs : List V) (Q : VK) (E : XK), L2H.RoomH k A → Env0 P w K mg base A outer s H → BindsTo s fd args (ps.zip us) → Vals vs us → sp vs H Q E →
    codeAny (model P w) A (.call (.ref f) args) (CR CX outer P w H s Q E) s
section
variable {P : Program} {w : World} {K : PySem.W.Frag} {mg : Str → Option Value} {base : Heap} {CX : CXT} {x qual : Str} {st : Stmt} {f : Addr} {fd : FuncData} {N ps : List Str} {k n : Nat} {sp : Sp}
theorem FnC.ok (F : FnC P w K mg base CX k f fd ps sp) : FnOk P w K mg base CX k f fd ps sp := ⟨F.len, fun A outer s H args us vs Q E hr => F.run A outer s H args us vs Q E (L2H.roomH_of hr)⟩
end
structure DefOkC (P : Program) (w : World) (K : PySem.W.Frag) (mg : Str → Option Value) (base : Heap) (x : Str) (k : Nat) (ps : List Str) (n : Nat) (F : List D → Res D) : Prop where
  ex : ∃ (f : Addr) (fd : FuncData), mg x = some (.ref f) ∧ PySem.W.keepIn K (.ref f) = true ∧ Binds K fd ps [] ∧ FnC P w K mg base (L2N.CX P w) k f fd ps (spV ⟨P, w, K, mg⟩ n F)
  lk : ∀ f fd, mg x = some (.ref f) → (∃ oc od osl, K.lookup f = some ⟨oc, od, .func fd, osl⟩) → FnC P w K mg base (L2N.CX P w) k f fd ps (spV ⟨P, w, K, mg⟩ n F)
section
variable {P : Program} {w : World} {K : PySem.W.Frag} {mg : Str → Option Value} {base : Heap} {x qual : Str} {st : Stmt} {N ps : List Str} {k n : Nat} {ψ : Env → SRes} {F G : List D → Res D}
theorem DefOkC.ok (h : DefOkC P w K mg base x k ps n F) : DefOk P w K mg base x k ps n F := by
  obtain ⟨f, fd, h1, h2, h3, h4⟩ := h.ex
  exact ⟨⟨f, fd, h1, h2, h3, h4.ok⟩, fun f fd e1 e2 => (h.lk f fd e1 e2).ok⟩
variable {X : Cx} {W : WX} {fl : Bool} {e : Expr} {es : List Expr} {pos p : Pos} {φs : Env → Res (List D)}
end
end VL

set_option maxRecDepth 100000
set_option maxHeartbeats 2000000
set_option autoImplicit false
namespace VL
open PySem L2
structure ExZ (K : PySem.W.Frag) (mg : Str → Option Value) (x : Str) : Prop where
  ex : ∃ C, mg x = some (.ref C) ∧ PySem.W.excIn K C [.type "ValueError", .type "Exception", .type "BaseException", .type "object"] "ValueError.__new__" = true ∧ PySem.W.keepIn K (.ref C) = true ∧ PySem.W.subIn K (.ref C) (.type "BaseException") = some true ∧ PySem.W.typeIn K (.ref C) = some (.type "type")
structure RCls (K : PySem.W.Frag) (D : Addr) : Prop where
  cl : PySem.W.isClsIn K D = true
  ty : PySem.W.typeIn K (.ref D) = some (.type "type")
  ex : PySem.W.subIn K (.ref D) (.type "BaseException") = some true
  self : PySem.W.subIn K (.ref D) (.ref D) = some true
end VL

set_option maxRecDepth 100000
set_option maxHeartbeats 2000000
set_option autoImplicit false
namespace VL
open PySem L2
section
variable {φ : Env → Res D} {φs : Env → Res (List D)} {env : Env} {ψ : Env → SRes} {hs : List HdD} {c : Str} {fs : List (Str × D)} {ds : List D} {ns : List Str} {tbl : List (Str × Bool)} {f : Str} {cs : List Str} {P : Post} {i : Nat} {χ : Env → SRes} {cat : List (Str × Bool)}
def rRaise (c : Str) (ns : List Str) (r : Res (List D)) (env : Env) : SRes := ofA r env fun ds => if ds.length = ns.length then .xc c (ns.zip ds).reverse env else .bad
theorem raiseS_eq : raiseS c ns φs env = rRaise c ns (φs env) env := rfl
theorem rRaise_ok : rRaise c ns (.ok ds) env = if ds.length = ns.length then .xc c (ns.zip ds).reverse env else .bad := rfl
theorem raise0S_eq : raise0S c env = .xc c [] env := rfl
theorem isXE_eq : isXE tbl φ env = r1 (isX tbl) (φ env) := rfl
theorem fldXE_eq : fldXE cs f φ env = r1 (fldX cs f) (φ env) := rfl
theorem int_bl {b : Bool} : intF [.bl b] = .ok (.int (if b = true then 1 else 0)) := rfl
theorem outI_nx : outI (some i) (.nx env) = .nx (env.set i .no) := rfl
theorem outI_rt {d : D} : outI (some i) (.rt d) = .rt d := rfl
theorem outI_nx0 : outI none (.nx env) = .nx env := rfl
theorem outI_rt0 {d : D} : outI none (.rt d) = .rt d := rfl
theorem inE_s : inE (some i) c fs env = env.set i (.sh (.exn c fs)) := rfl
theorem inE_0 : inE none c fs env = env := rfl
theorem rSet_xc : rSet i (.exc c fs) env = .xc c fs env := rfl
theorem rDrop_xc : rDrop (.exc c fs) env = .xc c fs env := rfl
theorem rRet_xc : rRet (.exc c fs) env = .xc c fs env := rfl
theorem r1_xc {α β : Type} {g : α → Res β} : r1 g (.exc c fs) = .exc c fs := rfl
theorem rC_xc {b : Res (List D)} : rC (.exc c fs) b = .exc c fs := rfl
theorem r2_xc {g : D → D → Res D} {b : Res D} : r2 g (.exc c fs) b = .exc c fs := rfl
theorem rIf_xc {ψ χ : Env → SRes} : rIf (.exc c fs) ψ χ env = .xc c fs env := rfl
theorem lst_k {ds : List D} (h : ds.length ≤ 1000000) : lstD ds = .ok (.lst ds) := if_pos (Nat.le_trans h (by decide))
theorem tup_k {ds : List D} (h : ds.length ≤ 1000000) : tupD ds = .ok (.tup ds) := if_pos (Nat.le_trans h (by decide))
theorem catl_k {xs ys : List D} (h : xs.length + ys.length ≤ 1000000) : addD (.lst xs) (.lst ys) = .ok (.lst (xs ++ ys)) := if_pos (Nat.le_trans h (by decide))
end
end VL

set_option maxRecDepth 100000
set_option maxHeartbeats 2000000
set_option autoImplicit false
namespace VL
open PySem L2
def entKV (e : DictEntry) : Option (Str × Int) := match e.key, e.val with
  | .str x _, .int i _ => some (x, i)
  | _, _ => none
structure WDic (K : PySem.W.Frag) (P : Params) (mg : Str → Option Value) (x : Str) (l : List (Str × Int)) : Prop where
  ex : ∃ a es n, mg x = some (.ref a) ∧ K.lookup a = some ⟨.type "dict", none, .dict es n, #[]⟩ ∧ PySem.W.KeysLit P es.toList ∧ (a == sysModules) = false ∧ es.toList.map entKV = l.map some
def inW (l : List (Str × Int)) (neg : Bool) : D → Res D
  | .str s => .ok (.bl ((l.lookup s).isSome != neg))
  | _ => .bad
def inWE (l : List (Str × Int)) (neg : Bool) (φ : Env → Res D) (env : Env) : Res D := (φ env).bind (inW l neg)
def ixW (l : List (Str × Int)) : D → Res D
  | .str s => match l.lookup s with
    | some i => .ok (.int i)
    | none => .bad
  | _ => .bad
def ixWE (l : List (Str × Int)) (φ : Env → Res D) (env : Env) : Res D := (φ env).bind (ixW l)
section
variable {X : Cx} {W : WX} {fl fla : Bool} {e : Expr} {x : Str} {l : List (Str × Int)} {p pos : Pos} {φ : Env → Res D}
end
abbrev CaD := Option (List Str) × (Env → SRes)
inductive VCas (X : Cx) (W : WX) : List MatchCase → List CaD → Prop
  | nil : VCas X W [] []
  | one {x : Str} {j : Nat} {q1 q2 : Pos} {sts : List Stmt} {χ : Env → SRes} {cs : List MatchCase} {l : List CaD} (hb : VB X W sts χ) (r : VCas X W cs l) : VCas X W (⟨.MatchValue (.Constant (.str x) j q1) q2, none, sts⟩ :: cs) ((some [x], χ) :: l)
  | two {x y : Str} {j j2 : Nat} {q1 q2 q3 q4 q5 : Pos} {sts : List Stmt} {χ : Env → SRes} {cs : List MatchCase} {l : List CaD} (hb : VB X W sts χ) (r : VCas X W cs l) :
      VCas X W (⟨.MatchOr [.MatchValue (.Constant (.str x) j q1) q2, .MatchValue (.Constant (.str y) j2 q3) q4] q5, none, sts⟩ :: cs) ((some [x, y], χ) :: l)
  | any {q1 : Pos} {sts : List Stmt} {χ : Env → SRes} {cs : List MatchCase} {l : List CaD} (hb : VB X W sts χ) : VCas X W (⟨.MatchAs none none q1, none, sts⟩ :: cs) ((none, χ) :: l)
section
variable {X : Cx} {W : WX} {fl : Bool} {e : Expr} {pos : Pos} {φ : Env → Res D} {cs : List MatchCase} {l : List CaD}
end
end VL

set_option maxRecDepth 100000
set_option maxHeartbeats 2000000
set_option autoImplicit false
namespace VL
open PySem L2
def treeB : Nat → D → Bool
  | 0, _ => false
  | _ + 1, .non => true
  | _ + 1, .int _ => true
  | _ + 1, .str s => okS s
  | n + 1, .tup ds => ds.all (treeB n)
  | n + 1, .lst ds => ds.all (treeB n)
  | _ + 1, _ => false
theorem tree_facts : ∀ (n : Nat) (d : D), treeB n d = true → plain d = true ∧ (toPy d).canLay0 = true ∧ (toPy d).depth ≤ n
  | 0, _, h => by cases h
  | n + 1, .non, _ => ⟨rfl, by simp [toPy, PyData.canLay0], by simp [toPy, PyData.depth]⟩
  | n + 1, .int _, _ => ⟨rfl, by simp [toPy, PyData.canLay0], by simp [toPy, PyData.depth]⟩
  | n + 1, .str s, h => ⟨rfl, by unfold toPy PyData.canLay0; exact h, by simp [toPy, PyData.depth]⟩
  | n + 1, .tup ds, h => by
    have key : ∀ ds : List D, ds.all (treeB n) = true → plains ds = true ∧ PyData.canLayAll0 (toPys ds) = true ∧ PyData.depthAll (toPys ds) ≤ n := by
      intro ds
      induction ds with
      | nil => exact fun _ => ⟨rfl, by simp [toPys, PyData.canLayAll0], by simp [toPys, PyData.depthAll]⟩
      | cons d ds ih =>
        intro h
        rw [List.all_cons] at h
        obtain ⟨h1, h2⟩ := Bool.and_eq_true_iff.mp h
        obtain ⟨a1, a2, a3⟩ := tree_facts n d h1
        obtain ⟨b1, b2, b3⟩ := ih h2
        refine ⟨by rw [plains, a1, b1]; rfl, by rw [toPys, PyData.canLayAll0, a2, b2]; rfl, ?_⟩
        rw [toPys, PyData.depthAll]
        omega
    obtain ⟨k1, k2, k3⟩ := key ds h
    refine ⟨by rw [plain]; exact k1, by rw [toPy, PyData.canLay0]; exact k2, ?_⟩
    rw [toPy, PyData.depth]
    omega
  | n + 1, .lst ds, h => by
    have key : ∀ ds : List D, ds.all (treeB n) = true → plains ds = true ∧ PyData.canLayAll0 (toPys ds) = true ∧ PyData.depthAll (toPys ds) ≤ n := by
      intro ds
      induction ds with
      | nil => exact fun _ => ⟨rfl, by simp [toPys, PyData.canLayAll0], by simp [toPys, PyData.depthAll]⟩
      | cons d ds ih =>
        intro h
        rw [List.all_cons] at h
        obtain ⟨h1, h2⟩ := Bool.and_eq_true_iff.mp h
        obtain ⟨a1, a2, a3⟩ := tree_facts n d h1
        obtain ⟨b1, b2, b3⟩ := ih h2
        refine ⟨by rw [plains, a1, b1]; rfl, by rw [toPys, PyData.canLayAll0, a2, b2]; rfl, ?_⟩
        rw [toPys, PyData.depthAll]
        omega
    obtain ⟨k1, k2, k3⟩ := key ds h
    refine ⟨by rw [plain]; exact k1, by rw [toPy, PyData.canLay0]; exact k2, ?_⟩
    rw [toPy, PyData.depth]
    omega
  | n + 1, .bl _, h => by cases h
  | n + 1, .scr _, h => by cases h
  | n + 1, .dic _ _, h => by cases h
  | n + 1, .ins _ _, h => by cases h
  | n + 1, .exn _ _, h => by cases h
  | n + 1, .sel _ _ _, h => by cases h
theorem tree_cmp {n : Nat} {d : D} (h : treeB n d = true) (hn : n ≤ 60) : cmpOk d = true := by
  obtain ⟨a, b, c⟩ := tree_facts n d h
  unfold cmpOk
  rw [a, Bool.true_and]
  exact shaped_flat b (by omega)
theorem tree_eqv : ∀ (n : Nat) (d e : D), treeB n d = true → treeB n e = true → (PyData.eqv (toPy d) (toPy e) = true ↔ d = e) := by
  intro n
  induction n with
  | zero => intro d e h; cases h
  | succ n ih =>
    have all : ∀ ds es : List D, ds.all (treeB n) = true → es.all (treeB n) = true → (PyData.eqvAll (toPys ds) (toPys es) = true ↔ ds = es) := by
      intro ds
      induction ds with
      | nil =>
        intro es _ _
        cases es with
        | nil => simp [toPys, PyData.eqvAll]
        | cons _ _ => simp [toPys, PyData.eqvAll]
      | cons d ds ih2 =>
        intro es h1 h2
        cases es with
        | nil => simp [toPys, PyData.eqvAll]
        | cons e es =>
          rw [List.all_cons] at h1 h2
          obtain ⟨a1, a2⟩ := Bool.and_eq_true_iff.mp h1
          obtain ⟨b1, b2⟩ := Bool.and_eq_true_iff.mp h2
          rw [toPys, toPys, PyData.eqvAll, Bool.and_eq_true, ih d e a1 b1, ih2 es a2 b2]
          constructor
          · rintro ⟨rfl, rfl⟩; rfl
          · intro h; cases h; exact ⟨rfl, rfl⟩
    intro d e h1 h2
    cases d <;> first | (cases h1; done) | skip
    all_goals (cases e <;> first | (cases h2; done) | skip)
    all_goals first
      | (simp [toPy, PyData.eqv]; done)
      | skip
    · rw [toPy, toPy, PyData.eqv, all _ _ h1 h2]
      constructor
      · rintro rfl; rfl
      · intro h; cases h; rfl
    · rw [toPy, toPy, PyData.eqv, all _ _ h1 h2]
      constructor
      · rintro rfl; rfl
      · intro h; cases h; rfl
theorem neO_self {n : Nat} {d : D} (h : treeB n d = true) (hn : n ≤ 60) : neO d d = .ok (.bl false) := by
  unfold neO
  rw [if_pos ⟨tree_cmp h hn, tree_cmp h hn⟩]
  have : eqD d d = true := (tree_eqv n d d h h).mpr rfl
  rw [this]; rfl
section
variable {l : List (Str × Int)} {b : Bool} {φ : Env → Res D} {env : Env} {s : Str} {i : Int}
theorem inWE_eq : inWE l b φ env = r1 (inW l b) (φ env) := rfl
theorem inW_str : inW l b (.str s) = .ok (.bl ((l.lookup s).isSome != b)) := rfl
theorem ixWE_eq : ixWE l φ env = r1 (ixW l) (φ env) := rfl
theorem guardX_ok {d : D} : guardX (.ok d) = .ok d := rfl
end
end VL

set_option maxRecDepth 100000
set_option maxHeartbeats 2000000
set_option autoImplicit false
namespace VL
open PySem L2
def nV : Option Key → V
  | none => .non
  | some k => kV k
def keyOfN : D → Option (Option Key)
  | .non => some none
  | d => (keyOf d).map some
def keysNOf : List D → Option (List (Option Key))
  | [] => some []
  | d :: ds => match keyOfN d with
    | none => none
    | some k => (keysNOf ds).map (k :: ·)
def noneFit (t : Nat) (k : D) : Bool := match t, k with
  | 1, .tup ds => match keysNOf ds with
    | some ks => ks.any fun k => k.isNone
    | none => false
  | _, _ => false
theorem rp_keysN {mg : Gm} {G : Vw} : ∀ {ds : List D} {ks : List (Option Key)} {xs : List V}, RpL mg G ds xs → keysNOf ds = some ks → xs = ks.map nV
  | [], _, _, .nil, h => by cases h; rfl
  | d :: ds, ks, _, .cons r t, h => by
    unfold keysNOf at h
    cases h1 : keyOfN d with
    | none => rw [h1] at h; cases h
    | some k =>
      rw [h1] at h
      obtain ⟨ks', h2, rfl⟩ := Option.map_eq_some_iff.mp h
      rw [rp_keysN t h2, List.map_cons]
      congr 1
      cases d <;> first | (cases h1; done) | skip
      case non => cases h1; cases r; rfl
      all_goals (cases h1; cases r; rfl)
section
variable {P : Program} {w : World} {H : Hp} {h : Heap} {a b : Addr}
theorem nV_is {k : Option Key} {u : Value} (r : RelV (nV k) u) : (noneKind P w).is k u = true := by
  cases k with
  | none => cases r; rfl
  | some k => exact kV_is (P := P) (w := w) r
theorem itemsN : ∀ {ks : List (Option Key)} {us : List Value}, Vals (ks.map nV) us → ItemsAre (noneKind P w) ks us
  | [], _, .nil => .nil
  | _ :: _, _, .cons r t => .cons (nV_is r) (itemsN t)
theorem keyN_of {ks : List (Option Key)} (ok : HOk P w H h) (e : H b = some (.tup (ks.map nV))) : (tupleKind (noneKind P w)).is h ks b := by
  have z : ObjOk P w H h b (.tup (ks.map nV)) := ok b _ e
  obtain ⟨_, its, q, oo, u1, u2, m, u3⟩ := z
  refine ⟨oo, its.toArray, m, u1, u2, u3, ?_⟩
  have := itemsN (P := P) (w := w) q
  simpa using this
theorem someItems : ∀ {ks : List Key} {us : List Value}, ItemsAre (mixKind P w) ks us → ItemsAre (noneKind P w) (ks.map some) us
  | [], _, .nil => .nil
  | _ :: _, _, .cons r t => .cons r (someItems t)
theorem noneDict {xs : List (List Key × Addr × Value)} (d : h.DictOfH (tupleKind (mixKind P w)) a xs) : h.DictOfH (tupleKind (noneKind P w)) a (xs.map fun x => (x.1.map some, x.2)) := by
  obtain ⟨o, es, ep, u1, u2, u3, u4, u5, u6⟩ := d
  refine ⟨o, es, ep, u1, u2, u3, ?_, fun x hx => ?_, ?_⟩
  · rw [u4, List.map_map]
    refine List.map_congr_left fun x _ => ?_
    have : (x.1.map some).map (noneKind P w).hash = x.1.map (mixKind P w).hash := by
      rw [List.map_map]
      rfl
    show (⟨_, _, _⟩ : DictEntry) = ⟨_, _, _⟩
    congr 1
    show tupleKeyHash (mixKind P w) x.1 = tupleKeyHash (noneKind P w) (x.1.map some)
    unfold tupleKeyHash
    rw [this]
  · obtain ⟨y, hy, rfl⟩ := List.mem_map.mp hx
    obtain ⟨oo, its, m, z1, z2, z3, z4⟩ := u5 y hy
    exact ⟨oo, its, m, z1, z2, z3, someItems z4⟩
  · rw [List.map_map]
    have : (xs.map ((fun x : List (Option Key) × Addr × Value => x.1) ∘ fun x => (x.1.map some, x.2))) = (xs.map (·.1)).map (·.map some) := by
      rw [List.map_map]
      rfl
    rw [this]
    exact List.pairwise_map.mpr (u6.imp fun n e => n ((List.map_inj_right fun _ _ z => Option.some.inj z).mp e))
theorem atKey_none {xs : List (List Key × Addr × Value)} {ks : List (Option Key)} (hn : none ∈ ks) : atKey (xs.map fun x => (x.1.map some, x.2)) ks = none := by
  unfold atKey
  rw [Option.map_eq_none_iff, List.find?_eq_none]
  intro x hx e
  obtain ⟨y, _, rfl⟩ := List.mem_map.mp hx
  have := of_decide_eq_true e
  rw [← this] at hn
  obtain ⟨k, _, z⟩ := List.mem_map.mp hn
  cases z
end
def DNone (H : Hp) (a : Addr) (y : V) : Prop := ∃ (kvs : List (List Key × V)) (ks : List (Option Key)) (b : Addr), Rd H a (.dT kvs) ∧ y = .ref b ∧ H b = some (.tup (ks.map nV)) ∧ none ∈ ks
section
variable {X : Cx} {pins : List (Addr × Obj)} {σ : St} {H : Hp} {s : Shared} {a : Addr} {y : V} {u : Value} {A : Around} {E : Value → Shared → Prop} {Q : Value → Shared → Prop}
theorem dn_in (hu : A.units + 1 < cLine) (I : Inv X pins σ H s) (g : DNone H a y) (ry : RelV y u) (h : ∀ s', Inv X pins σ H s' → Q (.bool false) s') : wpAny (model X.prog X.w) A (compareOp .In u (.ref a)) Q E s := by
  obtain ⟨kvs, ks, b, e, rfl, eb, hn⟩ := g
  cases (show u = Value.ref b from ry)
  obtain ⟨_, hd, xs, _, dd⟩ := dt_rd I.hok e
  have q : Q (.bool (atKey (xs.map fun x => (x.1.map some, x.2)) ks).isSome) { s with toks := s.toks + (tupleKind (noneKind X.prog X.w)).draws ks } := by
    rw [atKey_none hn]
    exact h _ (I.tok _)
  exact wpAny_in_heap (tupleKind_room_in1 hu) (keyN_of I.hok eb) hd (noneDict dd) q
end
def inZ (d e : D) : Res D := match e with
  | .dic t es => if keyFit t d = true then .ok (.bl (lookD es d).isSome) else if noneFit t d = true then .ok (.bl false) else .bad
  | e => inD d e
theorem dnone_of {mg : Gm} {H : Hp} {t : Nat} {es : List (D × D)} {a : Addr} {k : D} {y : V} (rd : Rp mg (vw H) (.dic t es) (.ref a)) (rk : Rp mg (vw H) k y) (hf : noneFit t k = true) : DNone H a y := by
  unfold noneFit at hf
  split at hf
  · rename_i ds
    split at hf
    · rename_i ks q
      cases rd with
      | dicT h e r =>
        cases rk with
        | tup hb rb =>
          obtain ⟨o, ho, hn⟩ := List.any_eq_true.mp hf
          cases o with
          | some _ => cases hn
          | none => exact ⟨_, ks, _, vw_dT h, rfl, by rw [← rp_keysN rb q]; exact vw_tup hb, ho⟩
    · cases hf
  · cases hf
section
variable {X : Cx} {W : WX} {fl fla flb : Bool} {e a b : Expr} {es : List Expr} {pos : Pos} {φ φa φb : Env → Res D} {φs : Env → Res (List D)}
theorem op_inN (hu : X.A.units + 1 < cLine) : OpR X (compareOp .In) (fun y x H Q => ∃ a, x = .ref a ∧ DNone H a y ∧ Q (.bl false) H) := by
  intro pins s σ H y x u v Q I ry rx h
  obtain ⟨a, rfl, g, q⟩ := h
  obtain rfl : v = Value.ref a := rx
  exact dn_in hu I g ry fun s3 I3 => ⟨.bl false, H, I3, rfl, q⟩
theorem op_inZ (hu : X.A.units + 65 < cLine) : OpR X (compareOp .In) (fun x y H Q => (rInA X.K x y H Q ∨ rInDic x y H Q) ∨ ∃ a, y = .ref a ∧ DNone H a x ∧ Q (.bl false) H) := (op_inX hu).or (op_inN (by omega))
theorem of_inZ : OpF X W fla flb fl (fun x y H Q => (rInA X.K x y H Q ∨ rInDic x y H Q) ∨ ∃ a, y = .ref a ∧ DNone H a x ∧ Q (.bl false) H) inZ := by
  intro M H σ Q d e v w m rd re h
  cases e with
  | dic t es =>
    have h0 : PostE X W fl M σ H Q (if keyFit t d = true then .ok (.bl (lookD es d).isSome) else if noneFit t d = true then .ok (.bl false) else .bad) := h
    by_cases hf : keyFit t d = true
    · rw [if_pos hf] at h0
      refine .inl (of_inX (X := X) (W := W) (fl := fl) M H σ Q d (.dic t es) v w m rd re ?_)
      show PostE X W fl M σ H Q (if keyFit t d = true then .ok (.bl (lookD es d).isSome) else .bad)
      rw [if_pos hf]
      exact h0
    · rw [if_neg hf] at h0
      obtain ⟨hn, h1⟩ := PostE.ite h0
      have hr : ∃ p, w = .ref p := by cases re <;> exact ⟨_, rfl⟩
      obtain ⟨p, rfl⟩ := hr
      exact .inr ⟨p, rfl, dnone_of (re.mono (vis_le flb M _)) (rd.mono (vis_le fla M _)) hn, h1 _ H (Ext.refl H) (.bl _)⟩
  | _ => exact .inl (of_inX M H σ Q d _ v w m rd re h)
def isD01 : D → Bool
  | .dic 0 _ => true
  | .dic 1 _ => true
  | _ => false
def getK (d k : D) : Res D := match d with
  | .dic t es => if keyFit t k = true then .ok ((lookD es k).getD .non) else if noneFit t k = true then .ok .non else .bad
  | _ => .bad
def getE (φa φb : Env → Res D) (env : Env) : Res D := (φa env).bind fun d => if isD01 d = true then (φb env).bind (getK d) else .bad
def listX : List D → Res D
  | [.dic 0 es] => .ok (.lst (es.map (·.1)))
  | ds => listF ds
theorem rp_keysL {mg : Gm} {G : Vw} : ∀ (kvs : List (Key × V)), RpL mg G (kvs.map fun p => keyD p.1) (kvs.map fun p => kV p.1)
  | [] => .nil
  | (.inl i, _) :: kvs => .cons (.int i) (rp_keysL kvs)
  | (.inr s, _) :: kvs => .cons (.str s) (rp_keysL kvs)
theorem cr_listX (hc : X.calm = true) : CallR X (.type "list") (fun xs H Q => (∃ p ys, xs = [.ref p] ∧ (SqL X.K H p ys ∨ SqT X.K H p ys) ∧ ∀ l, H l = none → Q (.ref l) (upd H l (.lst ys))) ∨
    ∃ (a : Addr) (kvs : List (Key × V)), xs = [.ref a] ∧ Rd H a (.dK kvs) ∧ ∀ p, H p = none → Q (.ref p) (upd H p (.lst (kvs.map fun kv => kV kv.1)))) := call_list_of.or (call_listD hc)
theorem cf_listX : CallF X W fl fl (fun xs H Q => (∃ p ys, xs = [.ref p] ∧ (SqL X.K H p ys ∨ SqT X.K H p ys) ∧ ∀ l, H l = none → Q (.ref l) (upd H l (.lst ys))) ∨
    ∃ (a : Addr) (kvs : List (Key × V)), xs = [.ref a] ∧ Rd H a (.dK kvs) ∧ ∀ p, H p = none → Q (.ref p) (upd H p (.lst (kvs.map fun kv => kV kv.1)))) listX := by
  intro M H σ Q ds vs m r h
  by_cases hd : ∃ es, ds = [.dic 0 es]
  · obtain ⟨es, rfl⟩ := hd
    cases r with
    | cons r t =>
      cases t
      cases r with
      | dicK ha e ra =>
        refine .inr ⟨_, _, rfl, vw_dK (vis_get ha), fun p hp => ?_⟩
        have h' : PostE X W fl M σ H Q (.ok (.lst (es.map (·.1)))) := h
        rw [e] at h'
        exact h' _ _ (Ext.new hp) (rp_newL m hp (rp_keysL _))
  · have e : listX ds = listF ds := by
      unfold listX
      split
      · exact absurd ⟨_, rfl⟩ hd
      · rfl
    rw [e] at h
    exact .inl (cf_list M H σ Q ds vs m r h)
def dictF : List D → Res D
  | [.dic 0 es] => .ok (.dic 0 es)
  | _ => .bad
end
section
variable {es : List (D × D)} {k d : D} {t : Nat} {φa φb : Env → Res D} {env : Env}
theorem inZ_fit (h : keyFit t k = true) : inZ k (.dic t es) = .ok (.bl (lookD es k).isSome) := if_pos h
theorem inZ_none (h : keyFit t k = false) (h2 : noneFit t k = true) : inZ k (.dic t es) = .ok (.bl false) := by
  show (if keyFit t k = true then _ else if noneFit t k = true then _ else _) = _
  rw [if_neg (by rw [h]; exact Bool.false_ne_true), if_pos h2]
def rGet1 (a b : Res D) : Res D := a.bind fun d => if isD01 d = true then b.bind (getK d) else .bad
theorem getE_eq : getE φa φb env = rGet1 (φa env) (φb env) := rfl
theorem getD_fit (h : keyFit t k = true) (h2 : lookD es k = some d) : getD (.dic t es) k = .ok d := by
  have e1 : getD (.dic t es) k = if keyFit t k = true then (match lookD es k with | some d => .ok d | none => .bad) else .bad := by cases k <;> rfl
  rw [e1, if_pos h, h2]
def rPut (i : Nat) (s : Option Sl) (rv rk : Res D) (env : Env) : SRes := match s with
  | some (.ow (.dic t es)) => ofE rv env fun d => ofE rk env fun k => if keyFit t k = true ∧ es.length < sizeLine then .nx (env.set i (.ow (.dic t (setD es k d)))) else .bad
  | _ => .bad
theorem putS_eq {i : Nat} : putS i φa φb env = rPut i env[i]? (φb env) (φa env) env := rfl
theorem rPut_ok {i : Nat} : rPut i (some (.ow (.dic t es))) (.ok d) (.ok k) env = if keyFit t k = true ∧ es.length < sizeLine then .nx (env.set i (.ow (.dic t (setD es k d)))) else .bad := rfl
end
end VL

set_option maxRecDepth 100000
set_option maxHeartbeats 2000000
set_option autoImplicit false
namespace VL
open PySem L2
def lockO : HO → Bool
  | .dK _ => true
  | .dT _ => true
  | .ext _ => true
  | _ => false
theorem vw_lock {H : Hp} {d : Addr} {u : HO} {o : Obj} (h : H d = some u) (hl : lockO u = true) : vw (upd H d (.frz o u)) = vw H := by
  funext a
  unfold vw
  by_cases e : a = d
  · subst e
    rw [upd_same, h]
    cases u <;> first | rfl | cases hl
  · rw [upd_ne e]
theorem vw_unlock {H : Hp} {d : Addr} {u : HO} {o : Obj} (h : H d = some (.frz o u)) (hl : lockO u = true) : vw (upd H d u) = vw H := by
  funext a
  unfold vw
  by_cases e : a = d
  · subst e
    rw [upd_same, h]
    cases u <;> first | rfl | cases hl
  · rw [upd_ne e]
section
variable {mg : Gm} {H0 H H' : Hp} {M0 M M' : Addr → Bool} {σ σ' : L2.St} {env env' : Env} {d : Addr} {u : HO} {o : Obj}
theorem mok_upd {w : HO} (m : MOk M H) (hm : M d = false) : MOk M (upd H d w) where
  dom := fun a h => by
    obtain ⟨x, q⟩ := m.dom a h
    exact ⟨x, by rw [upd_ne (fun e => by rw [e, hm] at h; cases h)]; exact q⟩
  tup := fun a xs h => by rw [upd_ne (fun e => by rw [e, hm] at h; cases h)]; exact m.tup a xs h
  xd := fun a xs h => by rw [upd_ne (fun e => by rw [e, hm] at h; cases h)]; exact m.xd a xs h
theorem m0_of (g : Good mg H0 M0 M H σ env) (hm : M d = false) : M0 d = false := by
  cases q : M0 d with
  | false => rfl
  | true => rw [g.sub d q] at hm; cases hm
theorem good_lockS (g : Good mg H0 M0 M H σ env) (hm : M d = false) (hd : H d = some u) (hl : lockO u = true) : Good mg (upd H0 d (.frz o u)) M0 M (upd H d (.frz o u)) σ env where
  len := g.len
  ok := mok_upd g.ok hm
  sub := g.sub
  new := fun a h => (g.new a h).imp id fun z => by rw [upd_ne (fun e => by rw [e, hm] at h; cases h)]; exact z
  ok0 := mok_upd g.ok0 (m0_of g hm)
  ex := fun a w h => by
    by_cases e : a = d
    · subst e; rw [upd_same] at h ⊢; exact h
    · rw [upd_ne e] at h ⊢; exact g.ex a w h
  sl := fun i s h => (g.sl i s h).imp (by rw [vw_lock hd hl]; exact .refl _) fun p _ hp => ⟨hp, fun w hw => by rw [upd_ne (fun e => by rw [e, hm] at hp; cases hp)]; exact hw⟩
  inj := g.inj
theorem good_up (g : Good mg H0 M0 M H σ env) (hm : M d = false) (hd : H d = some (.frz o u)) : Good mg (upd H0 d (.frz o u)) M0 M H σ env where
  len := g.len
  ok := g.ok
  sub := g.sub
  new := fun a h => (g.new a h).imp id fun z => by rw [upd_ne (fun e => by rw [e, hm] at h; cases h)]; exact z
  ok0 := mok_upd g.ok0 (m0_of g hm)
  ex := fun a w h => by
    by_cases e : a = d
    · subst e; rw [upd_same] at h; rw [hd]; exact h
    · rw [upd_ne e] at h; exact g.ex a w h
  sl := g.sl
  inj := g.inj
theorem at_lock (g : Good mg (upd H0 d (.frz o u)) M0 M H σ env) (m0 : M0 d = false) : H d = some (.frz o u) ∧ M d = false := by
  refine ⟨g.ex d _ upd_same, ?_⟩
  cases q : M d with
  | false => rfl
  | true =>
    rcases g.new d q with h | h
    · rw [m0] at h; cases h
    · rw [upd_same] at h; cases h
theorem good_down (g : Good mg (upd H0 d (.frz o u)) M0 M H σ env) (k0 : MOk M0 H0) (h0 : H0 d = none ∨ H0 d = some (.frz o u)) : Good mg H0 M0 M H σ env where
  len := g.len
  ok := g.ok
  sub := g.sub
  new := fun a h => (g.new a h).imp id fun z => by
    by_cases e : a = d
    · rw [e, upd_same] at z; cases z
    · rw [upd_ne e] at z; exact z
  ok0 := k0
  ex := fun a w h => by
    by_cases e : a = d
    · subst e
      rcases h0 with z | z
      · rw [z] at h; cases h
      · rw [z] at h; cases h
        exact g.ex _ _ upd_same
    · exact g.ex a w (by rw [upd_ne e]; exact h)
  sl := g.sl
  inj := g.inj
theorem good_unlockS (g : Good mg (upd H0 d (.frz o u)) M0 M H σ env) (k0 : MOk M0 H0) (h0 : H0 d = none ∨ H0 d = some u) (m0 : M0 d = false) (hl : lockO u = true) : Good mg H0 M0 M (upd H d u) σ env := by
  obtain ⟨hd, hm⟩ := at_lock g m0
  exact {
    len := g.len
    ok := mok_upd g.ok hm
    sub := g.sub
    new := fun a h => (g.new a h).imp id fun z => by
      by_cases e : a = d
      · rw [e, hm] at h; cases h
      · rw [upd_ne e] at z; exact z
    ok0 := k0
    ex := fun a w h => by
      by_cases e : a = d
      · subst e
        rcases h0 with z | z
        · rw [z] at h; cases h
        · rw [upd_same, ← z]; exact h
      · rw [upd_ne e]; exact g.ex a w (by rw [upd_ne e]; exact h)
    sl := fun i s h => (g.sl i s h).imp (by rw [vw_unlock hd hl]; exact .refl _) fun p _ hp => ⟨hp, fun w hw => by rw [upd_ne (fun e => by rw [e, hm] at hp; cases hp)]; exact hw⟩
    inj := g.inj }
end
theorem itOk_keysT {mg : Gm} {H0 H : Hp} {M : Addr → Bool} {p : Addr} {od : Obj} {kvs : List (List Key × V)} {ks : List D} (h0 : H0 p = some (.frz od (.dT kvs))) (e : ks = kvs.map fun q => .tup (q.1.map keyD)) : ItOk mg H0 M H (Itkt p od kvs) ks := by
  intro M' H' m e0 ev i
  have hp := e0 _ _ h0
  refine ⟨fun hi => ⟨hp, by rw [e, List.length_map] at hi; exact hi⟩, fun d hd => ?_⟩
  rw [e, List.getElem?_map] at hd
  cases q : kvs[i]? with
  | none => rw [q] at hd; cases hd
  | some kv =>
    rw [q] at hd
    cases hd
    refine ⟨⟨hp, (List.getElem?_eq_some_iff.mp q).1⟩, fun x H2 y => ?_⟩
    obtain ⟨rfl, k, v, b, h1, rfl, h2⟩ := y
    rw [q] at h1
    cases h1
    refine ⟨.refl _, ?_⟩
    have hm : M' b = false := by
      cases z : M' b with
      | false => rfl
      | true => exact absurd h2 (m.tup b _ z)
    have rk : ∀ ks : List Key, RpL mg (Sh M' (vw H2)) (ks.map keyD) (ks.map kV) := fun ks => by
      induction ks with
      | nil => exact .nil
      | cons k ks ih =>
        refine .cons ?_ ih
        cases k with
        | inl i => exact .int i
        | inr s => exact .str s
    exact .tup (by rw [Sh_of hm]; exact vw_of h2 trivial) (rk k)
section
variable {X : Cx} {W : WX} {tg iter : Expr} {sts : List Stmt} {pos : Pos} {γ : D → Env → Option Env} {ψ : Env → SRes} {φ : Env → Res D}
theorem for_core {tg' : TG} {tb : TS} (rg : ∀ (H0 : Hp) (M0 M : Addr → Bool) (H : Hp) (σ : L2.St) (env env' : Env) (d : D) (v : V) (Q : L2.St → Hp → Prop), Good (gm X) H0 M0 M H σ env → Rp (gm X) (Sh M (vw H)) d v → γ d env = some env' → (∀ σ', Good (gm X) H0 M0 M H σ' env' → Q σ' H) → tg' v σ H Q)
    (rb : ∀ (H0 : Hp) (M0 M : Addr → Bool) (H : Hp) (σ : L2.St) (env : Env) (D : Ends), Good (gm X) H0 M0 M H σ env → PostS X W H0 M0 M H D (ψ env) → tb D σ H)
    {H0 : Hp} {M0 M : Addr → Bool} {H1 : Hp} {σ : L2.St} {env : Env} {D : Ends} {ds : List VL.D} {J : It} (g : Good (gm X) H0 M0 M H1 σ env) (ok : ItOk (gm X) H0 M H1 J ds) (h1 : PostS X W H0 M0 M H1 D (forL γ ψ ds env)) :
    ∃ Wf : Nat → Nat → L2.St → Hp → Prop, (∃ m, Wf 0 m σ H1) ∧ ∀ i m σ H, Wf i m σ H → (J.stop i H ∧ D.nx σ H) ∨ (J.go i H ∧ ∃ N : L2.St → Hp → Prop, (∀ σ' H', N σ' H' → ∃ m', m' < m ∧ Wf (i + 1) m' σ' H') ∧
      ∀ x H', J.yld i H x H' → tg' x σ H' fun σ2 H2 => tb { D with nx := N, ct := N, bk := D.nx } σ2 H2) := by
  refine ⟨fun i m σ' H' => m = ds.length - i ∧ ∃ M' env', Good (gm X) H0 M0 M' H' σ' env' ∧ VEx (Sh M (vw H1)) (Sh M' (vw H')) ∧ PostS X W H0 M0 M' H' D (forL γ ψ (ds.drop i) env'), ⟨ds.length, rfl, M, env, g, .refl _, h1⟩, ?_⟩
  rintro i m σ' H' ⟨rfl, M', env', g', e', h'⟩
  obtain ⟨o1, o2⟩ := ok M' H' g'.ok g'.ex e' i
  cases qd : ds[i]? with
  | none =>
    have hi : ds.length ≤ i := List.getElem?_eq_none_iff.mp qd
    rw [List.drop_of_length_le hi] at h'
    exact .inl ⟨o1 hi, h' M' H' σ' g' (.refl _)⟩
  | some d =>
    obtain ⟨o3, o4⟩ := o2 d qd
    have hi : i < ds.length := (List.getElem?_eq_some_iff.mp qd).1
    have hdr : ds.drop i = d :: ds.drop (i + 1) := by
      rw [List.drop_eq_getElem_cons hi]
      rw [List.getElem?_eq_getElem hi] at qd
      cases qd; rfl
    rw [hdr] at h'
    unfold forL at h'
    cases qg : γ d env' with
    | none => rw [qg] at h'; exact h'.elim
    | some env1 =>
      rw [qg] at h'
      refine .inr ⟨o3, fun σ2 H2 => ∃ M2 env2, Good (gm X) H0 M0 M2 H2 σ2 env2 ∧ VEx (Sh M (vw H1)) (Sh M2 (vw H2)) ∧ PostS X W H0 M0 M2 H2 D (forL γ ψ (ds.drop (i + 1)) env2), fun σ2 H2 ⟨M2, env2, x1, x2, x3⟩ => ⟨ds.length - (i + 1), by omega, rfl, M2, env2, x1, x2, x3⟩, fun x H2 y => ?_⟩
      obtain ⟨ey, ry⟩ := o4 x H2 y
      refine rg H0 M0 M' H2 σ' env' env1 d x _ (g'.mono ey) ry qg fun σ3 g3 => ?_
      have h3 : PostS X W H0 M0 M' H2 D (flowL (ψ env1) (forL γ ψ (ds.drop (i + 1)))) := PostS.mono h' (Sh_mono (M := M') ey.v)
      have e3 := e'.trans (Sh_mono (M := M') ey.v)
      refine rb H0 M0 M' H2 σ3 env1 _ g3 ?_
      cases qb : ψ env1 with
      | nx env2 => rw [qb] at h3; exact fun M4 H4 σ4 g4 e4 => ⟨M4, env2, g4, e3.trans e4, PostS.mono h3 e4⟩
      | ct env2 => rw [qb] at h3; exact fun M4 H4 σ4 g4 e4 => ⟨M4, env2, g4, e3.trans e4, PostS.mono h3 e4⟩
      | bk env2 => rw [qb] at h3; exact h3
      | rt d => rw [qb] at h3; exact h3
      | xc c fs env2 => rw [qb] at h3; exact h3
      | bad => rw [qb] at h3; exact h3
      | ro d => rw [qb] at h3; exact h3
def VD (X : Cx) (e : Expr) (φ : Env → Res D) : Prop :=
  ∃ t : TE, PE X e t ∧ ∀ (H0 : Hp) (M0 M : Addr → Bool) (H : Hp) (σ : L2.St) (env : Env) (d : D), Good (gm X) H0 M0 M H σ env → φ env = .ok d → isD01 d = true → ∃ a, Rp (gm X) (Sh M (vw H)) d (.ref a) ∧ ∀ (H1 : Hp) (Q : VK), vw H1 = vw H → Q (.ref a) H1 → t σ H1 Q
theorem vd_v (i : Nat) {x : Str} (hN : X.N[i]? = some x := by rfl) (hv : Vis X.env.scope x := by first | exact Or.inl rfl | exact Or.inr (Or.inl rfl) | exact Or.inr (Or.inr rfl)) (hd : (x == ("__debug__" : Str)) = false := by decide)
    (hcd : (x == ("__classdict__" : Str)) = false := by decide) : VD X (.Name x pos) (getP i) := by
  refine ⟨tVar i, pe_var hN hv hd hcd, fun H0 M0 M H σ env d g h hi => ?_⟩
  unfold getP at h
  cases q : env[i]? with
  | none => rw [q] at h; cases h
  | some s =>
    rw [q] at h
    cases s with
    | no => cases h
    | ow d => cases h
    | sh d =>
      cases h
      obtain ⟨x, e, r⟩ := g.sl i _ q
      have : ∃ a, x = .ref a := by cases r <;> first | exact ⟨_, rfl⟩ | cases hi
      obtain ⟨a, rfl⟩ := this
      exact ⟨a, r, fun H1 Q _ k => ⟨_, e, k⟩⟩
def rIxL1 (k : Int) : Option Sl → Res D
  | some (.sh (.lst ds)) => seqGet ds k
  | _ => .bad
def ixLE (i : Nat) (k : Int) (env : Env) : Res D := rIxL1 k env[i]?
theorem vd_ix (i : Nat) {x : Str} {k : Int} {j : Nat} {px p1 : Pos} (hN : X.N[i]? = some x := by rfl) (hv : Vis X.env.scope x := by first | exact Or.inl rfl | exact Or.inr (Or.inl rfl) | exact Or.inr (Or.inr rfl)) (hd : (x == ("__debug__" : Str)) = false := by decide)
    (hcd : (x == ("__classdict__" : Str)) = false := by decide) : VD X (.Subscript (.Name x px) (.Constant (.int k) j p1) pos) (ixLE i k) := by
  refine ⟨_, pe_ix ix_seq (pe_var hN hv hd hcd) pe_int (fun _ _ => rfl), fun H0 M0 M H σ env d g h hi => ?_⟩
  unfold ixLE rIxL1 at h
  split at h
  · rename_i ds q
    obtain ⟨x, e, r⟩ := g.sl i _ q
    unfold seqGet at h
    cases z : atI ds k with
    | none => rw [z] at h; cases h
    | some d2 =>
      rw [z] at h
      cases h
      cases r with
      | lst ha ra =>
        obtain ⟨v, q1, r1⟩ := atI_rp ra z
        have : ∃ a, v = .ref a := by cases r1 <;> first | exact ⟨_, rfl⟩ | cases hi
        obtain ⟨a, rfl⟩ := this
        refine ⟨a, r1, fun H1 Q ev kk => ⟨_, e, .inl ⟨_, _, k, .ref a, rfl, rfl, .inl (vw_lst ?_), q1, kk⟩⟩⟩
        rw [ev]
        exact (Sh_some ha).2
  · cases h
def keysD : D → Res (List D)
  | .dic 0 es => .ok (es.map (·.1))
  | .dic 1 es => .ok (es.map (·.1))
  | _ => .bad
def quiet : SRes → SRes
  | .xc _ _ _ => .bad
  | .ro _ => .bad
  | r => r
def forDS (γ : D → Env → Option Env) (φ : Env → Res D) (ψ : Env → SRes) (env : Env) : SRes := match (φ env).bind keysD with
  | .ok ds => quiet (forL γ ψ ds env)
  | _ => .bad
theorem ps_or {st : Stmt} {t u : TS} (h1 : PS X st t) (h2 : PS X st u) : PS X st (fun D σ H => t D σ H ∨ u D σ H) :=
  ⟨fun pins s σ H D I h => h.elim (h1.run pins s σ H D I) (h2.run pins s σ H D I)⟩
theorem vs_forD (hp : PassesOwn (model X.prog X.w) X.A X.env X.xe) (hc : X.calm = true) (hd : VD X iter φ) (hg : VG X tg γ) (hb : VB X W sts ψ) (hs : ∀ x, foldedSetIterable iter X.env x = pure x := by intro _; rfl) : VS X W (.For tg iter sts [] pos) (forDS γ φ ψ) := by
  obtain ⟨td, pd, rd⟩ := hd
  obtain ⟨tg', pg, rg⟩ := hg
  obtain ⟨tb, pb, rb⟩ := hb
  refine ⟨_, ps_or (ps_lock (ps_for hp hc (pi_keys pd) pg pb hs)) (ps_for hp hc (pi_keys pd) pg pb hs), fun H0 M0 M H σ env D g h => ?_⟩
  unfold forDS at h
  cases q : φ env with
  | bad => rw [q] at h; exact h.elim
  | exc c fs => rw [q] at h; exact h.elim
  | ok d =>
    rw [q] at h
    have hi : isD01 d = true := by
      cases d with
      | dic t es =>
        match t, h with
        | 0, _ => rfl
        | 1, _ => rfl
        | (_ + 2), h => exact h.elim
      | _ => exact h.elim
    obtain ⟨a, ra, run⟩ := rd H0 M0 M H σ env d g q hi
    -- what stands there
    obtain ⟨u, ks, hu, hv, hm, hk, ok⟩ : ∃ (u : HO) (ks : List VL.D), lockO u = true ∧ (H a = some u ∨ ∃ o, H a = some (.frz o u)) ∧ M a = false ∧ keysD d = .ok ks ∧
        ∀ (o : Obj) (H0' H1 : Hp), H0' a = some (.frz o u) → (∃ kvs, u = .dK kvs ∧ ItOk (gm X) H0' M H1 (Itk a o kvs) ks) ∨ ∃ kvs, u = .dT kvs ∧ ItOk (gm X) H0' M H1 (Itkt a o kvs) ks := by
      have two : (∃ es, d = .dic 0 es) ∨ ∃ es, d = .dic 1 es := by
        cases d with
        | dic t es =>
          match t, hi with
          | 0, _ => exact .inl ⟨es, rfl⟩
          | 1, _ => exact .inr ⟨es, rfl⟩
        | _ => cases hi
      rcases two with ⟨es, rfl⟩ | ⟨es, rfl⟩
      · cases ra with
        | @dicK _ kvs _ ha e r =>
          obtain ⟨hm, hv⟩ := Sh_some ha
          exact ⟨.dK kvs, _, rfl, vw_dK hv, hm, rfl, fun o H0' H1 z0 => .inl ⟨kvs, rfl, itOk_keys z0 e⟩⟩
      · cases ra with
        | @dicT _ kvs _ ha e r =>
          obtain ⟨hm, hv⟩ := Sh_some ha
          exact ⟨.dT kvs, _, rfl, vw_dT hv, hm, rfl, fun o H0' H1 z0 => .inr ⟨kvs, rfl, itOk_keysT z0 e⟩⟩
    have h1 : PostS X W H0 M0 M H D (quiet (forL γ ψ ks env)) := by
      have e : (match (Res.ok d).bind keysD with
        | .ok ds => quiet (forL γ ψ ds env)
        | _ => SRes.bad) = quiet (forL γ ψ ks env) := by
        show (match keysD d with
          | .ok ds => quiet (forL γ ψ ds env)
          | _ => SRes.bad) = _
        rw [hk]
      rw [← e]; exact h
    have m0 := m0_of g hm
    rcases hv with hv | ⟨o, hv⟩
    · refine .inl ⟨a, u, hv, ?_, fun od => ?_⟩
      · cases u <;> first | trivial | cases hu
      have gl := good_lockS (o := od) g hm hv hu
      have h00 : H0 a = none ∨ H0 a = some u := by
        cases z : H0 a with
        | none => exact .inl rfl
        | some w => rw [← hv]; exact .inr (g.ex _ _ z).symm
      suffices post : PostS X W (upd H0 a (.frz od u)) M0 M (upd H a (.frz od u)) ⟨fun σ' H' => H' a = some (.frz od u) ∧ D.nx σ' (upd H' a u), fun v H' => H' a = some (.frz od u) ∧ D.rt v (upd H' a u), fun σ' H' => H' a = some (.frz od u) ∧ D.bk σ' (upd H' a u), fun σ' H' => H' a = some (.frz od u) ∧ D.ct σ' (upd H' a u)⟩ (forL γ ψ ks env) by
        refine run _ _ (vw_lock hv hu) ⟨a, od, rfl, ?_⟩
        rcases ok od (upd H0 a (.frz od u)) (upd H a (.frz od u)) upd_same with ⟨kvs, rfl, okJ⟩ | ⟨kvs, rfl, okJ⟩
        · exact .inl ⟨kvs, upd_same, for_core rg rb gl okJ post⟩
        · exact .inr ⟨kvs, upd_same, for_core rg rb gl okJ post⟩
      have un : ∀ {M' : Addr → Bool} {H' : Hp} {σ' : L2.St} {env' : Env}, Good (gm X) (upd H0 a (.frz od u)) M0 M' H' σ' env' → Good (gm X) H0 M0 M' (upd H' a u) σ' env' := fun g' => good_unlockS g' g.ok0 h00 m0 hu
      have vx : ∀ {M' : Addr → Bool} {H' : Hp}, H' a = some (.frz od u) → VEx (Sh M (vw (upd H a (.frz od u)))) (Sh M' (vw H')) → VEx (Sh M (vw H)) (Sh M' (vw (upd H' a u))) := fun hd e => by
        rw [vw_lock hv hu] at e
        rw [vw_unlock hd hu]
        exact e
      cases z : forL γ ψ ks env with
      | nx env' => rw [z] at h1; exact fun M' H' σ' g' e' => ⟨(at_lock g' m0).1, h1 M' _ σ' (un g') (vx (at_lock g' m0).1 e')⟩
      | bk env' => rw [z] at h1; exact fun M' H' σ' g' e' => ⟨(at_lock g' m0).1, h1 M' _ σ' (un g') (vx (at_lock g' m0).1 e')⟩
      | ct env' => rw [z] at h1; exact fun M' H' σ' g' e' => ⟨(at_lock g' m0).1, h1 M' _ σ' (un g') (vx (at_lock g' m0).1 e')⟩
      | rt d' =>
        rw [z] at h1
        intro v H' e' r'
        have hd := e' a _ upd_same
        refine ⟨hd, h1 v _ (fun b w hb => ?_) (by rw [vw_unlock hd hu]; exact r')⟩
        by_cases e : b = a
        · subst e
          rcases h00 with y | y
          · rw [y] at hb; cases hb
          · rw [upd_same, ← y]; exact hb
        · rw [upd_ne e]
          exact e' b w (by rw [upd_ne e]; exact hb)
      | xc c fs env' => rw [z] at h1; exact h1.elim
      | bad => rw [z] at h1; exact h1.elim
      | ro d' => rw [z] at h1; exact h1.elim
    · refine .inr ?_
      have gl := good_up g hm hv
      have h00 : H0 a = none ∨ H0 a = some (.frz o u) := by
        cases z : H0 a with
        | none => exact .inl rfl
        | some w => rw [← hv]; exact .inr (g.ex _ _ z).symm
      suffices post : PostS X W (upd H0 a (.frz o u)) M0 M H D (forL γ ψ ks env) by
        refine run _ _ rfl ⟨a, o, rfl, ?_⟩
        rcases ok o (upd H0 a (.frz o u)) H upd_same with ⟨kvs, rfl, okJ⟩ | ⟨kvs, rfl, okJ⟩
        · exact .inl ⟨kvs, hv, for_core rg rb gl okJ post⟩
        · exact .inr ⟨kvs, hv, for_core rg rb gl okJ post⟩
      have dn : ∀ {M' : Addr → Bool} {H' : Hp} {σ' : L2.St} {env' : Env}, Good (gm X) (upd H0 a (.frz o u)) M0 M' H' σ' env' → Good (gm X) H0 M0 M' H' σ' env' := fun g' => good_down g' g.ok0 h00
      cases z : forL γ ψ ks env with
      | nx env' => rw [z] at h1; exact fun M' H' σ' g' e' => h1 M' H' σ' (dn g') e'
      | bk env' => rw [z] at h1; exact fun M' H' σ' g' e' => h1 M' H' σ' (dn g') e'
      | ct env' => rw [z] at h1; exact fun M' H' σ' g' e' => h1 M' H' σ' (dn g') e'
      | rt d' =>
        rw [z] at h1
        intro v H' e' r'
        refine h1 v H' (fun b w hb => ?_) r'
        by_cases e : b = a
        · subst e
          rcases h00 with y | y
          · rw [y] at hb; cases hb
          · rw [y] at hb; cases hb
            exact e' b _ upd_same
        · exact e' b w (by rw [upd_ne e]; exact hb)
      | xc c fs env' => rw [z] at h1; exact h1.elim
      | bad => rw [z] at h1; exact h1.elim
      | ro d' => rw [z] at h1; exact h1.elim
end
end VL

set_option maxRecDepth 100000
set_option maxHeartbeats 2000000
set_option autoImplicit false
namespace VL
open PySem L2
def lcDE (vs : List Nat) (γ : D → Env → Option Env) (κ : Env → Res D) (τ : Env → Res Bool) (φ : Env → Res D) (env : Env) : Res D := match (κ env).bind keysD with
  | .ok ds => lcE vs γ (fun _ => .ok ds) τ φ env
  | _ => .bad
section
variable {X : Cx} {W : WX} {tg elt iter : Expr} {ifs : List Expr} {scope : Scope} {own : List (Str × Nat)} {pos : Pos} {γ : D → Env → Option Env} {τ : Env → Res Bool} {φ κ : Env → Res D}
theorem vf_lcD (hc : X.calm = true) (hN : X.N.Nodup) (hd : VD X iter κ) (ok : BlkOk X.N X.env.scope scope own)
    (hg : ∀ (s : Shared) (H : Hp) (C : Addr) (cl : List (Str × Addr)) (fp : List Addr), VGc (own.map (·.2)) (X.blk s H scope (compEnvC scope cl C X.env) fp) tg γ)
    (ht : ∀ (s : Shared) (H : Hp) (C : Addr) (cl : List (Str × Addr)) (fp : List Addr), VTs (X.blk s H scope (compEnvC scope cl C X.env) fp) W0 ifs τ)
    (he : ∀ (s : Shared) (H : Hp) (C : Addr) (cl : List (Str × Addr)) (fp : List Addr), VE (X.blk s H scope (compEnvC scope cl C X.env) fp) W0 true elt φ)
    (hs : ∀ y, foldedSetIterable iter X.env y = pure y := by intro _; rfl) : VF X W (.ListComp elt [⟨tg, iter, ifs, 0⟩] scope pos) (lcDE (own.map (·.2)) γ κ τ φ) := by
  obtain ⟨pg, pt, pe⟩ := lc_parts hg ht he
  obtain ⟨td, pd, rd⟩ := hd
  have core := pe_lc (pos := pos) hc hN (pi_keys (tg := tg) pd) ok pg pt pe hs
  refine ⟨_, pe_or (pe_lock core) core, fun H0 M0 M H σ env Q g h => ?_⟩
  unfold lcDE at h
  cases q : κ env with
  | bad => rw [q] at h; exact h.elim
  | exc c fs => rw [q] at h; exact h.elim
  | ok d =>
    rw [q] at h
    have hi : isD01 d = true := by
      cases d with
      | dic t es =>
        match t, h with
        | 0, _ => rfl
        | 1, _ => rfl
        | (_ + 2), h => exact h.elim
      | _ => exact h.elim
    obtain ⟨a, ra, run⟩ := rd H0 M0 M H σ env d g q hi
    obtain ⟨u, ks, hu, hv, hm, hk, okk⟩ : ∃ (u : HO) (ks : List VL.D), lockO u = true ∧ (H a = some u ∨ ∃ o, H a = some (.frz o u)) ∧ M a = false ∧ keysD d = .ok ks ∧
        ∀ (o : Obj) (H0' H1 : Hp), H0' a = some (.frz o u) → (∃ kvs, u = .dK kvs ∧ ItOk (gm X) H0' M H1 (Itk a o kvs) ks) ∨ ∃ kvs, u = .dT kvs ∧ ItOk (gm X) H0' M H1 (Itkt a o kvs) ks := by
      have two : (∃ es, d = .dic 0 es) ∨ ∃ es, d = .dic 1 es := by
        cases d with
        | dic t es =>
          match t, hi with
          | 0, _ => exact .inl ⟨es, rfl⟩
          | 1, _ => exact .inr ⟨es, rfl⟩
        | _ => cases hi
      rcases two with ⟨es, rfl⟩ | ⟨es, rfl⟩
      · cases ra with
        | @dicK _ kvs _ ha e r =>
          obtain ⟨hm, hv⟩ := Sh_some ha
          exact ⟨.dK kvs, _, rfl, vw_dK hv, hm, rfl, fun o H0' H1 z0 => .inl ⟨kvs, rfl, itOk_keys z0 e⟩⟩
      · cases ra with
        | @dicT _ kvs _ ha e r =>
          obtain ⟨hm, hv⟩ := Sh_some ha
          exact ⟨.dT kvs, _, rfl, vw_dT hv, hm, rfl, fun o H0' H1 z0 => .inr ⟨kvs, rfl, itOk_keysT z0 e⟩⟩
    have h1 : PostN X W M σ H Q (lcE (own.map (·.2)) γ (fun _ => .ok ks) τ φ env) := by
      rw [show (Res.ok d).bind keysD = .ok ks from hk] at h
      exact h
    have keys : ∀ (o : Obj) (H0' H1 : Hp), H0' a = some (.frz o u) → H1 a = some (.frz o u) → vw H1 = vw H → ∀ R : It → Hp → Prop, PostI X W H0' M σ H1 R (.ok ks) → iKeys td σ H1 R := fun o H0' H1 z0 z1 ev R hR => by
      refine run H1 _ ev ⟨a, o, rfl, ?_⟩
      rcases okk o H0' H1 z0 with ⟨kvs, rfl, okJ⟩ | ⟨kvs, rfl, okJ⟩
      · exact .inl ⟨kvs, z1, hR _ H1 (Ext.refl _) okJ⟩
      · exact .inr ⟨kvs, z1, hR _ H1 (Ext.refl _) okJ⟩
    rcases hv with hv | ⟨o, hv⟩
    · refine .inl ⟨a, u, hv, ?_, fun od => ?_⟩
      · cases u <;> first | trivial | cases hu
      have gl := good_lockS (o := od) g hm hv hu
      refine lc_read (X := X) (W := W) (wi := iKeys td) (ι := fun _ => .ok ks) (own.map fun z : Str × Nat => z.2) (keys od _ _ upd_same upd_same (vw_lock hv hu)) gl ?_
      cases z : lcE (own.map (·.2)) γ (fun _ => .ok ks) τ φ env with
      | bad => rw [z] at h1; exact h1
      | exc c fs => exact absurd z (compL_not _ _)
      | ok d2 =>
        rw [z] at h1
        intro p' H' hp e' o2
        have hne : p' ≠ a := fun y => by rw [y, upd_same] at hp; cases hp
        have hd := e' a _ upd_same
        refine ⟨hd, h1 p' _ (by rw [upd_ne hne] at hp; exact hp) (fun b w hb => ?_) (o2.imp (by rw [vw_unlock hd hu]; exact .refl _) fun w hw => by rw [upd_ne hne]; exact hw)⟩
        by_cases e : b = a
        · subst e; rw [upd_same]; rw [hv] at hb; exact hb
        · rw [upd_ne e]; exact e' b w (by rw [upd_ne e]; exact hb)
    · refine .inr ?_
      exact lc_read (X := X) (W := W) (wi := iKeys td) (ι := fun _ => .ok ks) (own.map fun z : Str × Nat => z.2) (keys o (upd H0 a (.frz o u)) H upd_same hv rfl) (good_up g hm hv) h1
end
def putG : List (Str × D) → Str → D → List (Str × D)
  | [], f, d => [(f, d)]
  | (g, x) :: r, f, d => if g = f then (g, d) :: r else (g, x) :: putG r f d
theorem putG_keys {gs : List (Str × D)} {fs : List (Str × V)} {f : Str} {d : D} {v : V} (h : gs.map (·.1) = fs.map (·.1)) : (putG gs f d).map (·.1) = (putF f v fs).map (·.1) := by
  induction gs generalizing fs with
  | nil =>
    cases fs with
    | nil => rfl
    | cons _ _ => cases h
  | cons g gs ih =>
    cases fs with
    | nil => cases h
    | cons x fs =>
      rw [List.map_cons, List.map_cons] at h
      obtain ⟨h1, h2⟩ := List.cons.inj h
      show (if g.1 = f then (g.1, d) :: gs else (g.1, g.2) :: putG gs f d).map (·.1) = (if x.1 = f then (x.1, v) :: fs else (x.1, x.2) :: putF f v fs).map (·.1)
      rw [h1]
      by_cases c : x.1 = f
      · rw [if_pos c, if_pos c, List.map_cons, List.map_cons, h2]
      · rw [if_neg c, if_neg c, List.map_cons, List.map_cons, ih h2]
theorem putG_vals {mg : Gm} {G : Vw} {gs : List (Str × D)} {fs : List (Str × V)} {f : Str} {d : D} {v : V} (h : gs.map (·.1) = fs.map (·.1)) (r : RpL mg G (gs.map (·.2)) (fs.map (·.2))) (rv : Rp mg G d v) : RpL mg G ((putG gs f d).map (·.2)) ((putF f v fs).map (·.2)) := by
  induction gs generalizing fs with
  | nil =>
    cases fs with
    | nil => exact .cons rv .nil
    | cons _ _ => cases h
  | cons g gs ih =>
    cases fs with
    | nil => cases h
    | cons x fs =>
      rw [List.map_cons, List.map_cons] at h
      obtain ⟨h1, h2⟩ := List.cons.inj h
      have r' : RpL mg G (g.2 :: gs.map (·.2)) (x.2 :: fs.map (·.2)) := r
      cases r' with
      | cons r1 r2 =>
        show RpL mg G ((if g.1 = f then (g.1, d) :: gs else (g.1, g.2) :: putG gs f d).map (·.2)) ((if x.1 = f then (x.1, v) :: fs else (x.1, x.2) :: putF f v fs).map (·.2))
        rw [h1]
        by_cases c : x.1 = f
        · rw [if_pos c, if_pos c]; exact .cons rv r2
        · rw [if_neg c, if_neg c]; exact .cons r1 (ih h2 r2)
theorem fld_rel {mg : Gm} {G : Vw} {f : Str} {d : D} : ∀ {gs : List (Str × D)} {fs : List (Str × V)}, gs.map (·.1) = fs.map (·.1) → RpL mg G (gs.map (·.2)) (fs.map (·.2)) → gs.lookup f = some d → ∃ v, fs.lookup f = some v ∧ Rp mg G d v
  | [], _, _, _, h => by cases h
  | _ :: _, [], e, _, _ => by cases e
  | g :: gs, x :: fs, e, r, h => by
    rw [List.map_cons, List.map_cons] at e
    obtain ⟨e1, e2⟩ := List.cons.inj e
    have r' : RpL mg G (g.2 :: gs.map (·.2)) (x.2 :: fs.map (·.2)) := r
    obtain ⟨gn, gd⟩ := g
    obtain ⟨xn, xv⟩ := x
    have e1' : gn = xn := e1
    subst e1'
    cases r' with
    | cons r1 r2 =>
      rw [List.lookup_cons] at h ⊢
      cases c : f == gn with
      | true =>
        rw [c] at h
        cases h
        exact ⟨xv, rfl, r1⟩
      | false =>
        rw [c] at h
        exact fld_rel e2 r2 h
structure ClsOk (K : PySem.W.Frag) (mg : Str → Option Value) (c : Str) (fs : List Str) : Prop where
  ex : ∃ C, mg c = some (.ref C) ∧ Cls K C ∧ ∀ f, fs.contains f = true → NoAttr K C f
def fldI (c f : Str) : D → Res D
  | .ins c' gs => if c' = c then (match gs.lookup f with | some d => .ok d | none => .bad) else .bad
  | _ => .bad
def fldIE (c f : Str) (φ : Env → Res D) (env : Env) : Res D := (φ env).bind (fldI c f)
section
variable {X : Cx} {W : WX} {fl : Bool} {e value : Expr} {pos pos' : Pos} {φ : Env → Res D} {c f : Str} {fs : List Str}
theorem fldI_ins {gs : List (Str × D)} : fldI c f (.ins c gs) = match gs.lookup f with | some d => .ok d | none => .bad := if_pos rfl
theorem ins_of {mg : Gm} {G : Vw} {d : D} {v : V} {c : Str} {gs : List (Str × D)} (ed : d = .ins c gs) (r : Rp mg G d v) : ∃ (a C dx : Addr) (fs : List (Str × V)), v = .ref a ∧ mg.mg c = some (.ref C) ∧ G a = some (.ins C dx fs) ∧ gs.map (·.1) = fs.map (·.1) ∧ RpL mg G (gs.map (·.2)) (fs.map (·.2)) := by
  subst ed
  cases r with
  | ins h1 h2 h3 h4 => exact ⟨_, _, _, _, rfl, h1, h2, h3, h4⟩
theorem ve_fld (hC : ClsOk X.K X.mg c fs) (he : VE X W fl e φ) (hf : fs.contains f = true := by decide) (hb : attributeBase e f X.env (eval e X.env) = eval e X.env := by rfl) : VE X W fl (.Attribute e f pos) (fldIE c f φ) := by
  obtain ⟨t, pt, r⟩ := he
  obtain ⟨C, hm, hc, hn⟩ := hC.ex
  refine ⟨_, pe_fld pt hb, fun H0 M0 M H σ env Q g h => ?_⟩
  refine r H0 M0 M H σ env _ g (PostE.seq h fun d v H1 e1 r1 h1 => ?_)
  cases d with
  | ins c' gs =>
    obtain ⟨ec, h2⟩ := PostE.ite (c := c' = c) (r := match gs.lookup f with | some d => .ok d | none => .bad) h1
    subst ec
    cases q : gs.lookup f with
    | none => rw [q] at h2; exact h2.elim
    | some d =>
      rw [q] at h2
      obtain ⟨a, C', dx, vs, rfl, z1, z2, z3, z4⟩ := ins_of rfl r1
      have z1' : X.mg c' = some (.ref C') := z1
      rw [hm] at z1'
      cases z1'
      obtain ⟨v, q1, rv⟩ := fld_rel z3 z4 q
      exact ⟨a, C, dx, vs, v, rfl, vw_ins (vis_get z2), hc, hn f hf, q1, h2 v H1 (Ext.refl _) rv⟩
  | _ => exact h1.elim
def rSetf (i : Nat) (c f : Str) (s : Option Sl) (r : Res D) (env : Env) : SRes := match s with
  | some (.ow (.sel x c' gs)) => ofE r env fun d => if c' = c ∧ gs.length < 100 then .nx (env.set i (.ow (.sel x c (putG gs f d)))) else .bad
  | _ => .bad
def setfS (i : Nat) (c f : Str) (φ : Env → Res D) (env : Env) : SRes := rSetf i c f env[i]? (φ env) env
theorem rSetf_ok {i : Nat} {x : Addr} {gs : List (Str × D)} {d : D} {env : Env} : rSetf i c f (some (.ow (.sel x c gs))) (.ok d) env = if gs.length < 100 then .nx (env.set i (.ow (.sel x c (putG gs f d)))) else .bad := by
  show (if c = c ∧ gs.length < 100 then _ else _) = _
  by_cases h : gs.length < 100
  · rw [if_pos ⟨rfl, h⟩, if_pos h]
  · rw [if_neg (fun z => h z.2), if_neg h]
theorem vs_setf (i : Nat) {x : Str} {px : Pos} (hC : ClsOk X.K X.mg c fs) (hv : VE X W true value φ) (hf : fs.contains f = true := by decide) (hN : X.N[i]? = some x := by rfl) (hvi : Vis X.env.scope x := by first | exact Or.inl rfl | exact Or.inr (Or.inl rfl) | exact Or.inr (Or.inr rfl))
    (hd : (x == ("__debug__" : Str)) = false := by decide) (hcd : (x == ("__classdict__" : Str)) = false := by decide)
    (hs : swapsWith value (some (.Attribute (.Name x px) f pos')) pos.line X.env = pure false := by rfl) : VS X W (.Assign [.Attribute (.Name x px) f pos'] value pos) (setfS i c f φ) := by
  obtain ⟨t, pt, r⟩ := hv
  obtain ⟨C, hm, hc, hn⟩ := hC.ex
  refine ⟨_, ps_fld (pe_var hN hvi hd hcd) pt hs, fun H0 M0 M H σ env D g h => ?_⟩
  unfold setfS rSetf at h
  cases q : env[i]? with
  | none => rw [q] at h; exact h.elim
  | some s =>
    rw [q] at h
    cases s with
    | no => exact h.elim
    | sh d => exact h.elim
    | ow dd =>
      cases dd with
      | sel x' c' gs =>
        refine r H0 M0 M H σ env _ g (PostS.ofE g h fun d v H1 e1 g1 r1 h1 => ?_)
        obtain ⟨⟨ec, hl⟩, h2⟩ := PostS.ite h1
        subst ec
        obtain ⟨p, hv', mp, m0, ep, C', dx, vs, y1, y2, y3, y4⟩ := g1.sl i _ q
        have y1' : X.mg c' = some (.ref C') := y1
        rw [hm] at y1'
        cases y1'
        have hlen : vs.length < 1000 := by
          have := congrArg List.length y3
          rw [List.length_map, List.length_map] at this
          omega
        refine ⟨_, hv', p, C, dx, vs, rfl, y2, hc, hn f hf, hlen, ?_⟩
        have rr : OwOk (gm X) M (upd H1 p (.ins C dx (putF f v vs))) p (.sel x' c' (putG gs f d)) := ⟨ep, C, dx, _, hm, upd_same, putG_keys y3, by rw [sh_mut mp]; exact putG_vals y3 y4 r1⟩
        exact h2 M _ σ (g1.mut q hv' rr) (by rw [sh_mut mp]; exact .refl _)
      | _ => exact h.elim
end
end VL

set_option maxRecDepth 100000
set_option maxHeartbeats 2000000
set_option autoImplicit false
namespace VL
open PySem L2
section
variable {X : Cx} {CX : CXT} {k : Nat} {C f : Addr} {fd : FuncData} {ps : List Str} {sp : Sp} {x m : Str} {p pos apos : Pos} {o e : Expr} {es : List Expr} {ta : TE} {t : TA} {E : L2.St → XK}
theorem run_mkS {pins : List (Addr × Obj)} {σ : L2.St} {H : Hp} {s : Shared} {Q : VK} {us : List Value} {vs : List V} {E : XK} (mk : Mk X.K C f) (F : FnOk X.prog X.w X.K X.mg X.base CX k f fd ps sp) (hr : Room (k + 1) X.A) (hb : Binds X.K fd ps [])
    (hx : PassesAt CX X σ E) (I : Inv X pins σ H s) (r : Vals vs us) (h : ∀ x dx, H x = none → H dx = none → dx ≠ x → sp (.ref x :: vs) (upd (upd H dx (.own x)) x (.ins C dx [])) (fun v H2 => v = .non ∧ Q (.ref x) H2) E) :
    wpAny (model X.prog X.w) X.A (call (.ref C) us) (EP X pins σ Q) X.xe s := by
  have q0 := h (s.heap.objs.size + 1) s.heap.objs.size (I.hok.fresh (Nat.le_succ _))
    (I.hok.fresh (Nat.le_refl _)) (Nat.ne_of_lt (Nat.lt_succ_self _))
  have J := Inv.made (C := C) I
  have rr : Vals (V.ref (s.heap.objs.size + 1) :: vs) (Value.ref (s.heap.objs.size + 1) :: us) := .cons rfl r
  have hl : (Value.ref (s.heap.objs.size + 1) :: us).length = ps.length := by
    rw [← rr.length]
    exact F.len _ _ _ _ q0
  have bd := hb _ (Value.ref (s.heap.objs.size + 1) :: us) J.kIn (by rw [List.append_nil]; exact hl)
  rw [List.append_nil] at bd
  have body := F.run _ X.stack _ _ ⟨Value.ref (s.heap.objs.size + 1) :: us, []⟩ (Value.ref (s.heap.objs.size + 1) :: us) _ _ E (hr.make C us []) (J.env0.make C us []) bd rr q0
  refine wpAny_call (make_map (f := f) I.kIn mk.makes mk.init
    (beq_iff_eq.mp mk.fn) (codeAny_mono body fun r s' z => ?_))
  cases r with
  | error e =>
    exact hx pins _ _ e s' J z
  | ok fl =>
    cases fl with
    | next => exact z.elim
    | brk => exact z.elim
    | cont => exact z.elim
    | ret u =>
      obtain ⟨v, H', I3, rv, rfl, q3⟩ := J.after z
      exact ⟨rv, V.ref (s.heap.objs.size + 1), H', I3, rfl, q3⟩
def tMkS (C : Addr) (sp : Sp) (E : L2.St → XK) (t : TA) : TE := fun σ H Q => t σ H fun vs H1 => ∀ x dx, H1 x = none → H1 dx = none → dx ≠ x → sp (.ref x :: vs) (upd (upd H1 dx (.own x)) x (.ins C dx [])) (fun v H2 => v = .non ∧ Q (.ref x) H2) (E σ)
theorem pe_mkS (mk : Mk X.K C f) (F : FnOk X.prog X.w X.K X.mg X.base CX k f fd ps sp) (hr : Room (k + 1) X.A) (hg : Gl X x) (hm : X.mg x = some (.ref C)) (hb : Binds X.K fd ps []) (hx : ∀ σ, PassesAt CX X σ (E σ)) (pt : PA X (e :: es) t)
    (hdb : (x == ("__debug__" : Str)) = false := by decide) (h1 : starEach (e :: es) X.env = (false, eval e X.env) :: starEach es X.env := by rfl) (h2 : (backTo pos (starEach es X.env)).any (·.1) = false := by rfl) :
    PE X (.Call (.Name x p) (e :: es) [] pos) (tMkS C sp E t) where
  run := fun pins s σ H Q I h => by
    refine wpAny_Call_Name_kw (ld_glob I hg hm ?_ hdb)
    have two := pt.run pos pins s σ H _ I h
    refine PySem.W.callWith_K (h₀ := X.base)
      I.ok.mod.kin mk.kp (thn two fun us s1 z => ?_) h1 h2
    obtain ⟨vs, H1, I1, r, q⟩ := z
    exact ⟨I1.kIn, run_mkS mk F hr hb (hx σ) I1 r q⟩
end
structure MethOk (P : Program) (w : World) (K : PySem.W.Frag) (mg : Str → Option Value) (base : Heap) (c m : Str) (k : Nat) (ps : List Str) (n : Nat) (F : List D → Res D) : Prop where
  ex : ∃ (C f : Addr) (fd : FuncData), mg c = some (.ref C) ∧ Cls K C ∧ Meth K C m f ∧ Binds K fd ps [] ∧ FnOk P w K mg base (L2N.CX P w) k f fd ps (spV ⟨P, w, K, mg⟩ n F)
structure RawM (K : PySem.W.Frag) (mg : Str → Option Value) (c m qual : Str) (st : Stmt) (ps : List Str) : Prop where
  ex : ∃ (C f : Addr) (fd : FuncData), mg c = some (.ref C) ∧ Cls K C ∧ Meth K C m f ∧ Fun K m qual st f fd ∧ Binds K fd ps []
section
variable {P : Program} {w : World} {K : PySem.W.Frag} {mg : Str → Option Value} {base : Heap} {c m x qual : Str} {st : Stmt} {N ps : List Str} {k n : Nat} {ψ : Env → SRes} {F G : List D → Res D}
end
def isIns (c m : Str) : D → Bool
  | .ins c' gs => decide (c' = c) && (gs.lookup m).isNone
  | _ => false
def methE (c m : Str) (F : List D → Res D) (φ : Env → Res D) (φs : Env → Res (List D)) (env : Env) : Res D := (φ env).bind fun d => if isIns c m d = true then (φs env).bind fun ds => F (d :: ds) else .bad
section
variable {X : Cx} {W : WX} {fl : Bool} {o e : Expr} {es : List Expr} {pos apos : Pos} {φ : Env → Res D} {φs : Env → Res (List D)} {c m : Str} {k n : Nat} {ps : List Str} {F : List D → Res D}
end
def PostK (mg : Gm) (M : Addr → Bool) (H : Hp) (x : Addr) (Q : VK) (E : XK) : Res D → Prop
  | .ok (.ins c gs) => ∀ (H' : Hp) (C dx : Addr) (fs : List (Str × V)), mg.mg c = some (.ref C) → Ext H H' → H' x = some (.ins C dx fs) → gs.map (·.1) = fs.map (·.1) → RpL mg (Sh M (vw H')) (gs.map (·.2)) (fs.map (·.2)) → Q .non H'
  | .exc c fs => ∀ cls dd H', Ext H H' → RpX mg (Sh M (vw H')) c fs cls dd → E cls dd H'
  | _ => False
def spI (mg : Gm) (c : Str) (n : Nat) (F : Addr → List D → Res D) : Sp := fun vs H1 Q E => ∃ (x C dx : Addr) (vs' : List V) (H : Hp) (M : Addr → Bool) (ds : List D), vs = .ref x :: vs' ∧ vs'.length + 1 = n ∧ mg.mg c = some (.ref C) ∧ H x = none ∧ H dx = none ∧ dx ≠ x ∧
  H1 = upd (upd H dx (.own x)) x (.ins C dx []) ∧ MOk M H ∧ RpL mg (Sh M (vw H)) ds vs' ∧ PostK mg M H x Q E (F x ds)
def outI0 (x : Addr) : Option Sl → Res D
  | some (.ow (.sel x' c gs)) => if x' = x then .ok (.ins c gs) else .bad
  | _ => .bad
def outK (x : Addr) : SRes → Res D
  | .nx env => outI0 x env[0]?
  | .xc c fs _ => .exc c fs
  | _ => .bad
def envI (x : Addr) (c : Str) (m : Nat) (ds : List D) : Env := .ow (.sel x c []) :: env0 (m - 1) ds
def defK (c : Str) (m : Nat) (ψ : Env → SRes) (x : Addr) (ds : List D) : Res D := outK x (ψ (envI x c m ds))
theorem goodI {mg : Gm} {H : Hp} {M : Addr → Bool} {ds : List D} {vs : List V} {c y : Str} {N : List Str} {x C dx : Addr} (m : MOk M H) (r : RpL mg (Sh M (vw H)) ds vs) (hx : H x = none) (hdx : H dx = none) (ne : dx ≠ x) (hc : mg.mg c = some (.ref C)) :
    Good mg H M (addM M x) (upd (upd H dx (.own x)) x (.ins C dx [])) (L2.start (y :: N) (.ref x :: vs)) (envI x c (y :: N).length ds) := by
  have mx : M x = false := by
    cases q : M x with
    | false => rfl
    | true => obtain ⟨o, z⟩ := m.dom x q; rw [hx] at z; cases z
  have mdx : M dx = false := by
    cases q : M dx with
    | false => rfl
    | true => obtain ⟨o, z⟩ := m.dom dx q; rw [hdx] at z; cases z
  have e1 : Ext H (upd (upd H dx (.own x)) x (.ins C dx [])) := fun a o h => by
    rw [upd_ne (fun e => by rw [e, hx] at h; cases h), upd_ne (fun e => by rw [e, hdx] at h; cases h)]
    exact h
  have vx : VEx (Sh M (vw H)) (Sh (addM M x) (vw (upd (upd H dx (.own x)) x (.ins C dx [])))) := fun a u h => by
    obtain ⟨h1, h2⟩ := Sh_some h
    have hne : a ≠ x := fun e => by
      subst e
      have : H a = none := hx
      unfold vw at h2
      rw [this] at h2
      cases h2
    rw [Sh_of (by rw [addM_ne hne]; exact h1)]
    exact e1.v a u h2
  have g0 := good0 (N := N) m r
  have hst : L2.start (y :: N) (.ref x :: vs) = List.cons (some (V.ref x)) (L2.start N vs) := by
    unfold L2.start
    simp
  rw [hst]
  have hlen : (y :: N).length - 1 = N.length := rfl
  unfold envI
  rw [hlen]
  exact {
    len := by rw [List.length_cons, List.length_cons, g0.len]
    ok := {
      dom := fun a h => by
        by_cases e : a = x
        · subst e; exact ⟨_, upd_same⟩
        · rw [addM_ne e] at h
          obtain ⟨o, q⟩ := m.dom a h
          exact ⟨o, e1 a o q⟩
      tup := fun a xs h => by
        by_cases e : a = x
        · subst e; rw [upd_same]; exact fun z => nomatch z
        · rw [addM_ne e] at h
          rw [upd_ne e, upd_ne (fun z => by rw [z, mdx] at h; cases h)]
          exact m.tup a xs h
      xd := fun a xs h => by
        by_cases e : a = x
        · subst e; rw [upd_same]; exact fun z => nomatch z
        · rw [addM_ne e] at h
          rw [upd_ne e, upd_ne (fun z => by rw [z, mdx] at h; cases h)]
          exact m.xd a xs h }
    sub := fun a h => by
      by_cases e : a = x
      · subst e; exact addM_self
      · rw [addM_ne e]; exact h
    new := fun a h => by
      by_cases e : a = x
      · subst e; exact .inr hx
      · rw [addM_ne e] at h; exact .inl h
    ok0 := m
    ex := e1
    sl := fun i s h => by
      cases i with
      | zero =>
        cases h
        exact ⟨x, rfl, addM_self, mx, rfl, C, dx, [], hc, upd_same, rfl, .nil⟩
      | succ i =>
        rw [gs_] at h ⊢
        have z := g0.sl i s h
        cases s with
        | no => trivial
        | sh d => obtain ⟨v, q1, q2⟩ := z; exact ⟨v, q1, q2.mono vx⟩
        | ow d =>
          obtain ⟨p, _, q2, q3, _⟩ := z
          rw [q2] at q3; cases q3
    inj := fun i j p ne' h1 h2 h3 h4 => by
      have no : ∀ i : Nat, isOw (env0 N.length ds)[i]? = true → False := fun i h => by
        cases q : (env0 N.length ds)[i]? with
        | none => rw [q] at h; cases h
        | some s =>
          cases s with
          | ow d =>
            obtain ⟨p, _, q2, q3, _⟩ := g0.sl i _ q
            rw [q2] at q3; cases q3
          | _ => rw [q] at h; cases h
      cases i with
      | zero =>
        cases j with
        | zero => exact ne' rfl
        | succ j => exact no j h2
      | succ i => exact no i h1 }
structure InitOk (P : Program) (w : World) (K : PySem.W.Frag) (mg : Str → Option Value) (base : Heap) (c : Str) (k : Nat) (ps : List Str) (n : Nat) (F : Addr → List D → Res D) : Prop where
  ex : ∃ (C f : Addr) (fd : FuncData), mg c = some (.ref C) ∧ Mk K C f ∧ Binds K fd ps [] ∧ FnOk P w K mg base (L2N.CX P w) k f fd ps (spI ⟨P, w, K, mg⟩ c n F)
structure RawK (K : PySem.W.Frag) (mg : Str → Option Value) (c qual : Str) (st : Stmt) (ps : List Str) : Prop where
  ex : ∃ (C f : Addr) (fd : FuncData), mg c = some (.ref C) ∧ Mk K C f ∧ Fun K "__init__" qual st f fd ∧ Binds K fd ps []
section
variable {P : Program} {w : World} {K : PySem.W.Frag} {mg : Str → Option Value} {base : Heap} {c qual y : Str} {st : Stmt} {N ps : List Str} {k n : Nat} {ψ : Env → SRes} {F : Addr → List D → Res D}
theorem init_v (y : Str) (N : List Str) (ψ : Env → SRes) (R : RawK K mg c qual st ps) (S : FnScope (y :: N) ps (defScope st)) (hn : ps.length = n) (hF : F = defK c (y :: N).length ψ)
    (body : ∀ (f : Addr) (cdv : Value) (A : Around) (outer : List PySem.Env) (s : Shared) (H : Hp) (E : XK), Room k (A.deeper (PyProof.Rows.envOfC qual (defScope st) s.heap.objs.size f cdv)) →
      L2N.Takes (cxOf (L2N.CX P w) P w K mg base (y :: N) qual (defScope st) f cdv A outer s H E) (WB E) →
      PassesOwn (model P w) (A.deeper (PyProof.Rows.envOfC qual (defScope st) s.heap.objs.size f cdv)) (PyProof.Rows.envOfC qual (defScope st) s.heap.objs.size f cdv) (cxOf (L2N.CX P w) P w K mg base (y :: N) qual (defScope st) f cdv A outer s H E).xe →
      VB (cxOf (L2N.CX P w) P w K mg base (y :: N) qual (defScope st) f cdv A outer s H E) (WB E) (defBody st) ψ) :
    InitOk P w K mg base c (k + 1) ps n F := by
  subst hF
  obtain ⟨C0, f, fd, h1, h2, h3, h4⟩ := R.ex
  refine ⟨C0, f, fd, h1, h2, h4, fun_okN h3 S (fun vs H Q E h => ?_) fun cdv A outer s H1 vs Q E hr h => ?_⟩
  · obtain ⟨x, C, dx, vs', H, M, ds, rfl, hl, _⟩ := h
    rw [List.length_cons, hl, hn]
  · obtain ⟨x, C, dx, vs', H, M, ds, rfl, hl, hc, hx, hdx, ne, rfl, m, r, post⟩ := h
    obtain ⟨t, p, rr⟩ := body f cdv A outer s _ E hr (L2N.takes_of rfl rfl rfl rfl) (passes_of rfl)
    refine ⟨t, p, rr H M (addM M x) _ _ (envI x c (y :: N).length ds) _ (goodI m r hx hdx ne hc) ?_⟩
    have sub : ∀ {M' : Addr → Bool} {H' : Hp} {σ' : L2.St} {env : Env}, Good ⟨P, w, K, mg⟩ H M M' H' σ' env → VEx (Sh M' (vw H')) (Sh M (vw H')) := fun g a u hu => by
      obtain ⟨q1, q2⟩ := Sh_some hu
      rw [Sh_of]
      · exact q2
      · cases z : M a with
        | false => rfl
        | true => rw [g.sub a z] at q1; cases q1
    unfold defK at post
    cases q : ψ (envI x c (y :: N).length ds) with
    | rt d => rw [q] at post; exact post.elim
    | bk env => rw [q] at post; exact post.elim
    | ct env => rw [q] at post; exact post.elim
    | bad => rw [q] at post; exact post
    | ro d => rw [q] at post; exact post.elim
    | xc c' fs env =>
      rw [q] at post
      exact fun M' H' σ' cls dd g e r' => post cls dd H' g.ex (r'.mono (sub g))
    | nx env =>
      rw [q] at post
      intro M' H' σ' g e
      have post' : PostK ⟨P, w, K, mg⟩ M H x Q E (outI0 x env[0]?) := post
      unfold outI0 at post'
      split at post'
      · rename_i x' c' gs q0
        obtain ⟨p', hv', mp, m0, ep, C', dx', fs, y1, y2, y3, y4⟩ := g.sl 0 _ q0
        by_cases ex : x' = x
        · subst ex
          rw [if_pos rfl] at post'
          subst ep
          exact post' H' C' dx' fs y1 g.ex y2 y3 (y4.mono (sub g))
        · rw [if_neg ex] at post'
          exact post'.elim
      · exact post'.elim
end
def insOr : Res D → Res D
  | .ok (.ins c gs) => .ok (.ins c gs)
  | .exc c fs => .exc c fs
  | _ => .bad
open Classical in
noncomputable def mkF (F : Addr → List D → Res D) (ds : List D) : Res D := if ∀ x, F x ds = F 0 ds then insOr (F 0 ds) else .bad
theorem mkF_ok {F : Addr → List D → Res D} {ds : List D} {c : Str} {gs : List (Str × D)} (h : ∀ x, F x ds = .ok (.ins c gs)) : mkF F ds = .ok (.ins c gs) := by
  unfold mkF
  rw [if_pos (fun x => by rw [h, h]), h]; rfl
section
variable {X : Cx} {W : WX} {fl : Bool} {e : Expr} {es : List Expr} {p pos : Pos} {φs : Env → Res (List D)} {c : Str} {k n : Nat} {ps : List Str} {F : Addr → List D → Res D}
theorem ve_make (hI : InitOk X.prog X.w X.K X.mg X.base c k ps n F) (tk : L2N.Takes X W) (hr : Room (k + 1) X.A) (ha : VA X W true (e :: es) φs) (hl : ∀ env ds, φs env = .ok ds → ds.length + 1 = n) (hg : Gl X c := by rfl)
    (hdb : (c == ("__debug__" : Str)) = false := by decide) (h1 : starEach (e :: es) X.env = (false, eval e X.env) :: starEach es X.env := by rfl) (h2 : (backTo pos (starEach es X.env)).any (·.1) = false := by rfl) : VE X W fl (.Call (.Name c p) (e :: es) [] pos) (aE (mkF F) φs) := by
  obtain ⟨t, pt, r⟩ := ha
  obtain ⟨C, f, fd, x1, x2, x3, x4⟩ := hI.ex
  refine ⟨_, pe_mkS x2 x4 hr hg x1 x3 (fun σ => L2N.passAt tk σ) pt hdb h1 h2, fun H0 M0 M H σ env Q g h => ?_⟩
  have h0 : PostE X W fl M σ H Q ((φs env).bind (mkF F)) := h
  refine r H0 M0 M H σ env _ g ?_
  cases q : φs env with
  | ok ds =>
    rw [q] at h0
    intro vs H1 e1 r1 x dx hx hdx ne
    have g2 : PostE X W fl M σ H1 Q (mkF F ds) := PostE.mono h0 e1
    have hF : ∀ x, F x ds = F 0 ds := by
      unfold mkF at g2
      split at g2
      · assumption
      · exact g2.elim
    have g2 : PostE X W fl M σ H1 Q (insOr (F 0 ds)) := by
      unfold mkF at g2
      rw [if_pos hF] at g2
      exact g2
    have m1 := g.ok.mono e1
    have mx : M x = false := by
      cases q : M x with
      | false => rfl
      | true => obtain ⟨o, z⟩ := m1.dom x q; rw [hx] at z; cases z
    refine ⟨x, C, dx, vs, H1, M, ds, rfl, by rw [← r1.length]; exact hl env ds q, x1, hx, hdx, ne, rfl, m1, r1, ?_⟩
    rw [hF]
    cases z : F 0 ds with
    | bad => rw [z] at g2; exact g2
    | exc c' fs => rw [z] at g2; exact g2
    | ok d =>
      rw [z] at g2
      cases d with
      | ins c' gs =>
        intro H' C' dx' fs y1 y2 y3 y4 y5
        refine ⟨rfl, g2 _ H' y2 (Rp.mono (Sh_vis fl M _) (.ins (dx := dx') y1 ?_ y4 y5))⟩
        rw [Sh_of mx]
        exact vw_of y3 trivial
      | _ => exact g2.elim
  | exc c' fs => rw [q] at h0; exact h0
  | bad => rw [q] at h0; exact h0
end
end VL

set_option maxRecDepth 100000
set_option maxHeartbeats 2000000
set_option autoImplicit false
namespace VL
open PySem L2 PyProof.Rows
section
variable {prog : Program} {w : World} {A : Around} {E : Value → Shared → Prop} {s : Shared} {vl vu vs : Value} {sl t : Addr}
end
section
variable {X : Cx} {W : WX} {fl : Bool} {e : Expr} {te : TE} {j k : Nat} {p0 p1 p2 p3 pos : Pos} {φ : Env → Res VL.D}
theorem rpl_rev {mg : Gm} {G : Vw} : ∀ {ds : List VL.D} {vs : List V}, RpL mg G ds vs → RpL mg G ds.reverse vs.reverse
  | _, _, .nil => .nil
  | _, _, .cons r t => by
    rw [List.reverse_cons, List.reverse_cons]
    exact (rpl_rev t).append (.cons r .nil)
end
theorem Good.besideO {mg : Gm} {H0 H H' : Hp} {M0 M : Addr → Bool} {σ : L2.St} {env : Env} (g : Good mg H0 M0 M H σ env) {p : Addr} (hp : H p = none) (e : Ext H H') {o : HO} (nt : ∀ xs, o ≠ .tup xs) (nd : ∀ fs, o ≠ .xd fs) (hx : H' p = some o) : Good mg H0 M0 (addM M p) H' σ env where
  len := g.len
  ok := by
    have m := g.ok.mono e
    refine ⟨fun a h => ?_, fun a xs h z => ?_, fun a fs h z => ?_⟩
    · by_cases q : a = p
      · subst q; exact ⟨_, hx⟩
      · rw [addM_ne q] at h; exact m.dom a h
    · by_cases q : a = p
      · subst q; rw [hx] at z; cases z; exact nt xs rfl
      · rw [addM_ne q] at h; exact m.tup a xs h z
    · by_cases q : a = p
      · subst q; rw [hx] at z; cases z; exact nd fs rfl
      · rw [addM_ne q] at h; exact m.xd a fs h z
  sub := fun a h => by
    by_cases q : a = p
    · subst q; exact addM_self
    · rw [addM_ne q]; exact g.sub a h
  new := fun a h => by
    by_cases q : a = p
    · subst q; exact .inr (g.h0 hp)
    · rw [addM_ne q] at h; exact g.new a h
  ok0 := g.ok0
  ex := g.ex.trans e
  sl := fun j s h => (g.sl j s h).imp (sh_add e hp) fun a _ ha => ⟨by
    have : a ≠ p := fun z => by rw [z, (g.nm hp).1] at ha; cases ha
    rw [addM_ne this]; exact ha, fun o ho => e a o ho⟩
  inj := g.inj
theorem Good.turnO {mg : Gm} {H0 H : Hp} {M0 M : Addr → Bool} {σ : L2.St} {env : Env} (g : Good mg H0 M0 M H σ env) {p : Addr} {o : HO} (nt : ∀ xs, o ≠ .tup xs) (nd : ∀ fs, o ≠ .xd fs) (mp : M p = true) (h0 : H0 p = none) (hs : ∀ i : Nat, isOw env[i]? = true → σ[i]? ≠ some (some (V.ref p))) : Good mg H0 M0 M (upd H p o) σ env where
  len := g.len
  ok := by
    refine ⟨fun a h => ?_, fun a xs h z => ?_, fun a fs h z => ?_⟩
    · by_cases q : a = p
      · subst q; exact ⟨_, upd_same⟩
      · rw [upd_ne q]; exact g.ok.dom a h
    · by_cases q : a = p
      · subst q; rw [upd_same] at z; cases z; exact nt xs rfl
      · rw [upd_ne q] at z; exact g.ok.tup a xs h z
    · by_cases q : a = p
      · subst q; rw [upd_same] at z; cases z; exact nd fs rfl
      · rw [upd_ne q] at z; exact g.ok.xd a fs h z
  sub := g.sub
  new := g.new
  ok0 := g.ok0
  ex := g.ex.mut h0
  sl := fun j s h => by
    cases s with
    | no => trivial
    | sh d =>
      obtain ⟨x, e2, r2⟩ := g.sl j _ h
      exact ⟨x, e2, by rw [sh_mut mp]; exact r2⟩
    | ow d =>
      obtain ⟨a, e2, m2, m3, r2⟩ := g.sl j _ h
      have hne : a ≠ p := fun z => by subst z; exact hs j (by rw [h]; rfl) e2
      exact ⟨a, e2, m2, m3, r2.imp (by rw [sh_mut mp]; exact .refl _) fun o ho => by rw [upd_ne hne]; exact ho⟩
  inj := g.inj
def dcompL (γ : VL.D → Env → Option Env) (φk φv : Env → Res VL.D) (env : Env) : List VL.D → List (VL.D × VL.D) → Res VL.D
  | [], acc => .ok (.dic 0 acc)
  | d :: ds, acc => match γ d env with
    | none => .bad
    | some env1 => match φk env1 with
      | .ok k => (match φv env1 with
        | .ok v => if keyFit 0 k = true ∧ acc.length < sizeLine then dcompL γ φk φv env ds (setD acc k v) else .bad
        | _ => .bad)
      | _ => .bad
def dcE (vs : List Nat) (γ : VL.D → Env → Option Env) (ι : Env → Res (List VL.D)) (φk φv : Env → Res VL.D) (env : Env) : Res VL.D := (ι env).bind fun ds => dcompL γ φk φv (wipeE env vs) ds []
section
variable {X : Cx} {W : WX} {tg iter kx vx : Expr} {scope : Scope} {own : List (Str × Nat)} {pos : Pos} {ι : Env → Res (List VL.D)} {γ : VL.D → Env → Option Env} {φk φv : Env → Res VL.D}
theorem dc_read {wi : TI} (vs : List Nat) {H0 : Hp} {M0 M : Addr → Bool} {H : Hp} {σ : L2.St} {env : Env} {Q : VK} (ri : ∀ R : It → Hp → Prop, PostI X W H0 M σ H R (ι env) → wi σ H R) (g : Good (gm X) H0 M0 M H σ env) (h : PostN X W M σ H Q (dcE vs γ ι φk φv env)) :
    tDc wi (tGc (gm X) vs γ) (tVT (gm X) X W0 yesT) (tVE (gm X) X W0 true φk) (tVE (gm X) X W0 true φv) vs σ H Q := by
  refine ri _ ?_
  have h0 : PostN X W M σ H Q ((ι env).bind fun ds => dcompL γ φk φv (wipeE env vs) ds []) := h
  cases q : ι env with
  | bad => rw [q] at h0; exact h0
  | exc c fs => rw [q] at h0; exact h0
  | ok ds =>
    rw [q] at h0
    have h1 : PostN X W M σ H Q (dcompL γ φk φv (wipeE env vs) ds []) := h0
    clear h0 h
    intro J H1 e1 ok1 Dd hD
    have gw := (g.mono e1).wipe vs
    have hs0 : ∀ i : Nat, isOw (wipeE env vs)[i]? = true → (L2.wipe σ vs)[i]? ≠ some (some (V.ref Dd)) := fun i ho hr => by
      cases z : (wipeE env vs)[i]? with
      | none => rw [z] at ho; cases ho
      | some s =>
        rw [z] at ho
        cases s with
        | ow d =>
          obtain ⟨p, hp, mp, _⟩ := gw.sl i _ z
          rw [hr] at hp
          cases hp
          rw [(gw.nm hD).1] at mp; cases mp
        | no => cases ho
        | sh _ => cases ho
    refine ⟨fun i m Hc => m = ds.length - i ∧ ∃ (acc : List VL.D) (kvs : List (Key × V)) (accD : List (VL.D × VL.D)), Good (gm X) H0 M0 (addM M Dd) Hc (L2.wipe σ vs) (wipeE env vs) ∧ Hc Dd = some (.dK kvs) ∧ OwOk (gm X) (addM M Dd) Hc Dd (.dic 0 accD) ∧
      VEx (Sh M (vw H1)) (Sh (addM M Dd) (vw Hc)) ∧ Ext H1 Hc ∧ PostN X W M σ H Q (dcompL γ φk φv (wipeE env vs) (ds.drop i) accD), ⟨ds.length, rfl, [], [], [], gw.besideO hD (Ext.new hD) (o := .dK []) (fun _ z => nomatch z) (fun _ z => nomatch z) upd_same, upd_same, ⟨[], upd_same, rfl, .nil⟩, sh_add (Ext.new hD) hD, Ext.new hD, h1⟩, ?_⟩
    rintro i m Hc ⟨rfl, acc, kvs, accD, gc, hx, ow, ve, ex, hp⟩
    obtain ⟨o1, o2⟩ := ok1 _ Hc gc.ok gc.ex ve i
    cases qd : ds[i]? with
    | none =>
      have hi : ds.length ≤ i := List.getElem?_eq_none_iff.mp qd
      rw [List.drop_of_length_le hi] at hp
      exact .inl ⟨o1 hi, hp Dd Hc (e1.fresh hD) (e1.trans ex) ow⟩
    | some d =>
      obtain ⟨o3, o4⟩ := o2 d qd
      have hi : i < ds.length := (List.getElem?_eq_some_iff.mp qd).1
      have hdr : ds.drop i = d :: ds.drop (i + 1) := by
        rw [List.drop_eq_getElem_cons hi]
        rw [List.getElem?_eq_getElem hi] at qd
        cases qd; rfl
      rw [hdr] at hp
      unfold dcompL at hp
      refine .inr ⟨o3, fun Hc' => ∃ (acc : List VL.D) (kvs : List (Key × V)) (accD : List (VL.D × VL.D)), Good (gm X) H0 M0 (addM M Dd) Hc' (L2.wipe σ vs) (wipeE env vs) ∧ Hc' Dd = some (.dK kvs) ∧ OwOk (gm X) (addM M Dd) Hc' Dd (.dic 0 accD) ∧
        VEx (Sh M (vw H1)) (Sh (addM M Dd) (vw Hc')) ∧ Ext H1 Hc' ∧ PostN X W M σ H Q (dcompL γ φk φv (wipeE env vs) (ds.drop (i + 1)) accD), fun Hc' w => ⟨ds.length - (i + 1), by omega, rfl, w⟩, fun x H2 y => ?_⟩
      obtain ⟨ey, ry⟩ := o4 x H2 y
      cases qg : γ d (wipeE env vs) with
      | none => rw [qg] at hp; exact hp.elim
      | some env1 =>
        rw [qg] at hp
        refine ⟨H0, M0, addM M Dd, _, env1, d, gc.mono ey, ry, qg, fun σ2 g2 w2 => ⟨by rw [w2, wipe_wipe], ?_⟩⟩
        refine ⟨H0, M0, addM M Dd, env1, g2, ?_⟩
        intro H3 e3
        rw [if_pos rfl]
        have hp2 : PostN X W M σ H Q (match φk env1 with
          | .ok k => (match φv env1 with
            | .ok v => if keyFit 0 k = true ∧ accD.length < sizeLine then dcompL γ φk φv (wipeE env vs) (ds.drop (i + 1)) (setD accD k v) else .bad
            | _ => .bad)
          | _ => .bad) := hp
        refine ⟨H0, M0, addM M Dd, env1, g2.mono e3, ?_⟩
        cases qk : φk env1 with
        | bad => rw [qk] at hp2; exact hp2.elim
        | exc c fs => rw [qk] at hp2; exact hp2.elim
        | ok kD =>
          rw [qk] at hp2
          have hp3 : PostN X W M σ H Q (match φv env1 with
            | .ok v => if keyFit 0 kD = true ∧ accD.length < sizeLine then dcompL γ φk φv (wipeE env vs) (ds.drop (i + 1)) (setD accD kD v) else .bad
            | _ => .bad) := hp2
          intro y H4 e4 r4
          refine ⟨H0, M0, addM M Dd, env1, (g2.mono e3).mono e4, ?_⟩
          cases qv : φv env1 with
          | bad => rw [qv] at hp3; exact hp3.elim
          | exc c fs => rw [qv] at hp3; exact hp3.elim
          | ok vD =>
            rw [qv] at hp3
            have hp4 : PostN X W M σ H Q (if keyFit 0 kD = true ∧ accD.length < sizeLine then dcompL γ φk φv (wipeE env vs) (ds.drop (i + 1)) (setD accD kD vD) else .bad) := hp3
            intro z H5 e5 r5
            by_cases cz : keyFit 0 kD = true ∧ accD.length < sizeLine
            · rw [if_pos cz] at hp4
              obtain ⟨hf, hl⟩ := cz
              have e25 : Ext Hc H5 := ((ey.trans e3).trans e4).trans e5
              cases qq : keyOf kD with
              | none => rw [show keyFit 0 kD = (keyOf kD).isSome by cases kD <;> rfl, qq] at hf; cases hf
              | some key =>
                have ry' : y = kV key := rp_key (r4.mono (vis_le true _ _)) qq
                obtain ⟨kvs', h5, k5, v5⟩ := OwOk.mono e25 ow
                obtain ⟨s1, s2⟩ := set_rel (eqK_key qq) (keyD_of qq) (r5.mono (vis_mono (Ext.refl _).v)) k5 v5
                refine ⟨kvs', key, ry', h5, by rw [← map_len k5]; exact hl, [], _, setD accD kD vD, (gc.mono e25).turnO (fun _ z => nomatch z) (fun _ z => nomatch z) addM_self (g.h0 (e1.fresh hD)) hs0, upd_same, ⟨_, upd_same, s1, ?_⟩, ?_, ?_, hp4⟩
                · rw [sh_mut addM_self]; exact s2
                · rw [sh_mut addM_self]; exact ve.trans (Sh_mono e25.v)
                · exact (ex.trans e25).mut hD
            · rw [if_neg cz] at hp4; exact hp4.elim
theorem vf_dc (hc : X.calm = true) (hN : X.N.Nodup) (hi : VI X W tg iter ι) (ok : BlkOk X.N X.env.scope scope own)
    (hg : ∀ (s : Shared) (H : Hp) (C : Addr) (cl : List (Str × Addr)) (fp : List Addr), VGc (own.map (·.2)) (X.blk s H scope (compEnvC scope cl C X.env) fp) tg γ)
    (hk : ∀ (s : Shared) (H : Hp) (C : Addr) (cl : List (Str × Addr)) (fp : List Addr), VE (X.blk s H scope (compEnvC scope cl C X.env) fp) W0 true kx φk)
    (he : ∀ (s : Shared) (H : Hp) (C : Addr) (cl : List (Str × Addr)) (fp : List Addr), VE (X.blk s H scope (compEnvC scope cl C X.env) fp) W0 true vx φv)
    (hs : ∀ x, foldedSetIterable iter X.env x = pure x := by intro _; rfl) : VF X W (.DictComp kx vx [⟨tg, iter, [], 0⟩] scope pos) (dcE (own.map (·.2)) γ ι φk φv) := by
  obtain ⟨wi, pi, ri⟩ := hi
  obtain ⟨pg, pt, pe⟩ := lc_parts (ifs := []) (τ := yesT) hg (fun _ _ _ _ _ => vts_nil) he
  obtain ⟨_, _, pk⟩ := lc_parts (ifs := []) (τ := yesT) hg (fun _ _ _ _ _ => vts_nil) hk
  exact ⟨_, pe_dc hc hN pi ok pg pt pk pe hs, fun H0 M0 M H σ env Q g h => dc_read _ (fun R => ri H0 M0 M H σ env R g) g h⟩
end
section
variable {K : PySem.W.Frag} {C : Addr} {f : Str} {fs : List Str}
theorem fs_nil : ∀ f, ([] : List Str).contains f = true → NoAttr K C f := fun _ h => by cases h
theorem fs_cons (h : PySem.W.findIn K (.ref C) f = some none) (r : ∀ g, fs.contains g = true → NoAttr K C g) : ∀ g, (f :: fs).contains g = true → NoAttr K C g := fun g hg => by
  rw [List.contains_cons, Bool.or_eq_true] at hg
  rcases hg with e | hg
  · have : g = f := by simpa using e
    subst this
    exact h
  · exact r g hg
end
end VL

set_option maxRecDepth 100000
set_option maxHeartbeats 2000000
set_option autoImplicit false
namespace VL
open PySem L2
structure PropOk (P : Program) (w : World) (K : PySem.W.Frag) (mg : Str → Option Value) (base : Heap) (c f : Str) (k : Nat) (F : List D → Res D) : Prop where
  ex : ∃ (C p g : Addr) (fd : FuncData), mg c = some (.ref C) ∧ Cls K C ∧ PropOf K C f p g ∧ Binds K fd ["self"] [] ∧ FnOk P w K mg base (L2N.CX P w) k g fd ["self"] (spV ⟨P, w, K, mg⟩ 1 F)
structure RawP (K : PySem.W.Frag) (mg : Str → Option Value) (c f qual : Str) (st : Stmt) : Prop where
  ex : ∃ (C p g : Addr) (fd : FuncData), mg c = some (.ref C) ∧ Cls K C ∧ PropOf K C f p g ∧ Fun K f qual st g fd ∧ Binds K fd ["self"] []
section
variable {P : Program} {w : World} {K : PySem.W.Frag} {mg : Str → Option Value} {base : Heap} {c m qual : Str} {st : Stmt} {N : List Str} {k : Nat} {ψ : Env → SRes} {F : List D → Res D}
theorem prop_v (N : List Str) (ψ : Env → SRes) (R : RawP K mg c m qual st) (S : FnScope N ["self"] (defScope st)) (hF : F = defM N.length ψ)
    (body : ∀ (f : Addr) (cdv : Value) (A : Around) (outer : List PySem.Env) (s : Shared) (H : Hp) (E : XK), Room k (A.deeper (PyProof.Rows.envOfC qual (defScope st) s.heap.objs.size f cdv)) →
      L2N.Takes (cxOf (L2N.CX P w) P w K mg base N qual (defScope st) f cdv A outer s H E) (WB E) →
      PassesOwn (model P w) (A.deeper (PyProof.Rows.envOfC qual (defScope st) s.heap.objs.size f cdv)) (PyProof.Rows.envOfC qual (defScope st) s.heap.objs.size f cdv) (cxOf (L2N.CX P w) P w K mg base N qual (defScope st) f cdv A outer s H E).xe →
      VB (cxOf (L2N.CX P w) P w K mg base N qual (defScope st) f cdv A outer s H E) (WB E) (defBody st) ψ) :
    PropOk P w K mg base c m (k + 1) F := by
  subst hF
  obtain ⟨C, p, g, fd, h1, h2, h3, h4, h5⟩ := R.ex
  exact ⟨C, p, g, fd, h1, h2, h3, h5, fn_v h4 S rfl (body g)⟩
end
def isCls (c : Str) : D → Bool
  | .ins c' _ => decide (c' = c)
  | _ => false
def propE (c : Str) (F : List D → Res D) (φ : Env → Res D) (env : Env) : Res D := (φ env).bind fun d => if isCls c d = true then (match F [d] with | .ok r => .ok r | _ => .bad) else .bad
section
variable {X : Cx} {W : WX} {fl : Bool} {e : Expr} {pos : Pos} {φ : Env → Res D} {c f : Str} {k : Nat} {F : List D → Res D}
theorem ve_prop (hP : PropOk X.prog X.w X.K X.mg X.base c f k F) (hr : Room (k + 1) X.A) (he : VE X W true e φ) (hb : attributeBase e f X.env (eval e X.env) = eval e X.env := by rfl) : VE X W fl (.Attribute e f pos) (propE c F φ) := by
  obtain ⟨t, pt, r⟩ := he
  obtain ⟨C, p, g, fd, x1, x2, x3, x4, x5⟩ := hP.ex
  refine ⟨_, pe_prop (E := fun _ _ _ => False) pt x2 x3 x5 hr x4 .nil (L2N.passes_call (W := fun _ _ _ _ => False) tkW0 fun _ _ _ _ h => h) hb, fun H0 M0 M H σ env Q g h => ?_⟩
  refine r H0 M0 M H σ env _ g (PostE.seq h fun d v H1 e1 r1 h1 => ?_)
  obtain ⟨hi, h2⟩ := PostE.ite h1
  cases d with
  | ins c' gs =>
    have ec : c' = c := of_decide_eq_true hi
    subst ec
    obtain ⟨a, C', dx, vs, rfl, z1, z2, z3, z4⟩ := ins_of rfl r1
    have z1' : X.mg c' = some (.ref C') := z1
    rw [x1] at z1'
    cases z1'
    refine ⟨a, dx, vs, rfl, vw_ins (Sh_some z2).2, rfl, M, [.ins c' gs], g.ok.mono e1, .cons r1 .nil, ?_⟩
    cases q : F [.ins c' gs] with
    | ok d => rw [q] at h2; exact fun v H2 e2 r2 => h2 v H2 e2 (r2.mono (Sh_vis fl M _))
    | exc c fs => rw [q] at h2; exact h2.elim
    | bad => rw [q] at h2; exact h2.elim
  | _ => cases hi
def fldLE (c f : Str) (i : Nat) (env : Env) : Res D := match env[i]? with
  | some (.sh d) => fldI c f d
  | _ => .bad
theorem vd_fld (i : Nat) {x : Str} {fs : List Str} {px : Pos} (hC : ClsOk X.K X.mg c fs) (hf : fs.contains f = true := by decide) (hN : X.N[i]? = some x := by rfl) (hv : Vis X.env.scope x := by first | exact Or.inl rfl | exact Or.inr (Or.inl rfl) | exact Or.inr (Or.inr rfl)) (hd : (x == ("__debug__" : Str)) = false := by decide)
    (hcd : (x == ("__classdict__" : Str)) = false := by decide) (hb : attributeBase (.Name x px) f X.env (eval (.Name x px) X.env) = eval (.Name x px) X.env := by rfl) : VD X (.Attribute (.Name x px) f pos) (fldLE c f i) := by
  obtain ⟨C, hm, hc, hn⟩ := hC.ex
  refine ⟨_, pe_fld (pe_var hN hv hd hcd) hb, fun H0 M0 M H σ env d g h hi => ?_⟩
  unfold fldLE at h
  split at h
  · rename_i d0 q
    obtain ⟨x, e, r⟩ := g.sl i _ q
    cases d0 with
    | ins c' gs =>
      have h' : (if c' = c then (match gs.lookup f with | some d => Res.ok d | none => .bad) else .bad) = .ok d := h
      by_cases ec : c' = c
      · subst ec
        rw [if_pos rfl] at h'
        cases z : gs.lookup f with
        | none => rw [z] at h'; cases h'
        | some d2 =>
          rw [z] at h'
          cases h'
          obtain ⟨a, C', dx, vs, rfl, z1, z2, z3, z4⟩ := ins_of rfl r
          have z1' : X.mg c' = some (.ref C') := z1
          rw [hm] at z1'
          cases z1'
          obtain ⟨v, q1, rv⟩ := fld_rel z3 z4 z
          have : ∃ b, v = .ref b := by cases rv <;> first | exact ⟨_, rfl⟩ | cases hi
          obtain ⟨b, rfl⟩ := this
          refine ⟨b, rv, fun H1 Q ev k => ⟨_, e, a, C, dx, vs, .ref b, rfl, vw_ins ?_, hc, hn f hf, q1, k⟩⟩
          rw [ev]
          exact (Sh_some z2).2
      · rw [if_neg ec] at h'; cases h'
    | _ => cases h
  · cases h
end
def dcDE (vs : List Nat) (γ : D → Env → Option Env) (κ : Env → Res D) (φk φv : Env → Res D) (env : Env) : Res D := match (κ env).bind keysD with
  | .ok ds => dcE vs γ (fun _ => .ok ds) φk φv env
  | _ => .bad
theorem dcompL_not {γ : D → Env → Option Env} {φk φv : Env → Res D} {env : Env} {c : Str} {fs : List (Str × D)} : ∀ (ds : List D) (acc : List (D × D)), dcompL γ φk φv env ds acc ≠ .exc c fs
  | [], acc, h => by cases h
  | d :: ds, acc, h => by
    unfold dcompL at h
    cases q : γ d env with
    | none => rw [q] at h; cases h
    | some e1 =>
      rw [q] at h
      have h1 : (match φk e1 with
        | .ok k => (match φv e1 with
          | .ok v => if keyFit 0 k = true ∧ acc.length < sizeLine then dcompL γ φk φv env ds (setD acc k v) else .bad
          | _ => .bad)
        | _ => .bad) = Res.exc c fs := h
      cases qk : φk e1 with
      | bad => rw [qk] at h1; cases h1
      | exc _ _ => rw [qk] at h1; cases h1
      | ok k =>
        rw [qk] at h1
        have h2 : (match φv e1 with
          | .ok v => if keyFit 0 k = true ∧ acc.length < sizeLine then dcompL γ φk φv env ds (setD acc k v) else .bad
          | _ => .bad) = Res.exc c fs := h1
        cases qv : φv e1 with
        | bad => rw [qv] at h2; cases h2
        | exc _ _ => rw [qv] at h2; cases h2
        | ok v =>
          rw [qv] at h2
          have h3 : (if keyFit 0 k = true ∧ acc.length < sizeLine then dcompL γ φk φv env ds (setD acc k v) else .bad) = Res.exc c fs := h2
          by_cases hl : keyFit 0 k = true ∧ acc.length < sizeLine
          · rw [if_pos hl] at h3; exact dcompL_not ds _ h3
          · rw [if_neg hl] at h3; cases h3
section
variable {X : Cx} {W : WX} {tg iter kx vx : Expr} {scope : Scope} {own : List (Str × Nat)} {pos : Pos} {γ : D → Env → Option Env} {φk φv κ : Env → Res D}
theorem vf_dcD (hc : X.calm = true) (hN : X.N.Nodup) (hd : VD X iter κ) (ok : BlkOk X.N X.env.scope scope own)
    (hg : ∀ (s : Shared) (H : Hp) (C : Addr) (cl : List (Str × Addr)) (fp : List Addr), VGc (own.map (·.2)) (X.blk s H scope (compEnvC scope cl C X.env) fp) tg γ)
    (hk : ∀ (s : Shared) (H : Hp) (C : Addr) (cl : List (Str × Addr)) (fp : List Addr), VE (X.blk s H scope (compEnvC scope cl C X.env) fp) W0 true kx φk)
    (he : ∀ (s : Shared) (H : Hp) (C : Addr) (cl : List (Str × Addr)) (fp : List Addr), VE (X.blk s H scope (compEnvC scope cl C X.env) fp) W0 true vx φv)
    (hs : ∀ y, foldedSetIterable iter X.env y = pure y := by intro _; rfl) : VF X W (.DictComp kx vx [⟨tg, iter, [], 0⟩] scope pos) (dcDE (own.map (·.2)) γ κ φk φv) := by
  obtain ⟨pg, pt, pe⟩ := lc_parts (ifs := []) (τ := yesT) hg (fun _ _ _ _ _ => vts_nil) he
  obtain ⟨_, _, pk⟩ := lc_parts (ifs := []) (τ := yesT) hg (fun _ _ _ _ _ => vts_nil) hk
  obtain ⟨td, pd, rd⟩ := hd
  have core := pe_dc (pos := pos) hc hN (pi_keys (tg := tg) pd) ok pg pt pk pe hs
  refine ⟨_, pe_or (pe_lock core) core, fun H0 M0 M H σ env Q g h => ?_⟩
  unfold dcDE at h
  cases q : κ env with
  | bad => rw [q] at h; exact h.elim
  | exc c fs => rw [q] at h; exact h.elim
  | ok d =>
    rw [q] at h
    have hi : isD01 d = true := by
      cases d with
      | dic t es =>
        match t, h with
        | 0, _ => rfl
        | 1, _ => rfl
        | (_ + 2), h => exact h.elim
      | _ => exact h.elim
    obtain ⟨a, ra, run⟩ := rd H0 M0 M H σ env d g q hi
    obtain ⟨u, ks, hu, hv, hm, hk, okk⟩ : ∃ (u : HO) (ks : List VL.D), lockO u = true ∧ (H a = some u ∨ ∃ o, H a = some (.frz o u)) ∧ M a = false ∧ keysD d = .ok ks ∧
        ∀ (o : Obj) (H0' H1 : Hp), H0' a = some (.frz o u) → (∃ kvs, u = .dK kvs ∧ ItOk (gm X) H0' M H1 (Itk a o kvs) ks) ∨ ∃ kvs, u = .dT kvs ∧ ItOk (gm X) H0' M H1 (Itkt a o kvs) ks := by
      have two : (∃ es, d = .dic 0 es) ∨ ∃ es, d = .dic 1 es := by
        cases d with
        | dic t es =>
          match t, hi with
          | 0, _ => exact .inl ⟨es, rfl⟩
          | 1, _ => exact .inr ⟨es, rfl⟩
        | _ => cases hi
      rcases two with ⟨es, rfl⟩ | ⟨es, rfl⟩
      · cases ra with
        | @dicK _ kvs _ ha e r =>
          obtain ⟨hm, hv⟩ := Sh_some ha
          exact ⟨.dK kvs, _, rfl, vw_dK hv, hm, rfl, fun o H0' H1 z0 => .inl ⟨kvs, rfl, itOk_keys z0 e⟩⟩
      · cases ra with
        | @dicT _ kvs _ ha e r =>
          obtain ⟨hm, hv⟩ := Sh_some ha
          exact ⟨.dT kvs, _, rfl, vw_dT hv, hm, rfl, fun o H0' H1 z0 => .inr ⟨kvs, rfl, itOk_keysT z0 e⟩⟩
    have h1 : PostN X W M σ H Q (dcE (own.map (·.2)) γ (fun _ => .ok ks) φk φv env) := by
      rw [show (Res.ok d).bind keysD = .ok ks from hk] at h
      exact h
    have keys : ∀ (o : Obj) (H0' H1 : Hp), H0' a = some (.frz o u) → H1 a = some (.frz o u) → vw H1 = vw H → ∀ R : It → Hp → Prop, PostI X W H0' M σ H1 R (.ok ks) → iKeys td σ H1 R := fun o H0' H1 z0 z1 ev R hR => by
      refine run H1 _ ev ⟨a, o, rfl, ?_⟩
      rcases okk o H0' H1 z0 with ⟨kvs, rfl, okJ⟩ | ⟨kvs, rfl, okJ⟩
      · exact .inl ⟨kvs, z1, hR _ H1 (Ext.refl _) okJ⟩
      · exact .inr ⟨kvs, z1, hR _ H1 (Ext.refl _) okJ⟩
    rcases hv with hv | ⟨o, hv⟩
    · refine .inl ⟨a, u, hv, ?_, fun od => ?_⟩
      · cases u <;> first | trivial | cases hu
      have gl := good_lockS (o := od) g hm hv hu
      refine dc_read (X := X) (W := W) (wi := iKeys td) (ι := fun _ => .ok ks) (own.map fun z : Str × Nat => z.2) (keys od _ _ upd_same upd_same (vw_lock hv hu)) gl ?_
      cases z : dcE (own.map (·.2)) γ (fun _ => .ok ks) φk φv env with
      | bad => rw [z] at h1; exact h1
      | exc c fs => exact absurd z (dcompL_not _ _)
      | ok d2 =>
        rw [z] at h1
        intro p' H' hp e' o2
        have hne : p' ≠ a := fun y => by rw [y, upd_same] at hp; cases hp
        have hd := e' a _ upd_same
        refine ⟨hd, h1 p' _ (by rw [upd_ne hne] at hp; exact hp) (fun b w hb => ?_) (o2.imp (by rw [vw_unlock hd hu]; exact .refl _) fun w hw => by rw [upd_ne hne]; exact hw)⟩
        by_cases e : b = a
        · subst e; rw [upd_same]; rw [hv] at hb; exact hb
        · rw [upd_ne e]; exact e' b w (by rw [upd_ne e]; exact hb)
    · refine .inr ?_
      exact dc_read (X := X) (W := W) (wi := iKeys td) (ι := fun _ => .ok ks) (own.map fun z : Str × Nat => z.2) (keys o (upd H0 a (.frz o u)) H upd_same hv rfl) (good_up g hm hv) h1
end
end VL

set_option maxRecDepth 100000
set_option maxHeartbeats 2000000
set_option autoImplicit false
namespace VL
open PySem PySem.W PyProof.Rows
section
variable {prog : Program} {w : World} {K : Type} [DecidableEq K] {knd : HeapKind prog w K} {A : Around} {E : Value → Shared → Prop} {s : Shared}
inductive HitsH (prog : Program) (w : World) (A : Around) (s : Shared) (kb : List (K × Addr × Value)) : List (K × Addr × Value) → Bool → Prop
  | nil : HitsH prog w A s kb [] true
  | miss {k : K} {p : Addr × Value} {r : List (K × Addr × Value)} : atKey kb k = none → HitsH prog w A s kb ((k, p) :: r) false
  | hit {k : K} {p y : Addr × Value} {r : List (K × Addr × Value)} {e b : Bool} : atKey kb k = some y → SeqAt.EqP prog w A s p.2 y.2 e → HitsH prog w A s kb r b → HitsH prog w A s kb ((k, p) :: r) (e && b)
theorem at_none {kb : List (K × Addr × Value)} {k : K} (h : ∀ (j : Nat) (p : Addr × Value), kb[j]? ≠ some (k, p)) : atKey kb k = none := by
  unfold atKey
  rw [Option.map_eq_none_iff, List.find?_eq_none]
  intro x hx e
  obtain ⟨j, hj⟩ := List.getElem?_of_mem hx
  obtain ⟨k', p⟩ := x
  have : k' = k := of_decide_eq_true e
  subst this
  exact h j p hj
theorem at_some : ∀ {kb : List (K × Addr × Value)} {k : K} {j : Nat} {p : Addr × Value}, (kb.map (·.1)).Nodup → kb[j]? = some (k, p) → atKey kb k = some p
  | [], k, j, p, _, h => by cases h
  | x :: kb, k, j, p, n, h => by
    obtain ⟨n1, n2⟩ := List.nodup_cons.mp (show (x.1 :: kb.map (·.1)).Nodup from n)
    unfold atKey
    cases j with
    | zero =>
      cases h
      rw [List.find?_cons_of_pos (by exact decide_eq_true rfl)]; rfl
    | succ j =>
      have hm : (k, p) ∈ kb := List.mem_of_getElem? h
      have hne : ¬ x.1 = k := fun e => n1 (by rw [e]; exact List.mem_map_of_mem (f := (·.1)) hm)
      rw [List.find?_cons_of_neg (by simp [hne])]
      exact at_some n2 h
theorem same_heap {nm : String} {a b : Addr} {ka kb : List (K × Addr × Value)} {r : Bool} {Q : Bool → Shared → Prop} (hu : knd.room A) (ha : (a == sysModules) = false) (hb : (b == sysModules) = false)
    (da : s.heap.DictOfH knd a ka) (db : s.heap.DictOfH knd b kb) (hits : ka.length = kb.length → HitsH prog w A s kb ka r) (h : Q (ka.length == kb.length && r) s) : wpAny (model prog w) A (Builtin.Dict.samePairs nm a b) Q E s := by
  obtain ⟨o1, e1, p1, g1, _, d1, l1, i1, n1⟩ := da
  obtain ⟨o2, e2, p2, g2, _, d2, l2, i2, n2⟩ := db
  have s1 : e1.size = ka.length := size_of_entries l1
  have s2 : e2.size = kb.length := size_of_entries l2
  unfold Builtin.Dict.samePairs Builtin.Dict.showsAll
  rw [if_neg (by rw [ha]; exact Bool.false_ne_true), if_neg (by rw [hb]; exact Bool.false_ne_true)]
  refine wpAny_bind (wpAny_pure (wpAny_bind (wpAny_pure ?_)))
  refine wpAny_bind (wpAny_dictEntries g1 d1 ?_)
  dsimp only
  refine wpAny_bind (wpAny_dictEntries g2 d2 ?_)
  by_cases hz : e1.size = e2.size
  case neg =>
    have hf : (ka.length == kb.length) = false := by rw [← s1, ← s2]; simpa using hz
    rw [hf, Bool.false_and] at h
    rw [if_pos (by simpa using hz)]
    exact wpAny_bind (wpAny_rule (wpAny_pure h))
  case pos =>
    have hl : ka.length = kb.length := by rw [← s1, ← s2]; exact hz
    have hQ : Q r s := by
      rw [show (ka.length == kb.length) = true by simpa using hl, Bool.true_and] at h
      exact h
    rw [if_neg (by rw [hz]; simp)]
    refine wpAny_bind (wpAny_dictEpoch g1 d1 (wpAny_bind ?_))
    rw [Std.Legacy.Range.forIn_eq_forIn_range']
    simp only [Std.Legacy.Range.size, Nat.sub_zero, Nat.add_sub_cancel, Nat.div_one]
    refine wpAny_forIn_list _ (fun rest q s' => s' = s ∧ q = (none, ()) ∧
      ∃ i, rest = List.range' i (e1.size - i) ∧ i ≤ e1.size ∧ HitsH prog w A s kb (ka.drop i) r) _ ?_ ?_ _ _ ⟨rfl, rfl, 0, by simp, Nat.zero_le _, hits hl⟩
    · rintro x rest q s' ⟨rfl, rfl, i, hr, hi, hp⟩
      have lt : i < e1.size := by
        rcases Nat.lt_or_ge i e1.size with y | y
        · exact y
        · rw [Nat.sub_eq_zero_of_le y] at hr; cases hr
      obtain ⟨rfl, hrest⟩ : x = i ∧ rest = List.range' (i + 1) (e1.size - (i + 1)) := by
        rw [show e1.size - i = (e1.size - (i + 1)) + 1 by omega, List.range'_succ] at hr
        exact ⟨(List.cons.inj hr).1, (List.cons.inj hr).2⟩
      have lt2 : x < ka.length := by rw [← s1]; exact lt
      have gk : ka[x]? = some ka[x] := List.getElem?_eq_getElem lt2
      have hdrop : ka.drop x = ka[x] :: ka.drop (x + 1) := List.drop_eq_getElem_cons lt2
      generalize ka[x] = kx at gk hdrop
      obtain ⟨k, p⟩ := kx
      have ge : e1[x]? = some (entryOfKey knd (k, p)) := by rw [entry_at l1, gk]; rfl
      have hk := i1 _ (List.mem_of_getElem? gk)
      rw [hdrop] at hp
      refine wpAny_bind (wpAny_dictEntries g1 d1 ?_)
      rw [ge]
      show wpAny _ _ (holding [Value.ref p.1, p.2] _ >>= _) _ _ _
      refine wpAny_bind (wpAny_holding (wpAny_bind ?_))
      refine wpAny_dictFind_heap hu hk g2 d2 l2 i2 n2 (fun hn => ?_) (fun j y hj => ?_)
      · have hn' := at_none hn
        cases hp with
        | miss _ =>
          refine wpAny_pure ?_
          show wpAny _ _ (if (!false) = true then _ else _) _ _ _
          rw [if_pos (by decide)]
          exact wpAny_pure (wpAny_pure hQ)
        | hit hy _ _ => rw [hn'] at hy; cases hy
      · have hy' := at_some n2 hj
        have gj : e2[j]? = some (entryOfKey knd (k, y)) := by rw [entry_at l2, hj]; rfl
        refine wpAny_bind (wpAny_dictEntries g2 d2 ?_)
        rw [gj]
        cases hp with
        | miss hn => rw [hn] at hy'; cases hy'
        | @hit _ _ y' _ e b' hy he hr2 =>
          rw [hy'] at hy
          cases hy
          refine wpAny_holding (he _ _ ?_)
          cases e with
          | false =>
            rw [Bool.false_and] at hQ
            show wpAny _ _ (if (!false) = true then _ else _) _ _ _
            rw [if_pos (by decide)]
            exact wpAny_pure (wpAny_pure hQ)
          | true =>
            show wpAny _ _ (if (!true) = true then _ else _) _ _ _
            rw [if_neg (by decide)]
            refine wpAny_bind (wpAny_dictEpoch g1 d1 ?_)
            rw [if_neg (by simp)]
            refine wpAny_pure ⟨rfl, rfl, x + 1, hrest, lt, ?_⟩
            rw [Bool.true_and]
            exact hr2
    · rintro q s' ⟨rfl, rfl, i, hr, hi, hp⟩
      have hin : i = e1.size := by
        rcases Nat.lt_or_ge i e1.size with y | y
        · rw [show e1.size - i = (e1.size - (i + 1)) + 1 by omega, List.range'_succ] at hr; cases hr
        · exact Nat.le_antisymm hi y
      refine wpAny_pure ?_
      rw [hin, s1, List.drop_length] at hp
      cases hp
      exact hQ
end
end VL

set_option maxRecDepth 100000
set_option maxHeartbeats 2000000
set_option autoImplicit false
namespace VL
open PySem L2 PyProof.Rows
def intsV {κ : Type} (ks : List (κ × V)) : Prop := ∀ p ∈ ks, ∃ i, p.2 = V.int i
def sameV {κ : Type} [DecidableEq κ] (ks ls : List (κ × V)) : Bool := ks.all fun p => match p.2, valV ls p.1 with
  | .int i, some (.int j) => decide (i = j)
  | _, _ => false
theorem val_mem {κ : Type} [DecidableEq κ] {k : κ} {v : V} : ∀ {ls : List (κ × V)}, valV ls k = some v → ∃ p ∈ ls, p.2 = v
  | [], h => by cases h
  | p :: ls, h => by
    by_cases c : p.1 = k
    · rw [valV_pos c] at h
      cases h
      exact ⟨p, List.mem_cons_self .., rfl⟩
    · rw [valV_neg c] at h
      obtain ⟨q, hq, e⟩ := val_mem h
      exact ⟨q, List.mem_cons_of_mem _ hq, e⟩
section
variable {P : Program} {w : World} {A : Around} {s : Shared} {H : Hp}
theorem eqp_int {i j : Int} {v u : Value} (r1 : RelV (.int i) v) (r2 : RelV (.int j) u) : SeqAt.EqP P w A s v u (decide (i = j)) := by
  obtain ⟨t, rfl⟩ := r1
  obtain ⟨t', rfl⟩ := r2
  intro E Q h
  exact SeqAt.EqAt.int_int i t j t' _ _ _ _ h
theorem hits_T {ls : List (List Key × V)} {ys : List (List Key × Addr × Value)} (rb : KT H ls ys) (hb : intsV ls) : ∀ {ks : List (List Key × V)} {xs : List (List Key × Addr × Value)}, KT H ks xs → intsV ks → HitsH P w A s ys xs (sameV ks ls)
  | [], [], _, _ => .nil
  | p :: ks, x :: xs, r, ha => by
    cases r with
    | cons h t =>
      obtain ⟨k, q, v⟩ := x
      obtain ⟨e1, _, rv⟩ := h
      have e1 : p.1 = k := e1
      obtain ⟨i, hi⟩ := ha p (List.mem_cons_self ..)
      have ih := hits_T rb hb t fun z hz => ha z (List.mem_cons_of_mem _ hz)
      have es : sameV (p :: ks) ls = ((match p.2, valV ls p.1 with
        | .int i, some (.int j) => decide (i = j)
        | _, _ => false) && sameV ks ls) := rfl
      have rr := rb.val p.1
      rw [es, hi]
      cases z : valV ls p.1 with
      | none =>
        rw [z] at rr
        have hn : (atKey ys p.1).map (·.2) = none := RelO.none_of rr
        refine .miss ?_
        rw [← e1]
        exact Option.map_eq_none_iff.mp hn
      | some u =>
        obtain ⟨p', hp', eu⟩ := val_mem z
        obtain ⟨j, hj⟩ := hb p' hp'
        have hu : u = .int j := eu.symm.trans hj
        subst hu
        rw [z] at rr
        obtain ⟨y, hy, ry⟩ := RelO.some_of rr
        obtain ⟨y2, h3, h4⟩ := Option.map_eq_some_iff.mp hy
        rw [hi] at rv
        refine .hit (by rw [← e1]; exact h3) ?_ ih
        rw [h4]
        exact eqp_int rv ry
end
section
variable {X : Cx}
end
section
variable {prog : Program} {w : World} {K : Type} [DecidableEq K] {A : Around} {E : Value → Shared → Prop} {s : Shared}
open PySem.W in
theorem rc_heap_ne {knd : HeapKind prog w K} {a b : Addr} {ka kb : List (K × Addr × Value)} {r : Bool} (hr : knd.room A.in1) (ha : (a == sysModules) = false) (hb : (b == sysModules) = false) (da : s.heap.DictOfH knd a ka) (db : s.heap.DictOfH knd b kb) (hu : A.units < cLine)
    (hits : ka.length = kb.length → HitsH prog w A.in1 s kb ka r) (E Q : Value → Shared → Prop) (h : Q (.bool (!(ka.length == kb.length && r))) s) : wpAny (model prog w) A (richCompare .NotEq (.ref a) (.ref b)) Q E s := by
  refine wpAny_richCompare_same_room (op := .NotEq) da.typeIs db.typeIs PySem.F.slot_dict_ne
    (wpAny_call_entry PySem.F.slot_dict_ne da.typeIs PySem.F.entry_dict_ne ?_ (PySem.F.args_dict_ne_2 _ _)) hu
  show wpAny _ _ (Builtin.Dict.dictSlotArgs "__ne__" ⟨[.ref a, .ref b], []⟩ >>= _) _ _ s
  refine wpAny_bind ?_
  unfold Builtin.Dict.dictSlotArgs
  refine wpAny_bind (wpAny_notOrdered_dict da.typeIs ?_)
  show wpAny _ _ (pure (Value.ref a, Value.ref b)) _ _ s
  refine wpAny_pure (wpAny_bind (wpAny_isInstance (T := "dict") db.typeIs PySem.F.sub_dict_dict ?_))
  simp only [Bool.not_true, Bool.false_eq_true, if_false]
  refine wpAny_bind (wpAny_pure (wpAny_bind (wpAny_pure ?_)))
  refine wpAny_bind (same_heap hr ha hb da db hits ?_)
  exact wpAny_pure ⟨_, rfl, (fun x => nomatch x), by simpa using h⟩
open PySem.W in
theorem rc_keys_ne {knd : KeyKind prog w K} {a b : Addr} {ka kb : List (K × Value)} {r : Bool} (ha : (a == sysModules) = false) (hb : (b == sysModules) = false) (da : s.heap.DictOf knd a ka) (db : s.heap.DictOf knd b kb) (hu : A.units < cLine)
    (hits : ka.length = kb.length → PySem.W.KeqHitsP prog w A.in1 s kb ka r) (E Q : Value → Shared → Prop) (h : Q (.bool (!(ka.length == kb.length && r))) s) : wpAny (model prog w) A (richCompare .NotEq (.ref a) (.ref b)) Q E s := by
  refine wpAny_richCompare_same_room (op := .NotEq) da.typeIs db.typeIs PySem.F.slot_dict_ne
    (wpAny_call_entry PySem.F.slot_dict_ne da.typeIs PySem.F.entry_dict_ne ?_ (PySem.F.args_dict_ne_2 _ _)) hu
  show wpAny _ _ (Builtin.Dict.dictSlotArgs "__ne__" ⟨[.ref a, .ref b], []⟩ >>= _) _ _ s
  refine wpAny_bind ?_
  unfold Builtin.Dict.dictSlotArgs
  refine wpAny_bind (wpAny_notOrdered_dict da.typeIs ?_)
  show wpAny _ _ (pure (Value.ref a, Value.ref b)) _ _ s
  refine wpAny_pure (wpAny_bind (wpAny_isInstance (T := "dict") db.typeIs PySem.F.sub_dict_dict ?_))
  simp only [Bool.not_true, Bool.false_eq_true, if_false]
  refine wpAny_bind (wpAny_pure (wpAny_bind (wpAny_pure ?_)))
  refine wpAny_bind (PySem.W.samePairsP ha hb da db hits ?_)
  exact wpAny_pure ⟨_, rfl, (fun x => nomatch x), by simpa using h⟩
end
section
variable {P : Program} {w : World} {A : Around} {s : Shared} {H : Hp}
theorem hits_K {ls : List (Key × V)} {ys : List (Key × Value)} (rb : KV ls ys) (hb : intsV ls) : ∀ {ks : List (Key × V)} {xs : List (Key × Value)}, KV ks xs → intsV ks → PySem.W.KeqHitsP P w A s ys xs (sameV ks ls)
  | [], [], _, _ => .nil
  | p :: ks, x :: xs, r, ha => by
    cases r with
    | cons h t =>
      obtain ⟨k, v⟩ := x
      obtain ⟨e1, rv⟩ := h
      have e1 : p.1 = k := e1
      obtain ⟨i, hi⟩ := ha p (List.mem_cons_self ..)
      have ih := hits_K rb hb t fun z hz => ha z (List.mem_cons_of_mem _ hz)
      have es : sameV (p :: ks) ls = ((match p.2, valV ls p.1 with
        | .int i, some (.int j) => decide (i = j)
        | _, _ => false) && sameV ks ls) := rfl
      have rr := rb.val p.1
      rw [es, hi]
      cases z : valV ls p.1 with
      | none =>
        rw [z] at rr
        refine .miss ?_
        rw [← e1]
        exact RelO.none_of rr
      | some u =>
        obtain ⟨p', hp', eu⟩ := val_mem z
        obtain ⟨j, hj⟩ := hb p' hp'
        have hu : u = .int j := eu.symm.trans hj
        subst hu
        rw [z] at rr
        obtain ⟨y, hy, ry⟩ := RelO.some_of rr
        rw [hi] at rv
        exact .hit (by rw [← e1]; exact hy) (eqp_int rv ry) ih
end
section
variable {X : Cx}
def rNeK : R2 := fun x y H Q => ∃ a b ks ls, x = .ref a ∧ y = .ref b ∧ Rd H a (.dK ks) ∧ Rd H b (.dK ls) ∧ intsV ks ∧ intsV ls ∧ Q (.bl (!(ks.length == ls.length && sameV ks ls))) H
def rNeT : R2 := fun x y H Q => ∃ a b ks ls, x = .ref a ∧ y = .ref b ∧ Rd H a (.dT ks) ∧ Rd H b (.dT ls) ∧ intsV ks ∧ intsV ls ∧ Q (.bl (!(ks.length == ls.length && sameV ks ls))) H
theorem op_neT (hu : X.A.units + 64 < cLine) : OpR X (compareOp .NotEq) rNeT := by
  intro pins s σ H x y v u Q I rx ry h
  obtain ⟨a, b, ks, ls, rfl, rfl, ea, eb, ha, hb, q⟩ := h
  obtain rfl : v = Value.ref a := rx
  obtain rfl : u = Value.ref b := ry
  obtain ⟨_, ya, xs, ra, da⟩ := dt_rd I.hok ea
  obtain ⟨_, yb, ys, rb, db⟩ := dt_rd I.hok eb
  refine rc_heap_ne (knd := tupleKind (mixKind X.prog X.w)) (r := sameV ks ls) (tupleKind_room_in1 (by omega)) ya yb da db (by omega) (fun _ => hits_T rb hb ra ha) _ _ ?_
  refine ⟨.bl _, H, I, rfl, ?_⟩
  rw [show xs.length = ks.length from (Paired.length ra).symm, show ys.length = ls.length from (Paired.length rb).symm]
  exact q
theorem op_neK (hu : X.A.units + 64 < cLine) : OpR X (compareOp .NotEq) rNeK := by
  intro pins s σ H x y v u Q I rx ry h
  obtain ⟨a, b, ks, ls, rfl, rfl, ea, eb, ha, hb, q⟩ := h
  obtain rfl : v = Value.ref a := rx
  obtain rfl : u = Value.ref b := ry
  obtain ⟨_, ya, xs, ra, da⟩ := dk_rd I.hok ea
  obtain ⟨_, yb, ys, rb, db⟩ := dk_rd I.hok eb
  refine rc_keys_ne (knd := mixKind X.prog X.w) (r := sameV ks ls) ya yb da db (by omega) (fun _ => hits_K rb hb ra ha) _ _ ?_
  refine ⟨.bl _, H, I, rfl, ?_⟩
  rw [← ra.length, ← rb.length]
  exact q
end
def isID : D → Bool
  | .int _ => true
  | _ => false
def intsD (es : List (D × D)) : Bool := es.all fun p => isID p.2
def sameD (es fs : List (D × D)) : Bool := es.all fun p => match p.2, lookD fs p.1 with
  | .int i, some (.int j) => decide (i = j)
  | _, _ => false
def dicEq (es fs : List (D × D)) : Bool := es.length == fs.length && sameD es fs
def neZ (d e : D) : Res D := match d, e with
  | .dic 0 es, .dic 0 fs => if intsD es = true ∧ intsD fs = true then .ok (.bl (!dicEq es fs)) else .bad
  | .dic 1 es, .dic 1 fs => if intsD es = true ∧ intsD fs = true then .ok (.bl (!dicEq es fs)) else .bad
  | d, e => neO d e
theorem ints_rel {κ : Type} {mg : Gm} {G : Vw} : ∀ {es : List (D × D)} {ks : List (κ × V)}, RpL mg G (es.map (·.2)) (ks.map (·.2)) → intsD es = true → intsV ks
  | [], [], _, _, p, hp => by cases hp
  | [], _ :: _, r, _, _, _ => by cases r
  | _ :: _, [], r, _, _, _ => by cases r
  | e :: es, k :: ks, r, h, p, hp => by
    have r' : RpL mg G (e.2 :: es.map (·.2)) (k.2 :: ks.map (·.2)) := r
    obtain ⟨h1, h2⟩ := Bool.and_eq_true_iff.mp (show (isID e.2 && es.all fun p => isID p.2) = true from h)
    cases r' with
    | cons r1 r2 =>
      rcases List.mem_cons.mp hp with rfl | hp
      · cases q : e.2 with
        | int i =>
          rw [q] at r1
          have : p.2 = .int i := by
            generalize p.2 = v at r1
            cases r1; rfl
          exact ⟨i, this⟩
        | _ => rw [q] at h1; cases h1
      · exact ints_rel r2 h2 p hp
theorem same_rel {κ : Type} [DecidableEq κ] {mg : Gm} {G : Vw} {f : κ → D} (hk : ∀ a b, eqK (f a) (f b) = decide (a = b)) {fs : List (D × D)} {ls : List (κ × V)} (e2 : fs.map (·.1) = ls.map (fun p => f p.1)) (r2 : RpL mg G (fs.map (·.2)) (ls.map (·.2))) (h2 : intsD fs = true) :
    ∀ {es : List (D × D)} {ks : List (κ × V)}, es.map (·.1) = ks.map (fun p => f p.1) → RpL mg G (es.map (·.2)) (ks.map (·.2)) → intsD es = true → sameV ks ls = sameD es fs
  | [], [], _, _, _ => rfl
  | [], _ :: _, e, _, _ => by cases e
  | _ :: _, [], e, _, _ => by cases e
  | e :: es, k :: ks, e1, r1, h1 => by
    rw [List.map_cons, List.map_cons] at e1
    obtain ⟨q1, q2⟩ := List.cons.inj e1
    have r' : RpL mg G (e.2 :: es.map (·.2)) (k.2 :: ks.map (·.2)) := r1
    obtain ⟨i1, i2⟩ := Bool.and_eq_true_iff.mp (show (isID e.2 && es.all fun p => isID p.2) = true from h1)
    cases r' with
    | cons a b =>
      have ih := same_rel hk e2 r2 h2 q2 b i2
      have s1 : sameV (k :: ks) ls = ((match k.2, valV ls k.1 with
        | .int i, some (.int j) => decide (i = j)
        | _, _ => false) && sameV ks ls) := rfl
      have s2 : sameD (e :: es) fs = ((match e.2, lookD fs e.1 with
        | .int i, some (.int j) => decide (i = j)
        | _, _ => false) && sameD es fs) := rfl
      have lk := look_of (f := f) (k := f k.1) (key := k.1) (fun a => hk a k.1) e2 r2
      rw [s1, s2, ih, q1]
      congr 1
      obtain ⟨en, ed⟩ := e
      obtain ⟨kn, kv⟩ := k
      have a : Rp mg G ed kv := a
      obtain ⟨i, rfl⟩ : ∃ i, ed = .int i := by
        cases ed <;> first | (cases i1; done) | exact ⟨_, rfl⟩
      cases a
      show (match V.int i, valV ls kn with
        | .int i, some (.int j) => decide (i = j)
        | _, _ => false) = (match D.int i, lookD fs (f kn) with
        | .int i, some (.int j) => decide (i = j)
        | _, _ => false)
      cases z : lookD fs (f kn) with
      | none =>
        rw [z] at lk
        have lk : valV ls kn = none := lk
        rw [lk]
      | some d =>
        rw [z] at lk
        obtain ⟨v, lk, rv⟩ := lk
        have lk : valV ls kn = some v := lk
        rw [lk]
        cases rv <;> rfl
theorem keyD_eq (a b : Key) : eqK (keyD a) (keyD b) = decide (a = b) := by
  refine eqK_key ?_ a
  cases b <;> rfl
theorem keysD_some : ∀ ks : List Key, keysOf (ks.map keyD) = some ks
  | [] => rfl
  | k :: ks => by
    rw [List.map_cons]
    unfold keysOf
    rw [keysD_some ks, show keyOf (keyD k) = some k by cases k <;> rfl]
theorem tupK_eq (a b : List Key) : eqK (.tup (a.map keyD)) (.tup (b.map keyD)) = decide (a = b) := by
  have : eqK (.tup (a.map keyD)) (.tup (b.map keyD)) = eqKs (a.map keyD) (b.map keyD) := by rw [eqK]
  rw [this]
  exact eqKs_keys (keysD_some b) a
section
variable {X : Cx} {W : WX} {fl fla flb : Bool}
theorem op_neZ (hu : X.A.units + 64 < cLine) : OpR X (compareOp .NotEq) (fun x y H Q => (rNeD X.K x y H Q ∨ rNeK x y H Q) ∨ rNeT x y H Q) := ((op_neD hu).or (op_neK hu)).or (op_neT hu)
theorem of_neZ : OpF X W fla flb fl (fun x y H Q => (rNeD X.K x y H Q ∨ rNeK x y H Q) ∨ rNeT x y H Q) neZ := by
  intro M H σ Q d e v w m rd re h
  unfold neZ at h
  have rd' := rd.mono (vis_le fla M (vw H))
  have re' := re.mono (vis_le flb M (vw H))
  split at h
  · rename_i es fs
    obtain ⟨⟨i1, i2⟩, h⟩ := PostE.ite h
    cases rd' with
    | dicK a1 k1 r1 =>
      cases re' with
      | dicK a2 k2 r2 =>
        refine .inl (.inr ⟨_, _, _, _, rfl, rfl, vw_dK a1, vw_dK a2, ints_rel r1 i1, ints_rel r2 i2, ?_⟩)
        rw [same_rel keyD_eq k2 r2 i2 k1 r1 i1, ← map_len k1, ← map_len k2]
        exact h _ H (Ext.refl _) (.bl _)
  · rename_i es fs
    obtain ⟨⟨i1, i2⟩, h⟩ := PostE.ite h
    cases rd' with
    | dicT a1 k1 r1 =>
      cases re' with
      | dicT a2 k2 r2 =>
        refine .inr ⟨_, _, _, _, rfl, rfl, vw_dT a1, vw_dT a2, ints_rel r1 i1, ints_rel r2 i2, ?_⟩
        rw [same_rel (f := fun k : List Key => .tup (k.map keyD)) tupK_eq k2 r2 i2 k1 r1 i1, ← map_len k1, ← map_len k2]
        exact h _ H (Ext.refl _) (.bl _)
  · exact .inl (.inl (of_ne M H σ Q _ _ v w m rd re h))
end
end VL

set_option maxRecDepth 100000
set_option maxHeartbeats 2000000
set_option autoImplicit false
namespace VL
open PySem PySem.Spec PyProof.Rows L2 L2H HotX
section
variable {prog : Program} {w : World} {A : Around} {s : Shared} {E : Value → Shared → Prop}
end
def HG (X : Cx) : Prop := ∀ (pins : List (Addr × Obj)) (σ : L2.St) (H : Hp) (s : Shared), Inv X pins σ H s → X.A.handled = none ∨ ∃ x1, HotAt X.A x1 s.heap
theorem HG.calm {X : Cx} (h : X.A.handled = none) : HG X := fun _ _ _ _ _ => .inl h
theorem HG.base {X : Cx} {a : Addr} {o : Obj} {vs : Array Value} {u : HO} (hh : X.A.handled = some (.ref a)) (hH : X.H_0 a = some (.frz o u)) (hdt : o.data = .fields vs) (hc : vs[2]? = some .none) : HG X :=
  fun _ _ _ _ I => .inr ⟨a, hh, o, vs, (I.hok a _ (I.base.frzs a o u hH)).1, hdt, hc⟩
end VL

set_option maxRecDepth 100000
set_option maxHeartbeats 2000000
set_option autoImplicit false
namespace VL
open PySem PySem.Spec PyProof.Rows L2 L2H HotX
structure TurnG (P : Program) (w : World) (K : PySem.W.Frag) (tg : Expr) (J : It) (fpr : List Addr) (jt : Addr) (tn : Nat → Heap → Prop) : Prop where
  mem : jt ∈ fpr
  obj : ∀ i h, tn i h → ∀ b ∈ fpr, ∃ o, h.get? b = some o ∧ ∀ v, o.data ≠ .cell v
  keep : ∀ i h h', tn i h → (∀ b ∈ fpr, ∀ o, h.get? b = some o → h'.get? b = some o) → tn i h'
  item : ∀ (X : Cx), X.prog = P → X.w = w → X.K = K → HG X → ∀ (i : Nat) (pis : List (Addr × Obj)) (s : Shared) (σ : L2.St) (H : Hp) (E : Value → Shared → Prop), Inv X pis σ H s → (∀ b ∈ fpr, FpOk X pis H b) → tn i s.heap → J.go i H →
    wpAny (model P w) X.A (pyNext (.ref jt)) (fun r s1 => ∃ u, r = some u ∧
      wpAny (model P w) X.A (letOwnedTupleGo tg (.ref jt) u) (fun _ s2 => ∃ x H', Inv X pis σ H' s2 ∧ RelV x u ∧ J.yld i H x H' ∧ tn (i + 1) s2.heap ∧ ∀ b ∈ fpr, H' b = none) E s1) E s
  done : ∀ (X : Cx), X.prog = P → X.w = w → X.K = K → HG X → ∀ (i : Nat) (pis : List (Addr × Obj)) (s : Shared) (σ : L2.St) (H : Hp) (E : Value → Shared → Prop), Inv X pis σ H s → (∀ b ∈ fpr, FpOk X pis H b) → tn i s.heap → J.stop i H →
    wpAny (model P w) X.A (pyNext (.ref jt)) (fun r s1 => r = none ∧ Inv X pis σ H s1) E s
  self : ∀ (A : Around) (i : Nat) (s : Shared) (Q : Value → Shared → Prop) (E : Value → Shared → Prop), tn i s.heap → Q (.ref jt) s → wpAny (model P w) A (pyIter (.ref jt)) Q E s
def PIEG (X : Cx) (pis : List (Addr × Obj)) (σ : L2.St) (tg : Expr) (R : It → Hp → Prop) (itv : Value) (s2 : Shared) : Prop :=
  ∃ (jt : Addr) (fpr : List Addr) (tn : Nat → Heap → Prop) (J : It) (H' : Hp), itv = .ref jt ∧ Inv X pis σ H' s2 ∧ TurnG X.prog X.w X.K tg J fpr jt tn ∧ tn 0 s2.heap ∧ (∀ b ∈ fpr, FpOk X pis H' b) ∧ R J H'
structure PIG (X : Cx) (tg iter : Expr) (wi : TI) : Prop where
  run : ∀ (pis : List (Addr × Obj)) (s : Shared) (σ : L2.St) (H : Hp) (R : It → Hp → Prop), Inv X pis σ H s → wi σ H R →
    wpAny (model X.prog X.w) X.A (eval iter X.env) (fun v s1 => wpAny (model X.prog X.w) X.A (pyIter v) (PIEG X pis σ tg R) X.xe s1) X.xe s
section
variable {X : Cx} {tg : Expr}
end
section
variable {X : Cx} {tg : Expr}
end
section
variable {X : Cx} {W : WX} {tg e iter : Expr} {sts : List Stmt} {pos : Pos} {φ : Env → Res D} {ψ : Env → SRes} {ι : Env → Res (List D)} {γ : D → Env → Option Env}
end
end VL

set_option maxRecDepth 100000
set_option maxHeartbeats 2000000
set_option autoImplicit false
namespace VL
open PySem L2
def HotS (A : Around) (H : Hp) : Prop := A.handled = none ∨ ∃ (a : Addr) (o : Obj) (vs : Array Value) (u : HO), A.handled = some (.ref a) ∧ H a = some (.frz o u) ∧ o.data = .fields vs ∧ vs[2]? = some .none
def HS (X : Cx) : Prop := ∀ (pins : List (Addr × Obj)) (σ : L2.St) (H : Hp) (s : Shared), Inv X pins σ H s → HotS X.A H
theorem HS.calm {X : Cx} (h : X.A.handled = none) : HS X := fun _ _ _ _ _ => .inl h
theorem HS.hg {X : Cx} (h : HS X) : HG X := fun pins σ H s I => (h pins σ H s I).elim .inl fun ⟨a, o, vs, u, h1, h2, h3, h4⟩ => .inr ⟨a, h1, o, vs, (I.hok a _ h2).1, h3, h4⟩
theorem HS.start {X : Cx} (h : HotS X.A X.H_0) : HS X := fun _ _ _ _ I => h.elim .inl fun ⟨a, o, vs, u, h1, h2, h3, h4⟩ => .inr ⟨a, o, vs, u, h1, I.base.frzs a o u h2, h3, h4⟩
structure FnG (P : Program) (w : World) (K : PySem.W.Frag) (mg : Str → Option Value) (base : Heap) (CX : CXT) (k : Nat) (f : Addr) (fd : FuncData) (ps : List Str) (sp : Sp) : Prop where
  len : ∀ vs H Q E, sp vs H Q E → vs.length = ps.length
  run : ∀ (A : Around) (outer : List PySem.Env) (s : Shared) (H : Hp) (args : Args) (us : List Value) (vs : List V) (Q : VK) (E : XK), L2H.RoomH k A → HotS A H → Env0 P w K mg base A outer s H → BindsTo s fd args (ps.zip us) → Vals vs us → sp vs H Q E →
    codeAny (model P w) A (.call (.ref f) args) (CR CX outer P w H s Q E) s
section
variable {P : Program} {w : World} {K : PySem.W.Frag} {mg : Str → Option Value} {base : Heap} {CX : CXT} {x qual : Str} {st : Stmt} {f : Addr} {fd : FuncData} {N ps : List Str} {k n : Nat} {sp : Sp}
theorem FnG.ok (F : FnG P w K mg base CX k f fd ps sp) : FnOk P w K mg base CX k f fd ps sp := ⟨F.len, fun A outer s H args us vs Q E hr => F.run A outer s H args us vs Q E (L2H.roomH_of hr) (.inl hr.hd)⟩
end
structure DefOkG (P : Program) (w : World) (K : PySem.W.Frag) (mg : Str → Option Value) (base : Heap) (x : Str) (k : Nat) (ps : List Str) (n : Nat) (F : List D → Res D) : Prop where
  ex : ∃ (f : Addr) (fd : FuncData), mg x = some (.ref f) ∧ PySem.W.keepIn K (.ref f) = true ∧ Binds K fd ps [] ∧ FnG P w K mg base (L2N.CX P w) k f fd ps (spV ⟨P, w, K, mg⟩ n F)
  lk : ∀ f fd, mg x = some (.ref f) → (∃ oc od osl, K.lookup f = some ⟨oc, od, .func fd, osl⟩) → FnG P w K mg base (L2N.CX P w) k f fd ps (spV ⟨P, w, K, mg⟩ n F)
section
variable {P : Program} {w : World} {K : PySem.W.Frag} {mg : Str → Option Value} {base : Heap} {x qual : Str} {st : Stmt} {N ps : List Str} {k n : Nat} {ψ : Env → SRes} {F G : List D → Res D}
theorem DefOkG.ok (h : DefOkG P w K mg base x k ps n F) : DefOk P w K mg base x k ps n F := by
  obtain ⟨f, fd, h1, h2, h3, h4⟩ := h.ex
  exact ⟨⟨f, fd, h1, h2, h3, h4.ok⟩, fun f fd e1 e2 => (h.lk f fd e1 e2).ok⟩
variable {X : Cx} {W : WX} {fl : Bool} {e : Expr} {es : List Expr} {pos p : Pos} {φs : Env → Res (List D)}
end
end VL

set_option maxRecDepth 100000
set_option maxHeartbeats 2000000
set_option autoImplicit false
namespace VL
open PySem L2
abbrev suiteG (X : Cx) (a : Addr) (oe : Obj) (pn : List (Addr × Obj)) : Cx := { X.suite a pn with H_0 := upd X.H_0 a (.frz oe (.own a)) }
structure Fits (X : Cx) (a : Addr) (oe : Obj) : Prop where
  new : ∀ o, X.s_0.heap.get? a = some o → X.H_0 a = none → False
  tup : ∀ xs, X.H_0 a = some (.tup xs) → False
  tbl : ∀ ps, X.H_0 a = some (.tbl ps) → False
  frz : ∀ o u, X.H_0 a = some (.frz o u) → some (HO.frz o u) = some (.frz oe (.own a))
  nfs : a ∉ X.fs
section
variable {X : Cx} {pins : List (Addr × Obj)} {σ : L2.St} {H : Hp} {s : Shared} {a : Addr} {oe : Obj}
theorem HS.suite {pn : List (Addr × Obj)} {vs : Array Value} (hd : oe.data = .fields vs) (hc : vs[2]? = some .none) : HS (suiteG X a oe pn) :=
  HS.start (.inr ⟨a, oe, vs, .own a, rfl, upd_same, hd, hc⟩)
end
end VL

set_option maxRecDepth 100000
set_option maxHeartbeats 2000000
set_option autoImplicit false
namespace VL
open PySem PySem.Spec PyProof.Rows L2 L2H HotX
section
variable {X : Cx} {tg : Expr}
end
section
variable {X : Cx} {W : WX} {fl : Bool} {tg : Expr} {pos : Pos} {φs : Env → Res (List D)}
end
end VL

set_option maxRecDepth 100000
set_option maxHeartbeats 2000000
namespace VL
open PySem L2

section
variable {X : Cx}
end
def lmE (f : List D → D → Res D) (φa φb : Env → Res D) (env : Env) : Res D := (φa env).bind fun d => match d with
  | .lst ds => (φb env).bind (f ds)
  | _ => .bad
section
variable {X : Cx} {W : WX} {fl fla flb : Bool} {o e : Expr} {name : Str} {apos pos : Pos} {φa φb : Env → Res D}
end
end VL

set_option maxRecDepth 100000
set_option maxHeartbeats 2000000
set_option autoImplicit false
namespace VL
open PySem PySem.Spec PyProof.Rows L2 L2H HotX
section
variable {prog : Program} {w : World} {A : Around} {s : Shared} {E : Value → Shared → Prop}
end
section
variable {X : Cx} {tg : Expr}
end
section
variable {X : Cx} {W : WX} {tg e : Expr} {φ : Env → Res D}
end
inductive HdsG (X : Cx) : List ExceptHandler → List (Value × Option Nat × TSx) → Prop
  | nil : HdsG X [] []
  | named {x n : Str} {c : Value} {i : Nat} {ts : TSx} {st1 : Stmt} {sts : List Stmt} {np hp : Pos} {hds : List ExceptHandler} {l : List (Value × Option Nat × TSx)} (hc : Names X x c) (hi : X.N[i]? = some n) (hln : X.env.kindOf n = some .local)
      (hsu : ∀ (a : Addr) (oe : Obj) (cls : Value) (d : Option Addr) (pn : List (Addr × Obj)), L2N.Zn cls d oe → (∃ vs, oe.data = .fields vs) → PSs (suiteG X a oe pn) (st1 :: sts) (ts a oe cls d)) (r : HdsG X hds l) :
      HdsG X (.ExceptHandler (some (.Name x np)) (some n) (st1 :: sts) hp :: hds) ((c, some i, ts) :: l)
  | anon {x : Str} {c : Value} {ts : TSx} {st1 : Stmt} {sts : List Stmt} {np hp : Pos} {hds : List ExceptHandler} {l : List (Value × Option Nat × TSx)} (hc : Names X x c)
      (hsu : ∀ (a : Addr) (oe : Obj) (cls : Value) (d : Option Addr) (pn : List (Addr × Obj)), L2N.Zn cls d oe → (∃ vs, oe.data = .fields vs) → PSs (suiteG X a oe pn) (st1 :: sts) (ts a oe cls d)) (r : HdsG X hds l) :
      HdsG X (.ExceptHandler (some (.Name x np)) none (st1 :: sts) hp :: hds) ((c, none, ts) :: l)
section
variable {X : Cx} {body : List Stmt} {h1 : ExceptHandler} {hds : List ExceptHandler} {l : List (Value × Option Nat × TSx)} {pos : Pos} {tb : WX → TS} {Wout : WX}
end
inductive VHdsG (X : Cx) : List ExceptHandler → List HdD → Prop
  | nil : VHdsG X [] []
  | named {x n : Str} {cv : Value} {cat : List (Str × Bool)} {i : Nat} {χ : Env → SRes} {st1 : Stmt} {sts : List Stmt} {np hp : Pos} {hds : List ExceptHandler} {l : List HdD} (hc : Names X x cv)
      (hcat : ∀ c b, cat.lookup c = some b → ∃ C, X.mg c = some C ∧ PySem.W.exmOne X.K C cv = some b) (hi : X.N[i]? = some n) (hln : X.env.kindOf n = some .local) (hs : ∀ (a : Addr) (oe : Obj) (pn : List (Addr × Obj)), HS (suiteG X a oe pn) → VB (suiteG X a oe pn) W0 (st1 :: sts) χ) (r : VHdsG X hds l) :
      VHdsG X (.ExceptHandler (some (.Name x np)) (some n) (st1 :: sts) hp :: hds) ((cat, some i, χ) :: l)
  | anon {x : Str} {cv : Value} {cat : List (Str × Bool)} {χ : Env → SRes} {st1 : Stmt} {sts : List Stmt} {np hp : Pos} {hds : List ExceptHandler} {l : List HdD} (hc : Names X x cv)
      (hcat : ∀ c b, cat.lookup c = some b → ∃ C, X.mg c = some C ∧ PySem.W.exmOne X.K C cv = some b) (hs : ∀ (a : Addr) (oe : Obj) (pn : List (Addr × Obj)), HS (suiteG X a oe pn) → VB (suiteG X a oe pn) W0 (st1 :: sts) χ) (r : VHdsG X hds l) :
      VHdsG X (.ExceptHandler (some (.Name x np)) none (st1 :: sts) hp :: hds) ((cat, none, χ) :: l)
section
variable {X : Cx}
theorem hs_zn {a : Addr} {oe : Obj} {pn : List (Addr × Obj)} {cls : Value} {d : Option Addr} (z : L2N.Zn cls d oe) (v : ∃ vs, oe.data = .fields vs) : HS (suiteG X a oe pn) := by
  obtain ⟨vs, hd⟩ := v
  exact HS.suite hd (z.2.2 vs hd)
theorem HdsG.of {hds : List ExceptHandler} {l : List HdD} (h : VHdsG X hds l) : ∃ l', HdsG X hds l' ∧
    ∀ (Zp : Value → Option Addr → Obj → Prop) (hZ : ∀ c d o, Zp c d o → Zc c d o) (W : WX) (H0 : Hp) (M0 M : Addr → Bool) (H : Hp) (σ : L2.St) (env : Env) (D : Ends) (c : Str) (fs : List (Str × VL.D)) (cls : Value) (dd : Option Addr), Good (gm X) H0 M0 M H σ env → RpX (gm X) (Sh M (vw H)) c fs cls dd →
      PostS X W H0 M0 M H D (hndS c fs l env) → wHs Zp X.K W D l' cls dd σ H := by
  induction h with
  | nil => exact ⟨[], .nil, fun Zp hZ W H0 M0 M H σ env D c fs cls dd g rx h => h M H σ cls dd g (.refl _) rx⟩
  | @named x n cv cat i χ st1 sts np hp hds l hc hcat hi hln hs r ih =>
    obtain ⟨l', k1, k3⟩ := ih
    refine ⟨(cv, some i, fun _ _ _ _ => tVB X W0 χ) :: l', .named hc hi hln (fun a oe cls d pn z v => vb_canon (Y := X) (hs a oe pn (hs_zn z v)) rfl) k1, fun Zp hZ W H0 M0 M H σ env D c fs cls dd g rx h => ?_⟩
    unfold hndS at h
    cases q : cat.lookup c with
    | none => rw [q] at h; exact h.elim
    | some b =>
      obtain ⟨C, e1, e2⟩ := hcat c b q
      have ec : C = cls := by
        have := rx.1.symm.trans e1
        cases this; rfl
      subst ec
      rw [q] at h
      refine ⟨b, e2, fun hb a oe na z hv => ?_, fun hb => ?_⟩
      · subst hb
        have ex := Ext.new (o := .frz oe (.own a)) na
        exact ⟨H0, M0, M, _, (g.mono ex).set (rp_exn na (g.nm na).1 (hZ _ _ _ z) hv rx), PostS.outI (PostS.mono h (Sh_mono ex.v))⟩
      · subst hb
        exact k3 Zp hZ W H0 M0 M H σ env D c fs _ dd g rx h
  | @anon x cv cat χ st1 sts np hp hds l hc hcat hs r ih =>
    obtain ⟨l', k1, k3⟩ := ih
    refine ⟨(cv, none, fun _ _ _ _ => tVB X W0 χ) :: l', .anon hc (fun a oe cls d pn z v => vb_canon (Y := X) (hs a oe pn (hs_zn z v)) rfl) k1, fun Zp hZ W H0 M0 M H σ env D c fs cls dd g rx h => ?_⟩
    unfold hndS at h
    cases q : cat.lookup c with
    | none => rw [q] at h; exact h.elim
    | some b =>
      obtain ⟨C, e1, e2⟩ := hcat c b q
      have ec : C = cls := by
        have := rx.1.symm.trans e1
        cases this; rfl
      subst ec
      rw [q] at h
      refine ⟨b, e2, fun hb a oe na z hv => ?_, fun hb => ?_⟩
      · subst hb
        have ex := Ext.new (o := .frz oe (.own a)) na
        exact ⟨H0, M0, M, _, g.mono ex, PostS.outI (PostS.mono h (Sh_mono ex.v))⟩
      · subst hb
        exact k3 Zp hZ W H0 M0 M H σ env D c fs _ dd g rx h
end
section
variable {X : Cx} {W : WX} {body : List Stmt} {h1 : ExceptHandler} {hds : List ExceptHandler} {pos : Pos} {ψ : Env → SRes} {l : List HdD}
end
end VL

set_option maxRecDepth 100000
set_option maxHeartbeats 2000000
set_option autoImplicit false
namespace VL
open PySem L2
theorem m_eq {n : Nat} {b : Env → SRes} {ds : List D} {r : Res D} (h : outS (b (env0 n ds)) = r) : defM n b ds = r := h
section
variable {d : D} {env : Env} {c : Str} {fs : List (Str × D)} {hs : List HdD} {γ : D → Env → Option Env} {ψ : Env → SRes} {ι : Env → Res (List D)} {ds : List D} {φ : Env → Res D} {φs : Env → Res (List D)} {m f : Str} {F : List D → Res D}
theorem outS_rt : outS (.rt d) = .ok d := rfl
theorem outS_nx : outS (.nx env) = .ok .non := rfl
theorem outS_xc : outS (.xc c fs env) = .exc c fs := rfl
def rTry (hs : List HdD) : SRes → SRes
  | .xc c fs e => hndS c fs hs e
  | r => r
theorem tryS_eq : tryS ψ hs env = rTry hs (ψ env) := by
  unfold tryS rTry
  cases ψ env <;> rfl
theorem rTry_nx : rTry hs (.nx env) = .nx env := rfl
theorem rTry_rt : rTry hs (.rt d) = .rt d := rfl
theorem rTry_xc : rTry hs (.xc c fs env) = hndS c fs hs env := rfl
theorem hndS_eq {cat : List (Str × Bool)} {on : Option Nat} {χ : Env → SRes} {r : List HdD} : hndS c fs ((cat, on, χ) :: r) env = match cat.lookup c with
    | some true => outI on (χ (inE on c fs env))
    | some false => hndS c fs r env
    | none => .bad := rfl
def rMeth (c m : Str) (F : List D → Res D) (a : Res D) (b : Res (List D)) : Res D := a.bind fun d => if isIns c m d = true then b.bind fun ds => F (d :: ds) else .bad
theorem methE_eq : methE c m F φ φs env = rMeth c m F (φ env) (φs env) := rfl
theorem rMeth_ok : rMeth c m F (.ok d) (.ok ds) = if isIns c m d = true then F (d :: ds) else .bad := rfl
def rProp (c : Str) (F : List D → Res D) (a : Res D) : Res D := a.bind fun d => if isCls c d = true then (match F [d] with | .ok r => .ok r | _ => .bad) else .bad
theorem propE_eq : propE c F φ env = rProp c F (φ env) := rfl
theorem rProp_ok : rProp c F (.ok d) = if isCls c d = true then (match F [d] with | .ok r => .ok r | _ => .bad) else .bad := rfl
def rLm (f : List D → D → Res D) (a b : Res D) : Res D := a.bind fun d => match d with
  | .lst ds => b.bind (f ds)
  | _ => .bad
theorem lmE_eqR {f : List D → D → Res D} {φa φb : Env → Res D} : lmE f φa φb env = rLm f (φa env) (φb env) := rfl
theorem rLm_ok {f : List D → D → Res D} {e : D} : rLm f (.ok (.lst ds)) (.ok e) = f ds e := rfl
theorem fldIE_eqR : fldIE c f φ env = r1 (fldI c f) (φ env) := rfl
end
def runL {α σ : Type} (step : σ → α → σ ⊕ Res D) (s : σ) : List α → σ ⊕ Res D
  | [] => .inl s
  | a :: xs => match step s a with
    | .inl s' => runL step s' xs
    | .inr o => .inr o
def stepP {σ : Type} (R : σ → Env → Prop) : σ ⊕ Res D → Post
  | .inl s => { nx := R s, ct := R s }
  | .inr (.ok d) => { rt := fun x => x = d }
  | .inr (.exc c fs) => { xc := fun x y _ => x = c ∧ y = fs }
  | .inr .bad => {}
def endK {σ : Type} (P : Post) (R : σ → Env → Prop) : σ ⊕ Res D → Prop
  | .inl s => ∀ env, R s env → P.nx env
  | .inr (.ok d) => P.rt d
  | .inr (.exc c fs) => ∀ env, P.xc c fs env
  | .inr .bad => True
theorem Sat.runL {α σ : Type} {P : Post} {γ : D → Env → Option Env} {ψ : Env → SRes} {f : α → D} {step : σ → α → σ ⊕ Res D} {R : σ → Env → Prop} : ∀ {xs : List α} {s : σ} {env : Env},
    (∀ s a env, a ∈ xs → R s env → ∃ env1, γ (f a) env = some env1 ∧ Sat (stepP R (step s a)) (ψ env1)) → R s env → endK P R (VL.runL step s xs) → Sat P (forL γ ψ (xs.map f) env)
  | [], s, env, _, h0, hk => hk env h0
  | a :: xs, s, env, h, h0, hk => by
    obtain ⟨env1, e1, h1⟩ := h s a env (List.mem_cons_self ..) h0
    show Sat P (match γ (f a) env with | none => SRes.bad | some env1 => flowL (ψ env1) (forL γ ψ (xs.map f)))
    rw [e1]
    show Sat P (flowL (ψ env1) (forL γ ψ (xs.map f)))
    have hk' : endK P R (match step s a with | .inl s' => VL.runL step s' xs | .inr o => .inr o) := hk
    cases q : step s a with
    | inl s' =>
      rw [q] at h1 hk'
      have go : ∀ env, R s' env → Sat P (forL γ ψ (xs.map f) env) := fun env hr => Sat.runL (fun s a env ha => h s a env (List.mem_cons_of_mem _ ha)) hr hk'
      cases z : ψ env1 <;> rw [z] at h1 <;> first | exact h1.elim | exact go _ h1
    | inr o =>
      rw [q] at h1 hk'
      cases o with
      | ok d =>
        cases z : ψ env1 <;> rw [z] at h1 <;> first | exact h1.elim | skip
        case rt x =>
          have e : x = d := h1
          rw [e]; exact hk'
      | exc c fs =>
        cases z : ψ env1 <;> rw [z] at h1 <;> first | exact h1.elim | skip
        case xc x y e =>
          obtain ⟨q1, q2⟩ := h1
          rw [q1, q2]; exact hk' e
      | bad => cases z : ψ env1 <;> rw [z] at h1 <;> exact h1.elim
theorem Sat.run {α σ : Type} {P : Post} {γ : D → Env → Option Env} {ψ : Env → SRes} {ι : Env → Res (List D)} {env : Env} (xs : List α) (f : α → D) (step : σ → α → σ ⊕ Res D) (R : σ → Env → Prop) (s : σ) (hi : ι env = .ok (xs.map f)) (h0 : R s env)
    (h : ∀ s a env, a ∈ xs → R s env → ∃ env1, γ (f a) env = some env1 ∧ Sat (stepP R (step s a)) (ψ env1)) (hk : endK P R (VL.runL step s xs)) : Sat P (VL.forS γ ι ψ env) := by
  unfold VL.forS ofA
  rw [hi]
  exact Sat.runL h h0 hk
end VL

set_option maxRecDepth 100000
set_option maxHeartbeats 2000000
set_option autoImplicit false
namespace VL
open PySem L2

def leStr (s t : Str) : Bool := !decide (t.cps.toList < s.cps.toList)
def lePair (i : Int) (s : Str) (j : Int) (t : Str) : Bool := if i = j then (if s = t then true else leStr s t) else decide (i ≤ j)
def leX : D → D → Res D
  | .int i, .int j => .ok (.bl (decide (i ≤ j)))
  | .str s, .str t => .ok (.bl (leStr s t))
  | .tup [.int i, .str s], .tup [.int j, .str t] => .ok (.bl (lePair i s j t))
  | _, _ => .bad
def rLeP (K : PySem.W.Frag) : R2 := fun x y H Q => ∃ (a b : Addr) (i j : Int) (s t : Str), x = .ref a ∧ y = .ref b ∧ SqT K H a [.int i, .str s] ∧ SqT K H b [.int j, .str t] ∧ Q (.bl (lePair i s j t)) H
def rLeX (K : PySem.W.Frag) : R2 := fun x y H Q => rI0 (fun i j => .bl (decide (i ≤ j))) x y H Q ∨ (∃ i j, x = .str i ∧ y = .str j ∧ Q (.bl (!decide (j.cps.toList < i.cps.toList))) H) ∨ rLeP K x y H Q
section
variable {X : Cx} {W : WX} {fl fla flb : Bool}
theorem op_leP (hu : X.A.units < cLine) : OpR X (compareOp .LtE) (rLeP X.K) := by
  intro pins s σ H x y v u Q I rx ry h
  obtain ⟨a, b, i, j, p, r, rfl, rfl, ha, hb, q⟩ := h
  cases rx
  cases ry
  obtain ⟨its, r1, p1, _⟩ := I.tuple ha
  obtain ⟨its2, r2, p2, _⟩ := I.tuple hb
  cases r1 with
  | cons ra rt =>
  cases rt with
  | cons ra' rt =>
  cases rt
  cases r2 with
  | cons rb rt =>
  cases rt with
  | cons rb' rt =>
  cases rt
  obtain ⟨t1, rfl⟩ := ra
  obtain ⟨t2, rfl⟩ := ra'
  obtain ⟨t3, rfl⟩ := rb
  obtain ⟨t4, rfl⟩ := rb'
  have R := Ob.RcOp.tuples_le (A := X.A) (s := s) (e := fun k => if k = 0 then (i == j) else (p == r)) (r := fun k => if k = 0 then decide (i ≤ j) else leStr p r) p1 p2 hu (fun k h1 h2 => by
    match k, h1, h2 with
    | 0, _, _ => exact SeqAt.EqAt.int_int i t1 j t3
    | 1, _, _ => exact SeqAt.EqAt.str_str p t2 r t4
    | k + 2, h1, _ => exact absurd h1 (by simp)) (fun k h1 h2 _ => by
    match k, h1, h2 with
    | 0, _, _ => exact Ob.RcOp.le_int i j t1 t3
    | 1, _, _ => exact fun _ _ _ _ q => PySem.P.le_str q
    | k + 2, h1, _ => exact absurd h1 (by simp))
  have e : Ob.lexAt (fun k => if k = 0 then (i == j) else (p == r)) (fun k => if k = 0 then decide (i ≤ j) else leStr p r) true 0 2 = lePair i p j r := by
    rw [Ob.lexAt_succ, Ob.lexAt_succ, Ob.lexAt_zero]
    unfold lePair
    by_cases c : i = j
    · by_cases c2 : p = r <;> simp [c, c2]
    · simp [c]
  have R' : Ob.RcOp .LtE X.A s (.ref a) (.ref b) (lePair i p j r) := by
    rw [← e]; exact R
  have z : wpAny (model X.prog X.w) X.A (compareOp .LtE (.ref a) (.ref b)) (EP X pins σ Q) X.xe s := R' X.prog X.w X.xe (EP X pins σ Q) ⟨.bl _, H, I, rfl, q⟩
  exact z
theorem op_leX (hu : X.A.units < cLine) : OpR X (compareOp .LtE) (rLeX X.K) := op_le.or (op_le_str.or (op_leP hu))
theorem of_leX : OpF X W fla flb fl (rLeX X.K) leX := by
  intro M H σ Q d e v w m rd re h
  have rd' := rd.mono (vis_le fla M _)
  have re' := re.mono (vis_le flb M _)
  unfold leX at h
  split at h
  · cases rd; cases re
    exact .inl ⟨_, _, rfl, rfl, h _ H (Ext.refl H) (.bl _)⟩
  · cases rd; cases re
    exact .inr (.inl ⟨_, _, rfl, rfl, h _ H (Ext.refl H) (.bl _)⟩)
  · cases rd' with
    | tup ha ra =>
      cases re' with
      | tup hb rb =>
        obtain ⟨x1, x2, rfl, q1, q2⟩ := ra.two
        obtain ⟨y1, y2, rfl, q3, q4⟩ := rb.two
        cases q1; cases q2; cases q3; cases q4
        exact .inr (.inr ⟨_, _, _, _, _, _, rfl, rfl, .inl (.inl (vw_tup ha)), .inl (.inl (vw_tup hb)), h _ H (Ext.refl H) (.bl _)⟩)
  · exact h.elim
end

def isC (c : Str) (d : D) : Res D := match d with
  | .ins c' _ => if c' = c then .ok (.bl true) else .bad
  | d => match tyName d with
    | some _ => .ok (.bl false)
    | none => .bad
def isCE (c : Str) (φ : Env → Res D) (env : Env) : Res D := (φ env).bind (isC c)
def tyNames : List String := ["NoneType", "bool", "int", "str", "tuple", "list", "dict"]
structure ClsQ (K : PySem.W.Frag) (mg : Str → Option Value) (c : Str) : Prop where
  ex : ∃ C, mg c = some (.ref C) ∧ Cls K C ∧ PySem.W.findIn K (.ref C) "__class__" = some (some (.builtin "object.__class__")) ∧ PySem.W.specialIn K (.builtin "object.__class__") "__get__" = some (some (.builtin "getset_descriptor.__get__")) ∧
    PySem.W.takesIn K (.builtin "object.__class__") = some true ∧ PySem.W.mroIn K C (.type "object") = some true ∧ ∀ S ∈ tyNames, PySem.W.kitOne K (.type S) (.ref C) = some false
theorem tyName_mem {d : D} {S : String} (h : tyName d = some S) : S ∈ tyNames := by
  unfold tyName at h
  split at h <;> first | (cases h; decide) | cases h
section
variable {X : Cx} {W : WX} {fl fla : Bool} {e : Expr} {pos : Pos} {φ : Env → Res D}
theorem ve_isC {c : Str} {xi p : Pos} (hq : ClsQ X.K X.mg c) (h : VE X W fla e φ) (hmi : X.mg "isinstance" = none) (hgi : Gl X "isinstance" := by rfl) (hg : Gl X c := by rfl)
    (hd : (c == ("__debug__" : Str)) = false := by decide) (hs : starEach (e :: [.Name c p]) X.env = (false, eval e X.env) :: starEach [.Name c p] X.env := by rfl)
    (hs2 : starEach ((.Name c p) :: []) X.env = (false, eval (.Name c p) X.env) :: starEach [] X.env := by rfl) (hpl : (backTo pos (starEach [.Name c p] X.env)).any (·.1) = false := by rfl) :
    VE X W fl (.Call (.Name "isinstance" xi) [e, .Name c p] [] pos) (isCE c φ) := by
  obtain ⟨t, pt, r⟩ := h
  obtain ⟨C, hm, hcl, q1, q2, q3, q4, q5⟩ := hq.ex
  refine ⟨_, pe_callB call_isi hgi hmi (by decide +kernel) (pa_cons pt (pa_cons (pe_glob (v := .ref C) hg hm rfl hd) pa_nil hs2) hs) (by decide) (by decide) hs hpl, fun H0 M0 M H σ env Q g h => ?_⟩
  refine r H0 M0 M H σ env _ g (PostE.seq h fun d v H1 e1 r1 h1 => ?_)
  have go : ∀ S, tyName d = some S → PostE X W fl M σ H1 Q (.ok (.bl false)) → ∃ x c', ∃ (t u : Value) (b : Bool), [v, V.ref C] = [x, c'] ∧ ClsV c' u ∧ TyX X.K H1 x t ∧ PySem.W.kitOne X.K t u = some b ∧ Q (.bl b) H1 := fun S hS h2 =>
    ⟨v, .ref C, .type S, .ref C, false, rfl, .own C, ty_of (r1.mono (vis_le fla M _)) hS, q5 S (tyName_mem hS), h2 _ H1 (Ext.refl _) (.bl false)⟩
  unfold isC at h1
  split at h1
  · rename_i c' gs
    by_cases hc : c' = c
    · rw [if_pos hc] at h1
      subst hc
      cases r1 with
      | @ins a C' dx _ fs _ m ha k ra =>
        have ec : C = C' := by
          have m' : X.mg c' = some (.ref C') := m
          rw [hm] at m'
          cases m'; rfl
        subst ec
        exact ⟨_, .ref C, .ref C, .ref C, true, rfl, .own C, .base (.ins (vw_ins (vis_get ha)) hcl q1 q2 q3 q4), by unfold PySem.W.kitOne; rw [if_pos (by simp)], h1 _ H1 (Ext.refl _) (.bl true)⟩
    · rw [if_neg hc] at h1; exact h1.elim
  · split at h1
    · rename_i S hS
      exact go S hS h1
    · exact h1.elim
end

section
variable {X : Cx} {W : WX} {fl fla flb : Bool} {e e2 : Expr} {es : List Expr} {pos : Pos} {φ φi : Env → Res D} {φs : Env → Res (List D)}
theorem vf_dictC {p : Pos} (hm : X.mg "dict" = none) (ha : VA X W true (e :: es) φs) (hg : Gl X "dict" := by rfl)
    (he : starEach (e :: es) X.env = (false, eval e X.env) :: starEach es X.env := by rfl) (hpl : (backTo pos (starEach es X.env)).any (·.1) = false := by rfl) : VF X W (.Call (.Name "dict" p) (e :: es) [] pos) (aE dictF φs) := by
  obtain ⟨t, pt, r⟩ := ha
  refine ⟨_, pe_callTy call_dictD hg hm (by decide +kernel) pt (by decide) (by decide) he hpl, fun H0 M0 M H σ env Q g h => ?_⟩
  refine r H0 M0 M H σ env _ g ?_
  have h0 : PostN X W M σ H Q ((φs env).bind dictF) := h
  cases q : φs env with
  | ok ds =>
    rw [q] at h0
    intro vs H1 e1 r1
    have h1 : PostN X W M σ H Q (dictF ds) := h0
    unfold dictF at h1
    split at h1
    · cases r1 with
      | cons r t =>
        cases t
        cases r with
        | dicK ha e ra =>
          refine ⟨_, _, rfl, vw_dK (Sh_some ha).2, fun l hl => h1 l _ (e1.fresh hl) (e1.trans (Ext.new hl)) ⟨_, upd_same, e, ra.mono (sh_add (Ext.new hl) hl)⟩⟩
    · exact h1.elim
  | exc c fs => rw [q] at h0; exact h0
  | bad => rw [q] at h0; exact h0
end

section
variable {X : Cx} {W : WX}
end
section
variable {X : Cx} {W : WX} {tg iter : Expr} {sts : List Stmt} {pos : Pos} {γ : D → Env → Option Env} {ψ : Env → SRes} {φ : Env → Res D}
end
end VL

set_option maxRecDepth 100000
set_option maxHeartbeats 2000000
set_option autoImplicit false
namespace VL
open PySem L2
def KeepG (γ : D → Env → Option Env) : Prop := ∀ d env env', γ d env = some env' → ∀ i : Nat, isOw env'[i]? = true → isOw env[i]? = true
theorem keep_n (j : Nat) : KeepG (gnG j) := fun d env env' h i ho => by
  cases h
  by_cases e : i = j
  · subst e; rw [isOw_sh rfl] at ho; cases ho
  · rw [get_set_ne e] at ho; exact ho
theorem isOw_wipe {env : Env} : ∀ {vs : List Nat} {i : Nat}, isOw (wipeE env vs)[i]? = true → isOw env[i]? = true ∧ i ∉ vs
  | [], i, h => ⟨h, fun z => nomatch z⟩
  | v :: vs, i, h => by
    have h' : isOw ((wipeE env vs).set v .no)[i]? = true := h
    by_cases e : i = v
    · subst e
      rw [isOw_sh rfl] at h'
      cases h'
    · rw [get_set_ne e] at h'
      obtain ⟨h1, h2⟩ := isOw_wipe h'
      exact ⟨h1, fun z => (List.mem_cons.mp z).elim e h2⟩
theorem wipe_out {σ : L2.St} {vs : List Nat} {i : Nat} (h : i ∉ vs) : (L2.wipe σ vs)[i]? = σ[i]? := by
  rw [wipe_get, if_neg (fun z => h z.1), if_neg h]
def comp2 (γ : D → Env → Option Env) (τ : Env → Res Bool) (ι1 : Env → Res (List D)) (vs1 : List Nat) (γ1 : D → Env → Option Env) (τ1 : Env → Res Bool) (φ : Env → Res D) (env : Env) : List D → List D → Res D
  | [], acc => .ok (.lst acc)
  | d :: ds, acc => match γ d env with
    | none => .bad
    | some env1 => match τ env1 with
      | .ok true => (match ι1 env1 with
        | .ok es => (match compL γ1 τ1 φ (wipeE env1 vs1) es acc with
          | .ok (.lst acc') => comp2 γ τ ι1 vs1 γ1 τ1 φ env ds acc'
          | _ => .bad)
        | _ => .bad)
      | .ok false => comp2 γ τ ι1 vs1 γ1 τ1 φ env ds acc
      | _ => .bad
def lc2E (vs vs1 : List Nat) (γ : D → Env → Option Env) (ι : Env → Res (List D)) (τ : Env → Res Bool) (γ1 : D → Env → Option Env) (ι1 : Env → Res (List D)) (τ1 : Env → Res Bool) (φ : Env → Res D) (env : Env) : Res D := (ι env).bind fun ds => comp2 γ τ ι1 vs1 γ1 τ1 φ (wipeE env vs) ds []
def tVI (g : Gm) (X : Cx) (ι : Env → Res (List D)) : TI := fun σ H R => ∃ H0 M0 M env, Good g H0 M0 M H σ env ∧ PostI X W0 H0 M σ H R (ι env)
theorem compL_lst {γ : D → Env → Option Env} {τ : Env → Res Bool} {φ : Env → Res D} {env : Env} {r : D} : ∀ {ds acc : List D}, compL γ τ φ env ds acc = .ok r → ∃ l, r = .lst l
  | [], acc, h => by cases h; exact ⟨acc, rfl⟩
  | d :: ds, acc, h => by
    unfold compL at h
    cases q : γ d env with
    | none => rw [q] at h; cases h
    | some env1 =>
      rw [q] at h
      have h1 : (match τ env1 with
        | .ok true => (match φ env1 with
          | .ok y => if acc.length < sizeLine then compL γ τ φ env ds (acc ++ [y]) else .bad
          | _ => .bad)
        | .ok false => compL γ τ φ env ds acc
        | _ => .bad) = Res.ok r := h
      cases qt : τ env1 with
      | bad => rw [qt] at h1; cases h1
      | exc _ _ => rw [qt] at h1; cases h1
      | ok b =>
        rw [qt] at h1
        cases b with
        | false => exact compL_lst h1
        | true =>
          have h2 : (match φ env1 with
            | .ok y => if acc.length < sizeLine then compL γ τ φ env ds (acc ++ [y]) else .bad
            | _ => .bad) = Res.ok r := h1
          cases qf : φ env1 with
          | bad => rw [qf] at h2; cases h2
          | exc _ _ => rw [qf] at h2; cases h2
          | ok y =>
            rw [qf] at h2
            have h3 : (if acc.length < sizeLine then compL γ τ φ env ds (acc ++ [y]) else .bad) = Res.ok r := h2
            by_cases c : acc.length < sizeLine
            · rw [if_pos c] at h3; exact compL_lst h3
            · rw [if_neg c] at h3; cases h3
section
variable {X : Cx} {W : WX} {tg iter tg1 iter1 elt : Expr} {ifs ifs1 : List Expr} {scope : Scope} {pos : Pos} {ι ι1 : Env → Res (List D)} {γ γ1 : D → Env → Option Env} {τ τ1 : Env → Res Bool} {φ : Env → Res D}
theorem lc2_read {wi : TI} (vs vs1 : List Nat) (kg : KeepG γ) {H0 : Hp} {M0 M : Addr → Bool} {H : Hp} {σ : L2.St} {env : Env} {Q : VK} (ri : ∀ R : It → Hp → Prop, PostI X W H0 M σ H R (ι env) → wi σ H R) (g : Good (gm X) H0 M0 M H σ env) (h : PostN X W M σ H Q (lc2E vs vs1 γ ι τ γ1 ι1 τ1 φ env)) :
    tLc2 wi (tGc (gm X) vs γ) (tVT (gm X) X W0 τ) (tVI (gm X) X ι1) (tGc (gm X) vs1 γ1) (tVT (gm X) X W0 τ1) (tVE (gm X) X W0 true φ) vs vs1 σ H Q := by
  refine ri _ ?_
  have h0 : PostN X W M σ H Q ((ι env).bind fun ds => comp2 γ τ ι1 vs1 γ1 τ1 φ (wipeE env vs) ds []) := h
  cases q : ι env with
  | bad => rw [q] at h0; exact h0
  | exc c fs => rw [q] at h0; exact h0
  | ok ds =>
    rw [q] at h0
    have h1 : PostN X W M σ H Q (comp2 γ τ ι1 vs1 γ1 τ1 φ (wipeE env vs) ds []) := h0
    clear h0 h
    intro J H1 e1 ok1 Dd hD
    have gw := (g.mono e1).wipe vs
    have hs0 : ∀ i : Nat, isOw (wipeE env vs)[i]? = true → (L2.wipe σ vs)[i]? ≠ some (some (V.ref Dd)) := fun i ho hr => by
      cases z : (wipeE env vs)[i]? with
      | none => rw [z] at ho; cases ho
      | some s =>
        rw [z] at ho
        cases s with
        | ow d =>
          obtain ⟨p, hp, mp, _⟩ := gw.sl i _ z
          rw [hr] at hp
          cases hp
          rw [(gw.nm hD).1] at mp; cases mp
        | no => cases ho
        | sh _ => cases ho
    refine ⟨fun i m Hc => m = ds.length - i ∧ ∃ (acc : List V) (accD : List D), Good (gm X) H0 M0 (addM M Dd) Hc (L2.wipe σ vs) (wipeE env vs) ∧ Hc Dd = some (.lst acc) ∧ RpL (gm X) (Sh (addM M Dd) (vw Hc)) accD acc ∧
      VEx (Sh M (vw H1)) (Sh (addM M Dd) (vw Hc)) ∧ Ext H1 Hc ∧ PostN X W M σ H Q (comp2 γ τ ι1 vs1 γ1 τ1 φ (wipeE env vs) (ds.drop i) accD), ⟨ds.length, rfl, [], [], gw.beside hD (Ext.new hD) upd_same, upd_same, .nil, sh_add (Ext.new hD) hD, Ext.new hD, h1⟩, ?_⟩
    rintro i m Hc ⟨rfl, acc, accD, gc, hx, rx, ve, ex, hp⟩
    obtain ⟨o1, o2⟩ := ok1 _ Hc gc.ok gc.ex ve i
    cases qd : ds[i]? with
    | none =>
      have hi : ds.length ≤ i := List.getElem?_eq_none_iff.mp qd
      rw [List.drop_of_length_le hi] at hp
      exact .inl ⟨o1 hi, hp Dd Hc (e1.fresh hD) (e1.trans ex) ⟨acc, hx, rx⟩⟩
    | some d =>
      obtain ⟨o3, o4⟩ := o2 d qd
      have hi : i < ds.length := (List.getElem?_eq_some_iff.mp qd).1
      have hdr : ds.drop i = d :: ds.drop (i + 1) := by
        rw [List.drop_eq_getElem_cons hi]
        rw [List.getElem?_eq_getElem hi] at qd
        cases qd; rfl
      rw [hdr] at hp
      unfold comp2 at hp
      refine .inr ⟨o3, fun Hc' => ∃ (acc : List V) (accD : List D), Good (gm X) H0 M0 (addM M Dd) Hc' (L2.wipe σ vs) (wipeE env vs) ∧ Hc' Dd = some (.lst acc) ∧ RpL (gm X) (Sh (addM M Dd) (vw Hc')) accD acc ∧
        VEx (Sh M (vw H1)) (Sh (addM M Dd) (vw Hc')) ∧ Ext H1 Hc' ∧ PostN X W M σ H Q (comp2 γ τ ι1 vs1 γ1 τ1 φ (wipeE env vs) (ds.drop (i + 1)) accD), fun Hc' w => ⟨ds.length - (i + 1), by omega, rfl, w⟩, fun x H2 y => ?_⟩
      obtain ⟨ey, ry⟩ := o4 x H2 y
      cases qg : γ d (wipeE env vs) with
      | none => rw [qg] at hp; exact hp.elim
      | some env1 =>
        rw [qg] at hp
        refine ⟨H0, M0, addM M Dd, _, env1, d, gc.mono ey, ry, qg, fun σ2 g2 w2 => ⟨by rw [w2, wipe_wipe], ?_⟩⟩
        have hs2 : ∀ i : Nat, isOw env1[i]? = true → σ2[i]? ≠ some (some (V.ref Dd)) := fun i ho hr => by
          have ho1 := kg d _ _ qg i ho
          obtain ⟨_, hni⟩ := isOw_wipe ho1
          have e2 : (L2.wipe σ vs)[i]? = σ2[i]? := by
            have w3 : L2.wipe σ2 vs = L2.wipe σ vs := w2.trans wipe_wipe
            rw [← w3, wipe_out hni]
          exact hs0 i ho1 (e2.trans hr)
        refine ⟨H0, M0, addM M Dd, env1, g2, ?_⟩
        have hp2 : PostN X W M σ H Q (match τ env1 with
          | .ok true => (match ι1 env1 with
            | .ok es => (match compL γ1 τ1 φ (wipeE env1 vs1) es accD with
              | .ok (.lst acc') => comp2 γ τ ι1 vs1 γ1 τ1 φ (wipeE env vs) (ds.drop (i + 1)) acc'
              | _ => .bad)
            | _ => .bad)
          | .ok false => comp2 γ τ ι1 vs1 γ1 τ1 φ (wipeE env vs) (ds.drop (i + 1)) accD
          | _ => .bad) := hp
        cases qt : τ env1 with
        | bad => rw [qt] at hp2; exact hp2.elim
        | exc c fs => rw [qt] at hp2; exact hp2.elim
        | ok b =>
          rw [qt] at hp2
          intro H3 e3
          cases b with
          | false =>
            rw [if_neg Bool.false_ne_true]
            exact ⟨acc, accD, (gc.mono ey).mono e3, e3 _ _ (ey _ _ hx), rx.mono (Sh_mono (ey.trans e3).v), ve.trans (Sh_mono (ey.trans e3).v), (ex.trans ey).trans e3, hp2⟩
          | true =>
            rw [if_pos rfl]
            have hp3 : PostN X W M σ H Q (match ι1 env1 with
              | .ok es => (match compL γ1 τ1 φ (wipeE env1 vs1) es accD with
                | .ok (.lst acc') => comp2 γ τ ι1 vs1 γ1 τ1 φ (wipeE env vs) (ds.drop (i + 1)) acc'
                | _ => .bad)
              | _ => .bad) := hp2
            refine ⟨H0, M0, addM M Dd, env1, g2.mono e3, ?_⟩
            cases qi : ι1 env1 with
            | bad => rw [qi] at hp3; exact hp3.elim
            | exc c fs => rw [qi] at hp3; exact hp3.elim
            | ok es =>
              rw [qi] at hp3
              intro J1 H4 e4 ok4
              obtain ⟨acc', qc, hp4⟩ : ∃ acc', compL γ1 τ1 φ (wipeE env1 vs1) es accD = .ok (.lst acc') ∧ PostN X W M σ H Q (comp2 γ τ ι1 vs1 γ1 τ1 φ (wipeE env vs) (ds.drop (i + 1)) acc') := by
                have hp4 : PostN X W M σ H Q (match compL γ1 τ1 φ (wipeE env1 vs1) es accD with
                  | .ok (.lst acc') => comp2 γ τ ι1 vs1 γ1 τ1 φ (wipeE env vs) (ds.drop (i + 1)) acc'
                  | _ => .bad) := hp3
                cases qc : compL γ1 τ1 φ (wipeE env1 vs1) es accD with
                | bad => rw [qc] at hp4; exact hp4.elim
                | exc _ _ => rw [qc] at hp4; exact hp4.elim
                | ok r =>
                  obtain ⟨l, rfl⟩ := compL_lst qc
                  rw [qc] at hp4
                  exact ⟨l, rfl, hp4⟩
              have E4 : Ext Hc H4 := (ey.trans e3).trans e4
              refine ⟨fun j k Hk => k = es.length - j ∧ ∃ (acc : List V) (accD : List D), Good (gm X) H0 M0 (addM M Dd) Hk (L2.wipe σ vs) (wipeE env vs) ∧ Good (gm X) H0 M0 (addM M Dd) Hk σ2 env1 ∧ Hk Dd = some (.lst acc) ∧ RpL (gm X) (Sh (addM M Dd) (vw Hk)) accD acc ∧
                VEx (Sh M (vw H1)) (Sh (addM M Dd) (vw Hk)) ∧ VEx (Sh (addM M Dd) (vw H4)) (Sh (addM M Dd) (vw Hk)) ∧ Ext H1 Hk ∧ compL γ1 τ1 φ (wipeE env1 vs1) (es.drop j) accD = .ok (.lst acc'),
                ⟨es.length, rfl, acc, accD, gc.mono E4, (g2.mono e3).mono e4, E4 _ _ hx, rx.mono (Sh_mono E4.v), ve.trans (Sh_mono E4.v), .refl _, ex.trans E4, by rw [List.drop_zero]; exact qc⟩, ?_⟩
              rintro j k Hk ⟨rfl, acc2, accD2, gc2, gs2, hx2, rx2, ve2, vi2, ex2, hc2⟩
              obtain ⟨p1, p2⟩ := ok4 _ Hk gs2.ok gs2.ex vi2 j
              cases qe : es[j]? with
              | none =>
                have hj : es.length ≤ j := List.getElem?_eq_none_iff.mp qe
                rw [List.drop_of_length_le hj] at hc2
                cases hc2
                exact .inl ⟨p1 hj, acc2, _, gc2, hx2, rx2, ve2, ex2, hp4⟩
              | some u =>
                obtain ⟨p3, p4⟩ := p2 u qe
                have hj : j < es.length := (List.getElem?_eq_some_iff.mp qe).1
                have hdr2 : es.drop j = u :: es.drop (j + 1) := by
                  rw [List.drop_eq_getElem_cons hj]
                  rw [List.getElem?_eq_getElem hj] at qe
                  cases qe; rfl
                rw [hdr2] at hc2
                unfold compL at hc2
                refine .inr ⟨p3, fun Hk' => ∃ (acc : List V) (accD : List D), Good (gm X) H0 M0 (addM M Dd) Hk' (L2.wipe σ vs) (wipeE env vs) ∧ Good (gm X) H0 M0 (addM M Dd) Hk' σ2 env1 ∧ Hk' Dd = some (.lst acc) ∧ RpL (gm X) (Sh (addM M Dd) (vw Hk')) accD acc ∧
                  VEx (Sh M (vw H1)) (Sh (addM M Dd) (vw Hk')) ∧ VEx (Sh (addM M Dd) (vw H4)) (Sh (addM M Dd) (vw Hk')) ∧ Ext H1 Hk' ∧ compL γ1 τ1 φ (wipeE env1 vs1) (es.drop (j + 1)) accD = .ok (.lst acc'), fun Hk' w => ⟨es.length - (j + 1), by omega, rfl, w⟩, fun x1 H5 y1 => ?_⟩
                obtain ⟨ey1, ry1⟩ := p4 x1 H5 y1
                cases qg1 : γ1 u (wipeE env1 vs1) with
                | none => rw [qg1] at hc2; cases hc2
                | some env3 =>
                  rw [qg1] at hc2
                  refine ⟨H0, M0, addM M Dd, _, env3, u, (gs2.mono ey1).wipe vs1, ry1, qg1, fun σ3 g3 w3 => ⟨by rw [w3, wipe_wipe], ?_⟩⟩
                  refine ⟨H0, M0, addM M Dd, env3, g3, ?_⟩
                  have hc3 : (match τ1 env3 with
                    | .ok true => (match φ env3 with
                      | .ok y => if accD2.length < sizeLine then compL γ1 τ1 φ (wipeE env1 vs1) (es.drop (j + 1)) (accD2 ++ [y]) else .bad
                      | _ => .bad)
                    | .ok false => compL γ1 τ1 φ (wipeE env1 vs1) (es.drop (j + 1)) accD2
                    | _ => .bad) = Res.ok (D.lst acc') := hc2
                  cases qt1 : τ1 env3 with
                  | bad => rw [qt1] at hc3; cases hc3
                  | exc c fs => rw [qt1] at hc3; cases hc3
                  | ok b1 =>
                    rw [qt1] at hc3
                    intro H6 e6
                    have E6 : Ext Hk H6 := ey1.trans e6
                    cases b1 with
                    | false =>
                      rw [if_neg Bool.false_ne_true]
                      exact ⟨acc2, accD2, gc2.mono E6, gs2.mono E6, E6 _ _ hx2, rx2.mono (Sh_mono E6.v), ve2.trans (Sh_mono E6.v), vi2.trans (Sh_mono E6.v), ex2.trans E6, hc3⟩
                    | true =>
                      rw [if_pos rfl]
                      refine ⟨H0, M0, addM M Dd, env3, g3.mono e6, ?_⟩
                      have hc4 : (match φ env3 with
                        | .ok y => if accD2.length < sizeLine then compL γ1 τ1 φ (wipeE env1 vs1) (es.drop (j + 1)) (accD2 ++ [y]) else .bad
                        | _ => .bad) = Res.ok (D.lst acc') := hc3
                      cases qf : φ env3 with
                      | bad => rw [qf] at hc4; cases hc4
                      | exc c fs => rw [qf] at hc4; cases hc4
                      | ok yD =>
                        rw [qf] at hc4
                        intro v H7 e7 r7
                        have hc5 : (if accD2.length < sizeLine then compL γ1 τ1 φ (wipeE env1 vs1) (es.drop (j + 1)) (accD2 ++ [yD]) else .bad) = Res.ok (D.lst acc') := hc4
                        by_cases cz : accD2.length < sizeLine
                        · rw [if_pos cz] at hc5
                          have E7 : Ext Hk H7 := E6.trans e7
                          have hH0 := g.h0 (e1.fresh hD)
                          have rx7 : RpL (gm X) (Sh (addM M Dd) (vw H7)) accD2 acc2 := rx2.mono (Sh_mono E7.v)
                          refine ⟨acc2, E7 _ _ hx2, by rw [← rx2.length]; exact cz, acc2 ++ [v], accD2 ++ [yD], (gc2.mono E7).turn addM_self hH0 hs0, (gs2.mono E7).turn addM_self hH0 hs2, upd_same, ?_, ?_, ?_, ?_, hc5⟩
                          · rw [sh_mut addM_self]; exact rx7.append (.cons r7 .nil)
                          · rw [sh_mut addM_self]; exact ve2.trans (Sh_mono E7.v)
                          · rw [sh_mut addM_self]; exact vi2.trans (Sh_mono E7.v)
                          · exact (ex2.trans E7).mut hD
                        · rw [if_neg cz] at hc5; cases hc5
theorem vf_lc2 {own : List (Str × Nat)} (vs1 : List Nat) (hc : X.calm = true) (hN : X.N.Nodup) (hi : VI X W tg iter ι) (ok : BlkOk X.N X.env.scope scope own) (hv : ∀ i ∈ vs1, i ∈ own.map (·.2)) (kg : KeepG γ)
    (hg : ∀ (s : Shared) (H : Hp) (C : Addr) (cl : List (Str × Addr)) (fp : List Addr), VGc (own.map (·.2)) (X.blk s H scope (compEnvC scope cl C X.env) fp) tg γ)
    (ht : ∀ (s : Shared) (H : Hp) (C : Addr) (cl : List (Str × Addr)) (fp : List Addr), VTs (X.blk s H scope (compEnvC scope cl C X.env) fp) W0 ifs τ)
    (hi1 : ∀ (s : Shared) (H : Hp) (C : Addr) (cl : List (Str × Addr)) (fp : List Addr), VI (X.blk s H scope (compEnvC scope cl C X.env) fp) W0 tg1 iter1 ι1)
    (hg1 : ∀ (s : Shared) (H : Hp) (C : Addr) (cl : List (Str × Addr)) (fp : List Addr), VGc vs1 (X.blk s H scope (compEnvC scope cl C X.env) fp) tg1 γ1)
    (ht1 : ∀ (s : Shared) (H : Hp) (C : Addr) (cl : List (Str × Addr)) (fp : List Addr), VTs (X.blk s H scope (compEnvC scope cl C X.env) fp) W0 ifs1 τ1)
    (he : ∀ (s : Shared) (H : Hp) (C : Addr) (cl : List (Str × Addr)) (fp : List Addr), VE (X.blk s H scope (compEnvC scope cl C X.env) fp) W0 true elt φ)
    (hs : ∀ x, foldedSetIterable iter X.env x = pure x := by intro _; rfl) (hs1 : ∀ env x, foldedSetIterable iter1 env x = pure x := by intro _ _; rfl) :
    VF X W (.ListComp elt [⟨tg, iter, ifs, 0⟩, ⟨tg1, iter1, ifs1, 0⟩] scope pos) (lc2E (own.map (·.2)) vs1 γ ι τ γ1 ι1 τ1 φ) := by
  obtain ⟨wi, pi, ri⟩ := hi
  obtain ⟨pg, pt, pe⟩ := lc_parts hg ht he
  have pg1 : ∀ (s : Shared) (H : Hp) (C : Addr) (cl : List (Str × Addr)) (fp : List Addr), PG (X.blk s H scope (compEnvC scope cl C X.env) fp) tg1 (tGc (gm X) vs1 γ1) := fun s H C cl fp => by
    obtain ⟨g, p, r⟩ := hg1 s H C cl fp
    exact ⟨fun pins s1 σ1 H1 v u Q I rv ⟨H0, M0, M, env, env', d, g0, rp, e, k⟩ => p.run pins s1 σ1 H1 v u Q I rv (r H0 M0 M H1 σ1 env env' d v Q g0 rp e k)⟩
  have pt1 : ∀ (s : Shared) (H : Hp) (C : Addr) (cl : List (Str × Addr)) (fp : List Addr), PTs (X.blk s H scope (compEnvC scope cl C X.env) fp) ifs1 (tVT (gm X) X W0 τ1) := fun s H C cl fp => by
    obtain ⟨g, p, r⟩ := ht1 s H C cl fp
    exact ⟨fun pins s1 σ1 H1 Q I ⟨H0, M0, M, env, g0, k⟩ => p.run pins s1 σ1 H1 Q I (r H0 M0 M H1 σ1 env Q g0 k)⟩
  have pi1 : ∀ (s : Shared) (H : Hp) (C : Addr) (cl : List (Str × Addr)) (fp : List Addr), PI (X.blk s H scope (compEnvC scope cl C X.env) fp) tg1 iter1 (tVI (gm X) X ι1) := fun s H C cl fp => by
    obtain ⟨w1, p, r⟩ := hi1 s H C cl fp
    exact ⟨fun pins s1 σ1 H1 R I ⟨H0, M0, M, env, g0, k⟩ => p.run pins s1 σ1 H1 R I (r H0 M0 M H1 σ1 env R g0 k)⟩
  exact ⟨_, pe_lc2 hc hN pi ok hv pg pt pi1 pg1 pt1 pe hs hs1, fun H0 M0 M H σ env Q g h => lc2_read _ _ kg (fun R => ri H0 M0 M H σ env R g) g h⟩
end
end VL

set_option maxRecDepth 100000
set_option maxHeartbeats 2000000
set_option autoImplicit false
namespace VL
open PySem L2
theorem tyq_of {p : String → Prop} (h1 : p "NoneType") (h2 : p "bool") (h3 : p "int") (h4 : p "str") (h5 : p "tuple") (h6 : p "list") (h7 : p "dict") : ∀ S ∈ tyNames, p S := fun S hS => by
  rcases List.mem_cons.mp hS with rfl | hS
  · exact h1
  rcases List.mem_cons.mp hS with rfl | hS
  · exact h2
  rcases List.mem_cons.mp hS with rfl | hS
  · exact h3
  rcases List.mem_cons.mp hS with rfl | hS
  · exact h4
  rcases List.mem_cons.mp hS with rfl | hS
  · exact h5
  rcases List.mem_cons.mp hS with rfl | hS
  · exact h6
  · rw [List.mem_singleton.mp hS]; exact h7
theorem kitOne_ty {K : PySem.W.Frag} {D : Addr} {S : String} (h2 : PySem.W.isClsIn K D = true) (h3 : PySem.W.typeIn K (.ref D) = some (.type "type")) (h4 : PySem.W.subIn K (.type S) (.ref D) = some false) : PySem.W.kitOne K (.type S) (.ref D) = some false := by
  have e0 : (Value.type S == Value.ref D) = false := rfl
  show (if (Value.type S == Value.ref D) = true then some true else (if ((PySem.W.clsIn K D).isSome && PySem.W.typeIn K (.ref D) == some (.type "type")) = true then PySem.W.subIn K (.type S) (.ref D) else none)) = _
  rw [e0, if_neg Bool.false_ne_true, show (PySem.W.clsIn K D).isSome = true from h2, h3, if_pos (by simp), h4]
theorem op_neZ1 {X : Cx} (hu : X.A.units + 65 < cLine) : OpR X (compareOp .NotEq) (fun x y H Q => (rNeD X.K x y H Q ∨ rNeK x y H Q) ∨ rNeT x y H Q) := op_neZ (by omega)
theorem op_leX1 {X : Cx} (hu : X.A.units + 1 < cLine) : OpR X (compareOp .LtE) (rLeX X.K) := op_leX (by omega)
end VL

set_option maxRecDepth 100000
set_option maxHeartbeats 2000000
set_option autoImplicit false
namespace VL
open PySem L2
section
variable {P : Program} {w : World} {H : Hp} {h : Heap} {a : Addr}
end
section
variable {P : Program} {w : World} {H : Hp} {h : Heap} {a : Addr} {kvs : List (NK × Addr × V)}
end
section
variable {X : Cx} {pins : List (Addr × Obj)} {σ : St} {H : Hp} {s : Shared} {a q : Addr} {A : Around} {E : Value → Shared → Prop} {G : Vw} {kvs : List (NK × Addr × V)} {k : NK} {v : V} {r : Value}
structure NRd (X : Cx) (H : Hp) (a q : Addr) (kvs : List (NK × Addr × V)) (k : NK) : Prop where
  rd : Rd H a (nDict X.w a kvs)
  ks : ∀ e ∈ kvs, NTup H e.1 e.2.1
  ky : NTup H k q
end
end VL

set_option maxRecDepth 100000
set_option maxHeartbeats 2000000
set_option autoImplicit false
namespace VL
open PySem L2
theorem NItem.to {G G' : Vw} (e : ∀ a xs, G a = some (.tup xs) → G' a = some (.tup xs)) {k : Sum Key (List Key)} {x : V} (h : NItem G k x) : NItem G' k x := by
  cases k with
  | inl k => exact h
  | inr ks => obtain ⟨b, h1, h2⟩ := h; exact ⟨b, h1, e _ _ h2⟩
theorem NItems.to {G G' : Vw} (e : ∀ a xs, G a = some (.tup xs) → G' a = some (.tup xs)) : ∀ {k : NK} {xs : List V}, NItems G k xs → NItems G' k xs
  | _, _, .nil => .nil
  | _, _, .cons a b => .cons (a.to e) (b.to e)
theorem NTup.to {G G' : Vw} (e : ∀ a xs, G a = some (.tup xs) → G' a = some (.tup xs)) {k : NK} {q : Addr} (h : NTup G k q) : NTup G' k q := by
  obtain ⟨xs, h1, h2⟩ := h
  exact ⟨xs, e _ _ h1, h2.to e⟩
section
variable {X : Cx} {W : WX} {fla flb fl : Bool} {a b value : Expr} {φa φb : Env → Res D} {pos pos' : Pos}
end
end VL

set_option maxRecDepth 100000
set_option maxHeartbeats 2000000
set_option autoImplicit false
namespace VL
open PySem L2
section
variable {X : Cx} {W : WX} {fla flb fl : Bool} {a b value : Expr} {φa φb : Env → Res D} {pos pos' : Pos}
end
end VL

set_option maxRecDepth 100000
set_option maxHeartbeats 2000000
set_option autoImplicit false
namespace VL
open PySem L2
section
variable {X : Cx} {pins : List (Addr × Obj)} {σ : St} {H : Hp} {s : Shared} {d : Addr} {o : Obj} {kvs : List (NK × Addr × V)}
end
section
variable {P : Program} {w : World} {K : PySem.W.Frag} {tg : Expr} {d : Addr} {o : Obj} {es : Array DictEntry} {ep : Nat} {kvs : List (NK × Addr × V)}
end
section
variable {X : Cx} {tg e : Expr} {td : TE} {apos cpos : Pos}
end
end VL

set_option maxRecDepth 100000
set_option maxHeartbeats 2000000
set_option autoImplicit false
namespace VL
open PySem L2
section
variable {X : Cx} {W : WX} {tg elt kx vx : Expr} {ifs : List Expr} {scope : Scope} {own : List (Str × Nat)} {pos : Pos} {γ : D → Env → Option Env} {τ : Env → Res Bool} {φ φk φv : Env → Res D}
end
end VL

set_option maxRecDepth 100000
set_option maxHeartbeats 2000000
set_option autoImplicit false
namespace VL
open PySem L2
section
variable {X : Cx} {W : WX} {tg elt iter : Expr} {ifs : List Expr} {scope : Scope} {own : List (Str × Nat)} {pos : Pos} {γ : D → Env → Option Env} {τ : Env → Res Bool} {φ φd : Env → Res D}
end
end VL

set_option maxRecDepth 100000
set_option maxHeartbeats 2000000
set_option autoImplicit false
namespace VL
open PySem L2
section
variable {X : Cx} {W : WX} {flb fl : Bool} {b : Expr} {φb : Env → Res D} {pos : Pos}
end
end VL

set_option maxRecDepth 100000
set_option maxHeartbeats 2000000
set_option autoImplicit false
namespace VL
open PySem L2
def dct : Option HO → Bool
  | some (.dK _) => true
  | some (.dT _) => true
  | some (.ext _) => true
  | _ => false
def dm (M : Addr → Bool) (H : Hp) (a : Addr) : Bool := M a && !dct (H a)
def nodic : D → Bool
  | .tup ds => nodics ds
  | .lst ds => nodics ds
  | .scr _ => false
  | .dic _ _ => false
  | .ins _ _ => false
  | .exn _ _ => false
  | .sel _ _ _ => false
  | _ => true
where nodics : List D → Bool
  | [] => true
  | d :: ds => nodic d && nodics ds
mutual
theorem Rp.nd {mg : Gm} {G G' : Vw} (e : ∀ a xs, G a = some (.tup xs) → G' a = some (.tup xs)) (e2 : ∀ a xs, G a = some (.lst xs) → G' a = some (.lst xs)) : ∀ {d : D} {v : V}, Rp mg G d v → nodic d = true → Rp mg G' d v
  | _, _, .non, _ => .non
  | _, _, .bl b, _ => .bl b
  | _, _, .int i, _ => .int i
  | _, _, .str s, _ => .str s
  | _, _, .tup h r, q => .tup (e _ _ h) (RpL.nd e e2 r q)
  | _, _, .lst h r, q => .lst (e2 _ _ h) (RpL.nd e e2 r q)
  | _, _, .scr h, q => by cases q
  | _, _, .dicK h k r, q => by cases q
  | _, _, .dicT h k r, q => by cases q
  | _, _, .dicN h n k r, q => by cases q
  | _, _, .ins m h k r, q => by cases q
  | _, _, .sel m h k r, q => by cases q
  | _, _, .exn0 .., q => by cases q
  | _, _, .exnF .., q => by cases q
theorem RpL.nd {mg : Gm} {G G' : Vw} (e : ∀ a xs, G a = some (.tup xs) → G' a = some (.tup xs)) (e2 : ∀ a xs, G a = some (.lst xs) → G' a = some (.lst xs)) : ∀ {ds : List D} {vs : List V}, RpL mg G ds vs → nodic.nodics ds = true → RpL mg G' ds vs
  | _, _, .nil, _ => .nil
  | _, _, .cons h r, q => by
    obtain ⟨q1, q2⟩ := Bool.and_eq_true_iff.mp (show (nodic _ && nodic.nodics _) = true from q)
    exact .cons (Rp.nd e e2 h q1) (RpL.nd e e2 r q2)
end
def PostAd (X : Cx) (W : WX) (M : Addr → Bool) (σ : St) (H : Hp) (Q : List V → Hp → Prop) : Res (List D) → Prop
  | .ok ds => ∀ vs H', Ext H H' → RpL (gm X) (Sh (dm M H') (vw H')) ds vs → Q vs H'
  | .exc c fs => ∀ cls dd H', Ext H H' → RpX (gm X) (Sh M (vw H')) c fs cls dd → W cls dd σ H'
  | .bad => False
section
variable {X : Cx} {W : WX} {e : Expr} {es : List Expr} {pos p : Pos} {φ : Env → Res D} {φs : Env → Res (List D)} {k n : Nat} {x : Str} {ps : List Str} {F : List D → Res D}
theorem PostAd.mono {M : Addr → Bool} {σ : St} {H H' : Hp} {Q : List V → Hp → Prop} {r : Res (List D)} (h : PostAd X W M σ H Q r) (e : Ext H H') : PostAd X W M σ H' Q r := by
  cases r with
  | ok d => exact fun v H2 e2 r => h v H2 (e.trans e2) r
  | exc c fs => exact fun cls dd H2 e2 r => h cls dd H2 (e.trans e2) r
  | bad => exact h
end
end VL

set_option maxRecDepth 100000
set_option maxHeartbeats 2000000
set_option autoImplicit false
namespace VL
open PySem L2
section
variable {X : Cx} {W : WX} {e : Expr} {es : List Expr} {pos p : Pos} {φs : Env → Res (List D)}
end
end VL

set_option maxRecDepth 100000
set_option maxHeartbeats 2000000
set_option autoImplicit false
namespace VL
open PySem L2
@[irreducible] def fuelN (_ : Env) : Nat := 1000000
section
variable {X : Cx} {W : WX} {e : Expr} {pos : Pos} {φ : Env → Res D}
end
end VL

set_option maxRecDepth 100000
set_option maxHeartbeats 2000000
set_option autoImplicit false
namespace VL
open PySem L2 PyProof.Rows
section
variable {X : Cx} {W : WX} {tg elt kx vx iter : Expr} {ifs : List Expr} {scope : Scope} {own : List (Str × Nat)} {pos spos py : Pos} {γ : D → Env → Option Env} {τ : Env → Res Bool} {φ φk φv : Env → Res D} {ι : Env → Res (List D)}
end
end VL

set_option maxRecDepth 100000
set_option maxHeartbeats 2000000
set_option autoImplicit false
namespace VL
open PySem L2
section
variable {X : Cx} {W : WX} {fl : Bool} {e : Expr} {φ : Env → Res D}
end
end VL

set_option maxRecDepth 100000
set_option maxHeartbeats 2000000
set_option autoImplicit false
namespace VL
open PySem L2
section
variable {X : Cx} {CX : CXT} {k : Nat} {C f : Addr} {fd : FuncData} {ps : List Str} {sp : Sp} {pos : Pos} {a b : Expr} {ta tb : TE} {E : L2.St → XK} {op : CmpOp}
end
section
variable {X : Cx} {W : WX} {fl : Bool} {a b : Expr} {pos : Pos} {φa φb : Env → Res D} {c m : Str} {k : Nat} {ps : List Str} {F : List D → Res D} {op : CmpOp}
end
end VL
namespace VL
open PySem L2
end VL

set_option maxRecDepth 100000
set_option maxHeartbeats 2000000
set_option autoImplicit false
namespace VNe
open PySem PySem.Spec PyProof.Rows PySem.SeqAt
section
variable {M : Model} {prog : Program} {w : World} {A : Around} {E : Value → Shared → Prop} {s : Shared} {K : PySem.W.Frag} {x C L f : Addr} {h₀ : Heap} {m : Str → Option Value} {ox : Obj} {od : Option Obj} {b tb : Value}
open PySem.W in
end
end VNe
namespace VL
open PySem L2
section
variable {X : Cx} {CX : CXT} {k : Nat} {C f : Addr} {fd : FuncData} {ps : List Str} {sp : Sp} {pos : Pos} {a b : Expr} {ta tb : TE} {E : L2.St → XK}
end
structure OwnNe (K : PySem.W.Frag) (mg : Str → Option Value) (c : Str) : Prop where
  ex : ∀ C, mg c = some (.ref C) → PySem.W.notFirst K C (.type "int") = true ∧ PySem.W.notFirst K C (.type "list") = true ∧ PySem.W.findIn K (.ref C) "__ne__" = some (some (.builtin "object.__ne__")) ∧ PySem.W.mroIn K C (.type "object") = some true
section
variable {X : Cx} {W : WX} {fl : Bool} {a b : Expr} {pos : Pos} {φa φb : Env → Res D} {c : Str} {k : Nat} {ps : List Str} {F : List D → Res D}
end
end VL

set_option maxRecDepth 100000
set_option maxHeartbeats 2000000
set_option autoImplicit false
namespace VL
open PySem L2

section
variable {X : Cx} {W : WX} {fl : Bool} {e : Expr} {es : List Expr} {p : Pos} {φ : Env → Res D} {φs : Env → Res (List D)}
end
end VL

set_option maxRecDepth 100000
set_option maxHeartbeats 2000000
set_option autoImplicit false
namespace VL
open PySem L2

section
variable {X : Cx} {W : WX} {fl fla : Bool}
end
end VL

set_option maxRecDepth 100000
set_option maxHeartbeats 2000000
set_option autoImplicit false
namespace VL
open PySem L2

def revD : D → Res D
  | .lst ds => .ok (.lst ds.reverse)
  | _ => .bad
def revE (φ : Env → Res D) (env : Env) : Res D := (φ env).bind revD
theorem revE_eq (φ : Env → Res D) (env : Env) : revE φ env = r1 revD (φ env) := by
  unfold revE
  cases φ env <;> rfl
theorem rev_lst {ds : List D} : revD (.lst ds) = .ok (.lst ds.reverse) := rfl
section
variable {X : Cx} {W : WX} {fl : Bool} {e : Expr} {k : Nat} {p1 p2 p3 pos : Pos} {φ : Env → Res D}
theorem ve_rev (he : VE X W fl e φ) : VE X W fl (.Subscript e (.Slice none none (some (.UnaryOp .USub (.Constant (.int 1) k p1) p2)) p3) pos) (revE φ) := by
  obtain ⟨t, pt, r⟩ := he
  refine ⟨_, pe_revL pt, fun H0 M0 M H σ env Q g h => ?_⟩
  refine r H0 M0 M H σ env _ g (PostE.seq h fun d v H1 e1 r1 h1 => ?_)
  have m := g.ok.mono e1
  cases d <;> first | exact h1.elim | skip
  case lst ds =>
    cases r1 with
    | lst ha ra => exact ⟨_, _, rfl, .inl (vw_lst (vis_get ha)), fun p hp => h1 _ _ (Ext.new hp) (rp_newL m hp (rpl_rev ra))⟩
end
end VL

set_option maxRecDepth 100000
set_option maxHeartbeats 2000000
set_option autoImplicit false
namespace VL
open PySem L2 PyProof.Rows
theorem rd_uniq {H : Hp} {a : Addr} {u v : HO} (hu : ∀ o p, u ≠ .frz o p) (hv : ∀ o p, v ≠ .frz o p) (h : Rd H a u) (h' : Rd H a v) : u = v := by
  rcases h with h | ⟨o, h⟩ <;> rcases h' with h' | ⟨o', h'⟩ <;> rw [h] at h'
  · exact Option.some.inj h'
  · exact absurd (Option.some.inj h') (hu _ _)
  · exact absurd (Option.some.inj h').symm (hv _ _)
  · have := Option.some.inj h'
    injection this
section
variable {X : Cx} {P : Program} {w : World} {A : Around} {s : Shared} {H : Hp}
theorem eqp_dK {a b : Addr} {ks ls : List (Key × V)} (ok : HOk P w H s.heap) (hu : A.units + 64 < cLine) (ea : Rd H a (.dK ks)) (eb : Rd H b (.dK ls)) (ha : intsV ks) (hb : intsV ls) (hs : a = b → (ks.length == ls.length && sameV ks ls) = true) :
    SeqAt.EqP P w A s (.ref a) (.ref b) (ks.length == ls.length && sameV ks ls) := by
  by_cases c : a = b
  · subst c
    rw [hs rfl]
    exact fun E Q h => SeqAt.EqAt.same (.ref a) _ _ _ _ h
  · refine SeqAt.eqP_refs c fun E Q h => ?_
    obtain ⟨_, ya, xs, ra, da⟩ := dk_rd ok ea
    obtain ⟨_, yb, ys, rb, db⟩ := dk_rd ok eb
    refine PySem.W.rcP_dicts (knd := mixKind P w) (r := sameV ks ls) ya yb da db (by omega) (fun _ => hits_K rb hb ra ha) _ _ ?_
    rw [← ra.length, ← rb.length]
    exact h
variable {W : WX} {fl fla flb : Bool}
end
end VL

set_option maxRecDepth 100000
set_option maxHeartbeats 2000000
set_option autoImplicit false
namespace PySem.SeqAt
open AutoSeq1 (wpAny_loadPart')
open MeetsSeq MeetsSeq2 MeetsSeq3 SeqRoads2
section
variable {P : Program} {Wd : World}
theorem vne_run (c d : Addr) (us vs : Array Value) (m1 m2 : Nat) (o1 o2 : Option Addr) (q1 q2 : Array (Option Value)) (same : us.size = vs.size) (g : Nat → Bool) : ∀ m i : Nat, us.size - i = m →
    MeetsIn P Wd (Builtin.«list.__eq__.loop» ⟨[.ref c, .ref d, rawInt i, rawInt 3], []⟩) (fun B Z t =>
      t.heap.get? c = some { cls := .type "list", dict := o1, data := .seq us m1, slots := q1 } ∧
      t.heap.get? d = some { cls := .type "list", dict := o2, data := .seq vs m2, slots := q2 } ∧
      (∀ j (f1 : j < us.size) (f2 : j < vs.size), EqP P Wd B.in1 t us[j] vs[j] (g j)) ∧
      Z (.ok (.ret (.bool (!((List.range us.size).drop i).all g)))) t)
  | 0, i, hm => by
    rintro B Z ⟨th, tg, td, tt, to⟩ ⟨gc, gd, _, fin⟩
    wp_walk using wpAny_loadPart' gc, wpAny_loadPart' gd
    rw [show us[((i : Nat) : Int).toNat]? = none by simp; omega, show vs[((i : Nat) : Int).toNat]? = none by simp; omega]
    rw [show (List.range us.size).drop i = [] by simp; omega] at fin
    wp_walk using wpAny_loadPart' gc, wpAny_loadPart' gd
    show Z (.ok (.ret (.bool (us.size != vs.size)))) _
    rw [same]
    simpa using fin
  | m + 1, i, hm => by
    rintro B Z ⟨th, tg, td, tt, to⟩ ⟨gc, gd, each, fin⟩
    have f1 : i < us.size := by omega
    have f2 : i < vs.size := by omega
    wp_walk using wpAny_loadPart' gc, wpAny_loadPart' gd
    rw [show us[((i : Nat) : Int).toNat]? = some us[i] by simp [f1], show vs[((i : Nat) : Int).toNat]? = some vs[i] by simp [f2]]
    rw [show (List.range us.size).drop i = i :: (List.range us.size).drop (i + 1) by simp [List.drop_eq_getElem_cons, f1], List.all_cons] at fin
    refine wpAny_bind (each i f1 f2 _ _ ?_)
    by_cases gi : g i = true
    · rw [gi, Bool.true_and] at fin
      rw [gi]
      wp_walk
      rw [show ((i : Int) + 1) = ((i + 1 : Nat) : Int) by push_cast; rfl]
      exact ⟨plainId_quiet plain_eq_loop _, codeAny_builtin entry_eq_loop (by
        rw [Around.under_plainId plain_eq_loop _]
        exact vne_run c d us vs m1 m2 o1 o2 q1 q2 same g m (i + 1) (by omega) B Z _ ⟨gc, gd, each, fin⟩)⟩
    · have gi := Bool.eq_false_iff.mpr gi
      rw [gi, Bool.false_and] at fin
      rw [gi]
      wp_walk using wpAny_loadPart' gc, wpAny_loadPart' gd
      rw [show us[((i : Nat) : Int).toNat]? = some us[i] by simp [f1], show vs[((i : Nat) : Int).toNat]? = some vs[i] by simp [f2]]
      wp_walk
      simpa using fin
theorem vne_list (c d : Addr) (us vs : Array Value) (m1 m2 : Nat) (o1 o2 : Option Addr) (q1 q2 : Array (Option Value)) (same : us.size = vs.size) (g : Nat → Bool) :
    MeetsIn P Wd (Builtin.«list.__ne__» ⟨[.ref c, .ref d], []⟩) (fun B Z t =>
      t.heap.get? c = some { cls := .type "list", dict := o1, data := .seq us m1, slots := q1 } ∧
      t.heap.get? d = some { cls := .type "list", dict := o2, data := .seq vs m2, slots := q2 } ∧
      (∀ j (f1 : j < us.size) (f2 : j < vs.size), EqP P Wd B.in1 t us[j] vs[j] (g j)) ∧
      Z (.ok (.ret (.bool (!(List.range us.size).all g)))) t) := by
  rintro B Z ⟨th, tg, td, tt, to⟩ ⟨gc, gd, each, fin⟩
  have sub := AutoSeq1.sub_list_list
  have nsz : ¬ (us.size != vs.size) = true := by simp [same]
  wp_walk using wpAny_loadPart' gc, wpAny_loadPart' gd
  exact ⟨plainId_quiet plain_eq_loop _, codeAny_builtin entry_eq_loop (by
    rw [Around.under_plainId plain_eq_loop _]
    exact vne_run c d us vs m1 m2 o1 o2 q1 q2 same g _ 0 rfl B Z _ ⟨gc, gd, each, by simpa using fin⟩)⟩
theorem vne_lists {B : Around} {t : Shared} {c d : Addr} {us vs : Array Value} {g : Nat → Bool} (lc : t.heap.IsList c us) (ld : t.heap.IsList d vs) (same : us.size = vs.size) (room : B.units < cLine)
    (each : ∀ j (f1 : j < us.size) (f2 : j < vs.size), EqP P Wd B.in1 t us[j] vs[j] (g j)) (E Q : Value → Shared → Prop) (fin : Q (.bool (!(List.range us.size).all g)) t) : wpAny (model P Wd) B (richCompare .NotEq (.ref c) (.ref d)) Q E t := by
  obtain ⟨⟨k1, o1, x1, q1⟩, gc, e1, m1, e2⟩ := id lc
  obtain ⟨⟨k2, o2, x2, q2⟩, gd, e3, m2, e4⟩ := id ld
  simp only at e1 e2 e3 e4
  subst e1 e2 e3 e4
  have tc : t.TypeIs (.ref c) "list" := ⟨_, gc, rfl⟩
  have td : t.TypeIs (.ref d) "list" := ⟨_, gd, rfl⟩
  refine wpAny_richCompare_same_room (op := .NotEq) tc td F.slot_list_ne (call_meetsIn F.slot_list_ne tc F.entry_list_ne (F.args_list_ne_2 _ _) (vne_list c d us vs m1 m2 o1 o2 q1 q2 same g) ⟨gc, gd, each, ?_⟩) room
  exact show Value.bool _ ≠ Value.notImplemented ∧ _ from ⟨(fun x => nomatch x), fin⟩
end
end PySem.SeqAt
namespace VL
open PySem L2 PyProof.Rows
section
variable {X : Cx}
variable {W : WX} {fl fla flb : Bool}
end
end VL

set_option maxRecDepth 100000
set_option maxHeartbeats 2000000
namespace VL
open PySem L2
abbrev kwG : List Value → List Value → List Value := fun us ws => us ++ ws
abbrev kwV : List V → List V → List V := fun vs zs => vs ++ zs
structure RawKw (K : PySem.W.Frag) (mg : Str → Option Value) (x : Str) (st : Stmt) (ps : List Str) (m : Nat) (ks : List Str) : Prop where
  ex : ∃ (f : Addr) (fd : FuncData), mg x = some (.ref f) ∧ Fun K x x st f fd ∧ KBn K fd ps m ks kwG kwV
structure DefOkKw (P : Program) (w : World) (K : PySem.W.Frag) (mg : Str → Option Value) (base : Heap) (x : Str) (k : Nat) (ps : List Str) (m : Nat) (ks : List Str) (n : Nat) (F : List D → Res D) : Prop where
  ex : ∃ (f : Addr) (fd : FuncData), mg x = some (.ref f) ∧ PySem.W.keepIn K (.ref f) = true ∧ KBn K fd ps m ks kwG kwV ∧ FnOk P w K mg base (L2N.CX P w) k f fd ps (spV ⟨P, w, K, mg⟩ n F)
section
variable {X : Cx} {W : WX} {fl : Bool} {k m n : Nat} {f : Addr} {fd : FuncData} {ps ks : List Str} {sp : Sp} {x : Str} {p pos : Pos} {e : Expr} {es : List Expr} {kws : List Keyword} {t tk : TA} {F : List D → Res D}
end
end VL

set_option maxRecDepth 100000
set_option maxHeartbeats 2000000
set_option autoImplicit false
namespace VL
open PySem L2
section
variable {X : Cx} {CX : CXT} {k : Nat} {C f : Addr} {fd : FuncData} {ps : List Str} {sp : Sp} {pos : Pos} {a b : Expr} {ta tb : TE} {E : L2.St → XK} {op : Operator}
end
section
variable {X : Cx} {W : WX} {fl : Bool} {a b : Expr} {pos : Pos} {φa φb : Env → Res D} {c m : Str} {k : Nat} {ps : List Str} {F : List D → Res D} {op : Operator}
end
end VL

set_option maxRecDepth 100000
set_option maxHeartbeats 2000000
set_option autoImplicit false
namespace VL
open PySem L2
section
open DT
end
section
variable {X : Cx}
end
section
variable {X : Cx} {W : WX} {fla : Bool} {e : Expr} {pos : Pos} {φk : Env → Res D}
end
end VL

set_option maxRecDepth 100000
set_option maxHeartbeats 2000000
namespace VL
open PySem L2
section
variable {X : Cx} {W : WX} {tg elt : Expr} {ifs : List Expr} {scope : Scope} {own : List (Str × Nat)} {pos : Pos} {γ : D → Env → Option Env} {τ : Env → Res Bool} {φ : Env → Res D}
end
end VL

set_option maxRecDepth 100000
set_option maxHeartbeats 2000000
namespace VL
open PySem L2
def LastOk (mg : Gm) (H0 : Hp) (M0 : Addr → Bool) (H' : Hp) (ds : List VL.D) (v : V) : Prop :=
  ∃ (t q : Addr) (xs : List V) (ds' es : List VL.D), v = .ref t ∧ ds = ds' ++ [.lst es] ∧ H' t = some (.tup (xs ++ [.ref q])) ∧ xs.length = ds'.length ∧ H0 q = none ∧ OwOk mg (addM M0 q) H' q (.lst es)
def PostL (X : Cx) (W : WX) (H0 : Hp) (M0 M : Addr → Bool) (H : Hp) (D : Ends) : SRes → Prop
  | .rt (.tup ds) => ∀ v H', Ext H0 H' → LastOk (gm X) H0 M0 H' ds v → D.rt v H'
  | .rt _ => False
  | r => PostS X W H0 M0 M H D r
section
variable {X : Cx} {W : WX} {st : Stmt} {sts : List Stmt} {ψ χ : Env → SRes} {H0 H H' : Hp} {M0 M M' : Addr → Bool} {D : Ends} {r : SRes}
theorem PostL.mono (h : PostL X W H0 M0 M H D r) (e : VEx (Sh M (vw H)) (Sh M' (vw H'))) : PostL X W H0 M0 M' H' D r := by
  cases r with
  | rt d => cases d <;> exact h
  | nx env => exact PostS.mono (W := W) (D := D) (r := .nx env) h e
  | bk env => exact PostS.mono (W := W) (D := D) (r := .bk env) h e
  | ct env => exact PostS.mono (W := W) (D := D) (r := .ct env) h e
  | xc c fs env => exact PostS.mono (W := W) (D := D) (r := .xc c fs env) h e
  | bad => exact h
  | ro d => exact PostS.mono (W := W) (D := D) (r := .ro d) h e
end
section
end
section
variable {X : Cx} {W : WX} {a0 a1 a2 : Expr} {φ0 φ1 φ2 : Env → Res VL.D} {pos pos' px : Pos}
end
def PostLd (mg : Gm) (M : Addr → Bool) (H : Hp) (Q : VK) (E : XK) : Res VL.D → Prop
  | .ok (.tup ds) => ∀ v H', Ext H H' → LastOk mg H M H' ds v → Q v H'
  | .ok _ => False
  | .exc c fs => ∀ cls dd H', Ext H H' → RpX mg (Sh M (vw H')) c fs cls dd → E cls dd H'
  | .bad => False
def spL (mg : Gm) (n : Nat) (F : List VL.D → Res VL.D) : Sp := fun vs H Q E => vs.length = n ∧ ∃ (M : Addr → Bool) (ds : List VL.D), MOk M H ∧ RpL mg (Sh M (vw H)) ds vs ∧ PostLd mg M H Q E (F ds)
structure DefOkL (P : Program) (w : World) (K : PySem.W.Frag) (mg : Str → Option Value) (base : Heap) (x : Str) (k : Nat) (ps : List Str) (n : Nat) (F : List D → Res D) : Prop where
  ex : ∃ (f : Addr) (fd : FuncData), mg x = some (.ref f) ∧ PySem.W.keepIn K (.ref f) = true ∧ Binds K fd ps [] ∧ FnOk P w K mg base (L2N.CX P w) k f fd ps (spL ⟨P, w, K, mg⟩ n F)
section
variable {P : Program} {w : World} {K : PySem.W.Frag} {mg : Str → Option Value} {base : Heap} {x qual : Str} {st : Stmt} {N ps : List Str} {k n : Nat} {ψ : Env → SRes} {F G : List D → Res D}
variable {X : Cx} {W : WX} {e b : Expr} {es : List Expr} {pos pos2 p : Pos} {φs : Env → Res (List D)}
end
end VL

set_option maxRecDepth 100000
set_option maxHeartbeats 2000000
namespace VL
open PySem L2
def PostKp (X : Cx) (H0 : Hp) (M0 M : Addr → Bool) (H : Hp) (v : Option (Option V)) (i : Nat) (D : Ends) : SRes → Prop
  | .nx env => ∀ M' H' σ', Good (gm X) H0 M0 M' H' σ' env → VEx (Sh M (vw H)) (Sh M' (vw H')) → σ'[i]? = v → D.nx σ' H'
  | .bk env => ∀ M' H' σ', Good (gm X) H0 M0 M' H' σ' env → VEx (Sh M (vw H)) (Sh M' (vw H')) → σ'[i]? = v → D.bk σ' H'
  | .ct env => ∀ M' H' σ', Good (gm X) H0 M0 M' H' σ' env → VEx (Sh M (vw H)) (Sh M' (vw H')) → σ'[i]? = v → D.ct σ' H'
  | _ => False
def VSK (X : Cx) (W : WX) (i : Nat) (st : Stmt) (ψ : Env → SRes) : Prop :=
  ∃ t : TS, PS X st t ∧ ∀ (H0 : Hp) (M0 M : Addr → Bool) (H : Hp) (σ : L2.St) (env : Env) (D : Ends), Good (gm X) H0 M0 M H σ env → PostKp X H0 M0 M H σ[i]? i D (ψ env) → t D σ H
def VBK (X : Cx) (W : WX) (i : Nat) (st : List Stmt) (ψ : Env → SRes) : Prop :=
  ∃ t : TS, PSs X st t ∧ ∀ (H0 : Hp) (M0 M : Addr → Bool) (H : Hp) (σ : L2.St) (env : Env) (D : Ends), Good (gm X) H0 M0 M H σ env → PostKp X H0 M0 M H σ[i]? i D (ψ env) → t D σ H
section
variable {X : Cx} {W : WX} {i : Nat} {st : Stmt} {sts : List Stmt} {e : Expr} {pos : Pos} {ψ χ : Env → SRes} {φ : Env → Res VL.D} {τ : Env → Res Bool} {fla : Bool}
theorem PostKp.mono {H0 H H' : Hp} {M0 M M' : Addr → Bool} {v : Option (Option V)} {D : Ends} {r : SRes} (h : PostKp X H0 M0 M H v i D r) (e : VEx (Sh M (vw H)) (Sh M' (vw H'))) : PostKp X H0 M0 M' H' v i D r := by
  cases r <;> first | exact h | exact fun M2 H2 σ2 g e2 hv => h M2 H2 σ2 g (e.trans e2) hv
theorem vbk_one (h1 : VSK X W i st ψ) : VBK X W i [st] ψ := by
  obtain ⟨t, p, r⟩ := h1
  exact ⟨_, pss_one p, r⟩
theorem vbk_cons (h1 : VSK X W i st ψ) (h2 : VBK X W i sts χ) : VBK X W i (st :: sts) (seqS ψ χ) := by
  obtain ⟨t, p, r⟩ := h1
  obtain ⟨t', p', r'⟩ := h2
  refine ⟨_, pss_cons p p', fun H0 M0 M H σ env D g h => ?_⟩
  refine r H0 M0 M H σ env _ g ?_
  unfold seqS at h
  cases q : ψ env with
  | nx env' => rw [q] at h; exact fun M' H' σ' g' e' hv => r' H0 M0 M' H' σ' env' D g' (by rw [hv]; exact PostKp.mono h e')
  | bk env' => rw [q] at h; exact h
  | ct env' => rw [q] at h; exact h
  | rt d => rw [q] at h; exact h
  | xc c fs env' => rw [q] at h; exact h
  | bad => rw [q] at h; exact h
  | ro d => rw [q] at h; exact h
theorem vsk_put (j : Nat) {x : Str} {ke value : Expr} {φk φv : Env → Res VL.D} {px pos' : Pos} (hu : X.A.units + 1 < cLine) (hk : VE X W fla ke φk) (hv : VE X W true value φv) (hN : X.N[j]? = some x := by rfl) (hvi : Vis X.env.scope x := by first | exact Or.inl rfl | exact Or.inr (Or.inl rfl) | exact Or.inr (Or.inr rfl))
    (hd : (x == ("__debug__" : Str)) = false := by decide) (hcd : (x == ("__classdict__" : Str)) = false := by decide)
    (hs : swapsWith value (some (.Subscript (.Name x px) ke pos')) pos.line X.env = pure false := by rfl) : VSK X W i (.Assign [.Subscript (.Name x px) ke pos'] value pos) (putS j φk φv) := by
  obtain ⟨tk, pk, rk⟩ := hk
  obtain ⟨tv, pv, rv⟩ := hv
  refine ⟨_, ps_dput hu (pe_var hN hvi hd hcd) pk pv hs, fun H0 M0 M H σ env D g h => ?_⟩
  unfold putS at h
  cases q : env[j]? with
  | none => rw [q] at h; exact h.elim
  | some s =>
    rw [q] at h
    cases s with
    | no => exact h.elim
    | sh d => exact h.elim
    | ow dd =>
      cases dd with
      | dic t es =>
        refine rv H0 M0 M H σ env _ g ?_
        cases q1 : φv env with
        | bad => rw [q1] at h; exact h
        | exc c fs => rw [q1] at h; exact (show False from h).elim
        | ok d =>
          rw [q1] at h
          intro v H1 e1 r1
          have g1 := g.mono e1
          obtain ⟨p', hv', mp, m0, ho⟩ := g1.sl j _ q
          refine ⟨_, hv', ?_⟩
          refine rk H0 M0 M H1 σ env _ g1 ?_
          cases q2 : φk env with
          | bad => rw [q2] at h; exact h
          | exc c fs => rw [q2] at h; exact (show False from h).elim
          | ok k =>
            rw [q2] at h
            intro y H2 e2 r2
            have g2 := g1.mono e2
            have h : PostKp X H0 M0 M H σ[i]? i D (if keyFit t k = true ∧ es.length < sizeLine then .nx (env.set j (.ow (.dic t (setD es k d)))) else .bad) := h
            by_cases c : keyFit t k = true ∧ es.length < sizeLine
            · rw [if_pos c] at h
              obtain ⟨p2, hv2, mp2, m02, ho2⟩ := g2.sl j _ q
              have ep : p2 = p' := by
                rw [hv'] at hv2
                cases hv2
                rfl
              subst ep
              obtain ⟨o, hp, ho'⟩ := put_own mp2 ho2 (r2.mono (vis_le fla M (vw H2))) (r1.mono (Sh_mono e2.v)) c.1 c.2
              refine ⟨p2, _, rfl, hp, h M _ σ (g2.mut q hv2 ho') ?_ rfl⟩
              rw [sh_mut mp2]
              exact Sh_mono (e1.trans e2).v
            · rw [if_neg c] at h; exact h.elim
      | _ => exact h.elim
end
def PostU (mg : Gm) (M : Addr → Bool) (H : Hp) (p : Addr) (Q : VK) : Res VL.D → Prop
  | .ok d => ∀ H', (∀ a u, a ≠ p → H a = some u → H' a = some u) → OwOk mg M H' p d → Q .non H'
  | _ => False
def spU (mg : Gm) (n : Nat) (F : List VL.D → Res VL.D) : Sp := fun vs H Q _ => vs.length = n ∧ ∃ (M : Addr → Bool) (p : Addr) (d : VL.D) (ds : List VL.D) (vs' : List V), vs = .ref p :: vs' ∧ MOk M H ∧ M p = true ∧ OwOk mg M H p d ∧ RpL mg (Sh M (vw H)) ds vs' ∧ PostU mg M H p Q (F (d :: ds))
structure DefOkU (P : Program) (w : World) (K : PySem.W.Frag) (mg : Str → Option Value) (base : Heap) (x : Str) (k : Nat) (ps : List Str) (n : Nat) (F : List D → Res D) : Prop where
  ex : ∃ (f : Addr) (fd : FuncData), mg x = some (.ref f) ∧ PySem.W.keepIn K (.ref f) = true ∧ Binds K fd ps [] ∧ FnOk P w K mg base (L2N.CX P w) k f fd ps (spU ⟨P, w, K, mg⟩ n F)
section
variable {P : Program} {w : World} {K : PySem.W.Frag} {mg : Str → Option Value} {base : Heap} {x qual : Str} {st : Stmt} {N ps : List Str} {k n : Nat} {ψ : Env → SRes} {F G : List D → Res D}
variable {X : Cx} {W : WX} {es : List Expr} {pos cpos p px : Pos} {φs : Env → Res (List D)} {y : Str}
end
end VL

set_option maxRecDepth 100000
set_option maxHeartbeats 2000000
set_option autoImplicit false
namespace VL
open PySem PySem.Spec PyProof.Rows L2
section
structure Part (P : Program) (w : World) (j l : Addr) (ws : Array Value) (St : Nat → Heap → Prop) : Prop where
  item : ∀ (B : Around) (t : Shared) (E : Value → Shared → Prop) (Q : Value → Shared → Prop) (k : Nat) (x : Value), St k t.heap → ws[k]? = some x → (∀ g, St (k + 1) g → Heap.SameBut j t.heap g → Q x { t with heap := g }) → wpAny (model P w) B (Builtin.SmallTypes.nextOf (.ref j)) Q E t
  stop : ∀ (B : Around) (t : Shared) (E : Value → Shared → Prop) (Q : Value → Shared → Prop) (k : Nat), B.handled = none → St k t.heap → ws[k]? = none → (∀ g e, Heap.ExtBut j t.heap g → (∃ o, g.get? e = some o ∧ o.cls = .type "StopIteration") → E (.ref e) { t with heap := g }) → wpAny (model P w) B (Builtin.SmallTypes.nextOf (.ref j)) Q E t
  keep : ∀ (k : Nat) (h g : Heap), St k h → (∀ c o, c = j ∨ c = l → h.get? c = some o → g.get? c = some o) → St k g
  obj : ∀ (k : Nat) (h : Heap), St k h → ∃ o, h.get? j = some o ∧ ∀ v, o.data ≠ .cell v
variable {P : Program} {w : World} {B : Around} {E : Value → Shared → Prop} {t : Shared} {q u o j1 j2 l1 l2 : Addr} {k : Nat} {ws vs : Array Value} {St Sv : Nat → Heap → Prop} {a b x y : Value}
theorem Part.sb (p : Part P w j1 l1 ws St) {h g : Heap} {c : Addr} (st : St k h) (sb : Heap.SameBut c h g) (n1 : j1 ≠ c) (n2 : l1 ≠ c) : St k g := p.keep k h g st fun d o hd hg => sb.extBut d o (by rcases hd with rfl | rfl <;> assumption) hg
end
section
end
section
end
end VL

set_option maxRecDepth 100000
set_option maxHeartbeats 2000000
set_option autoImplicit false
namespace VL
open PySem PySem.Spec PyProof.Rows L2
def listI : List VL.D → Res VL.D
  | [.lst ds] => if immut.immuts ds = true then .ok (.lst ds) else .bad
  | _ => .bad
theorem listI_lst {ds : List VL.D} (h : immut.immuts ds = true) : listI [.lst ds] = .ok (.lst ds) := if_pos h
section
variable {X : Cx} {W : WX} {e : Expr} {es : List Expr} {pos : Pos} {φs : Env → Res (List VL.D)}
theorem vf_listI {p : Pos} (hm : X.mg "list" = none) (ha : VA X W false (e :: es) φs) (hg : Gl X "list" := by rfl)
    (he : starEach (e :: es) X.env = (false, eval e X.env) :: starEach es X.env := by rfl) (hpl : (backTo pos (starEach es X.env)).any (·.1) = false := by rfl) : VF X W (.Call (.Name "list" p) (e :: es) [] pos) (aE listI φs) := by
  obtain ⟨t, pt, r⟩ := ha
  refine ⟨_, pe_callTy call_list_of hg hm (by decide +kernel) pt (by decide) (by decide) he hpl, fun H0 M0 M H σ env Q g h => ?_⟩
  refine r H0 M0 M H σ env _ g ?_
  have h0 : PostN X W M σ H Q ((φs env).bind listI) := h
  cases q : φs env with
  | bad => rw [q] at h0; exact h0
  | exc c fs => rw [q] at h0; exact h0
  | ok ds =>
    rw [q] at h0
    intro vs H1 e1 r1
    have h1 : PostN X W M σ H Q (listI ds) := h0
    have r2 := r1.mono (vis_le false M (vw H1))
    cases r2 with
    | nil => exact h1.elim
    | cons ra rb =>
      cases rb with
      | cons _ _ => cases ra <;> exact h1.elim
      | nil =>
        cases ra <;> first | exact h1.elim | skip
        case lst a xs ds hx rx =>
          have h2 : PostN X W M σ H Q (if immut.immuts ds = true then .ok (.lst ds) else .bad) := h1
          by_cases hi : immut.immuts ds = true
          · rw [if_pos hi] at h2
            have rs : RpL (gm X) (Sh M (vw H1)) ds xs := RpL.imm (fun a xs q => by
              show Sh M (vw H1) a = _
              cases m : M a with
              | true => exact absurd (vw_tup q) ((g.ok.mono e1).tup a xs m)
              | false => rw [Sh_of m]; exact q) rx hi
            exact ⟨a, xs, rfl, .inl (.inl (vw_lst hx)), fun l hl => h2 l _ (e1.fresh hl) (e1.trans (Ext.new hl)) (ow_newL hl rs)⟩
          · rw [if_neg hi] at h2; exact h2.elim
end
end VL

set_option maxRecDepth 100000
set_option maxHeartbeats 2000000
set_option autoImplicit false
namespace VL
open PySem PySem.Spec PyProof.Rows L2
theorem walk_ofT {l : PySem.W.OpenLaw} {n k : Nat} {q : Program} {loose : List Str} {XP : (Str → Option Value) → Heap → Prop} {YP : World → Heap → Prop} {d : DefRec} {CX : World → CXT} {x : Str}
    (hn : l.most = some n) (hn2 : n ≤ sizeLine) (hdf : d.params.defaults = []) (hr : Room k callerA) (h63 : n ≤ 63)
    (F : ∀ (w : World) (mg : Str → Option Value) (fa : Addr) (h : Heap), YP w h → h.Ns mainGlobals mg → mg d.name = some (.ref fa) →
      ∃ (K : Fr) (fd : FuncData), K.In h ∧ (∀ (s : Shared) (u : Value), BindsTo s fd ⟨[u], []⟩ [(x, u)]) ∧ ∀ base : Heap, K.In base → base.Ns mainGlobals mg → FnOk l.prog w K mg base (CX w) k fa fd [x] (spEnd K))
    (hCX : ∀ (w : World) (H : Hp) (s : Shared) (e : Value) (s' : Shared), CX w [] H s (fun _ _ _ => False) e s' → False) :
    PySem.W.WalkO q loose XP YP l.row.toRowW d [] (fun f vs => PySem.call f vs) := by
  refine Att.attach_callB hn hdf fun w s0 s1 mg mb fa o pm cd doc a vs ns G Y ho hd hcd hmg hobj hints hlen hbits hg => ?_
  obtain ⟨K, fd, KX, hb, hF⟩ := F w mg fa _ Y G.T.g hmg
  exact law_call KX G.T.g G.T.b G.T.builtins G.T.nolimit hg hobj hints (Nat.le_trans hlen hn2) hr hF hb (fun H _ hS => ⟨a, ns, rfl, hS, Nat.le_trans hlen h63, hbits, fun _ => rfl⟩) fun H e s' => hCX w H s1 e s'
end VL

set_option maxRecDepth 100000
set_option maxHeartbeats 2000000
set_option autoImplicit false
namespace VL
open PySem PySem.Spec PyProof.Rows L2
def catI : VL.D → VL.D → Res VL.D
  | .lst ds, .lst es => if (immut.immuts ds = true ∧ immut.immuts es = true) ∧ ds.length + es.length ≤ sizeLine then .ok (.lst (ds ++ es)) else .bad
  | _, _ => .bad
theorem catI_lst {ds es : List VL.D} (h1 : immut.immuts ds = true) (h2 : immut.immuts es = true) (h : ds.length + es.length ≤ sizeLine) : catI (.lst ds) (.lst es) = .ok (.lst (ds ++ es)) := if_pos ⟨⟨h1, h2⟩, h⟩
section
variable {X : Cx} {W : WX} {a b : Expr} {pos : Pos} {φa φb : Env → Res VL.D}
theorem vf_cat (ha : VE X W false a φa) (hb : VE X W false b φb) : VF X W (.BinOp a .Add b pos) (op2 catI φa φb) := by
  obtain ⟨ta, pa, ra⟩ := ha
  obtain ⟨tb, pb, rb⟩ := hb
  refine ⟨_, pe_op op_catL pa pb, fun H0 M0 M H σ env Q g h => ?_⟩
  refine ra H0 M0 M H σ env _ g ?_
  have h0 : PostN X W M σ H Q ((φa env).bind fun d => (φb env).bind fun e => catI d e) := h
  cases q : φa env with
  | bad => rw [q] at h0; exact h0
  | exc c fs => rw [q] at h0; exact h0
  | ok d =>
    rw [q] at h0
    intro v H1 e1 r1
    refine rb H0 M0 M H1 σ env _ (g.mono e1) ?_
    have h1 : PostN X W M σ H Q ((φb env).bind fun e => catI d e) := h0
    cases q2 : φb env with
    | bad => rw [q2] at h1; exact h1
    | exc c fs =>
      rw [q2] at h1
      exact fun cls dd H' e3 r3 => h1 cls dd H' (e1.trans e3) r3
    | ok e =>
      rw [q2] at h1
      intro v2 H2 e2 r2
      have h2 : PostN X W M σ H Q (catI d e) := h1
      replace r1 := (r1.mono (vis_mono (fl := false) (M := M) e2.v)).mono (vis_le false M (vw H2))
      replace r2 := r2.mono (vis_le false M (vw H2))
      clear h1 h0 h q q2
      cases d <;> first | exact h2.elim | skip
      case lst ds =>
        cases e <;> first | exact h2.elim | skip
        case lst es =>
          have h3 : PostN X W M σ H Q (if (immut.immuts ds = true ∧ immut.immuts es = true) ∧ ds.length + es.length ≤ sizeLine then .ok (.lst (ds ++ es)) else .bad) := h2
          by_cases hi : (immut.immuts ds = true ∧ immut.immuts es = true) ∧ ds.length + es.length ≤ sizeLine
          · rw [if_pos hi] at h3
            cases r1
            rename_i x1 xs hx rx
            cases r2
            rename_i y1 ys hy ry
            have e12 := e1.trans e2
            have tp : ∀ u zs, vw H2 u = some (.tup zs) → Sh M (vw H2) u = some (.tup zs) := fun u zs q => by
              show Sh M (vw H2) u = _
              cases m : M u with
              | true => exact absurd (vw_tup q) ((g.ok.mono e12).tup u zs m)
              | false => rw [Sh_of m]; exact q
            have rs := RpL.imm tp rx hi.1.1
            have rt := RpL.imm tp ry hi.1.2
            have hl := hi.2
            rw [rx.length, ry.length] at hl
            exact ⟨x1, y1, xs, ys, rfl, rfl, vw_lst hx, vw_lst hy, hl, fun p hp => h3 p _ (e12.fresh hp) (e12.trans (Ext.new hp)) (ow_newL hp (rs.append rt))⟩
          · rw [if_neg hi] at h3; exact h3.elim
end
end VL

set_option maxRecDepth 100000
set_option maxHeartbeats 2000000
set_option autoImplicit false
namespace VL
open PySem L2
structure NoRd (X : Cx) (H : Hp) (a q : Addr) (kvs : List (NK × Addr × V)) (s : Str) : Prop where
  rd : Rd H a (nDict X.w a kvs)
  ks : ∀ e ∈ kvs, NTup H e.1 e.2.1
  ky : H q = some (.tup [.non, .str s])
section
variable {X : Cx} {pins : List (Addr × Obj)} {σ : St} {H : Hp} {s : Shared} {a q : Addr} {A : Around} {E : Value → Shared → Prop} {kvs : List (NK × Addr × V)} {z : Str}
end
section
variable {X : Cx} {W : WX} {fla flb fl : Bool}
end
end VL

set_option maxRecDepth 100000
set_option maxHeartbeats 2000000
set_option autoImplicit false
namespace VL
open PySem L2
def AtK (mg : Gm) (G : Vw) (p : Addr) (t : Nat) : Prop := (t = 1 ∧ ∃ kvs, G p = some (.dT kvs)) ∨ (t = 2 ∧ ∃ kvs, G p = some (nDict mg.w p kvs))
section
variable {mg : Gm} {G G' : Vw} {p : Addr} {t : Nat}
theorem AtK.tup (h : AtK mg G p t) {xs : List V} (e : G p = some (.tup xs)) : False := by
  rcases h with ⟨_, kvs, h⟩ | ⟨_, kvs, h⟩ <;> (rw [h] at e; cases e)
theorem AtK.lst (h : AtK mg G p t) {xs : List V} (e : G p = some (.lst xs)) : False := by
  rcases h with ⟨_, kvs, h⟩ | ⟨_, kvs, h⟩ <;> (rw [h] at e; cases e)
theorem AtK.dK (h : AtK mg G p t) {xs : List (Key × V)} (e : G p = some (.dK xs)) : False := by
  rcases h with ⟨_, kvs, h⟩ | ⟨_, kvs, h⟩ <;> (rw [h] at e; cases e)
theorem AtK.dT (h : AtK mg G p t) (ht : t ≠ 1) {xs : List (List Key × V)} (e : G p = some (.dT xs)) : False := by
  rcases h with ⟨h1, kvs, h⟩ | ⟨h1, kvs, h⟩
  · exact ht h1
  · rw [h] at e; cases e
variable (hk : AtK mg G p t) (hm : ∀ a u, a ≠ p → G a = some u → G' a = some u)
include hk hm
end
open Classical in
def ownAt (env : Env) (σ : St) (i : Nat) (a : Addr) : Prop := ∃ j, j ≠ i ∧ isOw env[j]? = true ∧ σ[j]? = some (some (.ref a))
open Classical in
noncomputable def hB (H : Hp) (env : Env) (σ : St) (i : Nat) : Hp := fun a => if ownAt env σ i a then none else H a
open Classical in
section
variable {mg : Gm} {H0 H : Hp} {M0 M : Addr → Bool} {σ : St} {env : Env} {i t : Nat} {p : Addr} {es : List (D × D)}
open Classical in
end
end VL

set_option maxRecDepth 100000
set_option maxHeartbeats 2000000
set_option autoImplicit false
namespace VL
open PySem L2
section
variable {X : Cx} {W : WX} {i : Nat} {st : Stmt} {sts : List Stmt} {e : Expr} {pos : Pos} {ψ χ : Env → SRes} {φ : Env → Res VL.D} {fla : Bool}
end
end VL

set_option maxRecDepth 100000
set_option maxHeartbeats 2000000
set_option autoImplicit false
namespace VL
open PySem L2 PySem.Spec PyProof.Rows

section
variable {X : Cx} {W : WX} {fl fla : Bool}
end
end VL

set_option maxRecDepth 100000
set_option maxHeartbeats 2000000
set_option autoImplicit false
namespace VL
open PySem L2
section
variable {X : Cx} {W : WX} {tg iter : Expr} {sts sts' : List Stmt} {pos : Pos} {γ : D → Env → Option Env} {ψ χ : Env → SRes} {ι : Env → Res (List D)}
end
section
open PySem.Spec PyProof.Rows
variable {X : Cx} {W : WX} {e : Expr} {pos apos cpos p : Pos} {φ : Env → Res VL.D}
end
end VL

set_option maxRecDepth 100000
set_option maxHeartbeats 2000000
set_option autoImplicit false
namespace VL
open PySem L2
section
variable {X : Cx} {W : WX} {e : Expr} {td : TE} {sts : List Stmt} {pos apos cpos tpos : Pos} {elts : List Expr} {kk : Nat} {γ : D → Env → Option Env} {ψ : Env → SRes} {φ : Env → Res VL.D}
end
end VL

set_option maxRecDepth 100000
set_option maxHeartbeats 2000000
set_option autoImplicit false
namespace VL
open PySem L2
section
variable {X : Cx} {W : WX} {a b : Expr} {pos px py pt pt2 : Pos} {kt k2 : Nat} {φs : Env → Res (List D)}
end
end VL

set_option maxRecDepth 100000
set_option maxHeartbeats 2000000
set_option autoImplicit false
namespace VL
open PySem L2 PyProof.Rows
section
variable {X : Cx} {W : WX} {tg elt iter : Expr} {ifs : List Expr} {scope : Scope} {own : List (Str × Nat)} {pos spos py : Pos} {γ : D → Env → Option Env} {τ : Env → Res Bool} {φ κ : Env → Res D}
end
end VL

set_option maxRecDepth 100000
set_option maxHeartbeats 2000000
set_option autoImplicit false
namespace VL
open PySem L2 PyProof.Rows
def spIt (gm : Gm) (F : List D → Res D) (n : Nat) : Sp := fun vs H Q _ => vs.length = 1 ∧ ∃ (M : Addr → Bool) (ds es : List D), MOk M H ∧ RpL gm (Sh M (vw H)) ds vs ∧ F ds = .ok (.lst es) ∧
  ∀ (l it : Addr) (zs : List V) (H1 : Hp), Ext H H1 → Sh M (vw H1) l = some (.lst zs) → RpL gm (Sh M (vw H1)) es zs → H1 it = none → n ≤ it → Q (.ref it) (upd H1 it (ItO l it 0))
section
variable {X : Cx} {W : WX} {e : Expr} {p pos rpos : Pos} {φ : Env → Res D}
end
def FnI (P : Program) (w : World) (K : PySem.W.Frag) (mg : Str → Option Value) (base : Heap) (k : Nat) (f : Addr) (fd : FuncData) (ps : List Str) (sp : Nat → Sp) : Prop :=
  ∀ (n : Nat) (A : Around) (outer : List PySem.Env) (s : Shared) (H : Hp) (args : Args) (us : List Value) (vs : List V) (Q : VK) (E : XK), n ≤ s.heap.objs.size → Room k A → Env0 P w K mg base A outer s H → BindsTo s fd args (ps.zip us) → Vals vs us → sp n vs H Q E →
    codeAny (model P w) A (.call (.ref f) args) (CR (L2N.CX P w) outer P w H s Q E) s
structure IterOk (P : Program) (w : World) (K : PySem.W.Frag) (mg : Str → Option Value) (base : Heap) (c : Str) (k : Nat) (ps : List Str) (F : List D → Res D) : Prop where
  ex : ps.length = 1 ∧ ∃ (C f : Addr) (fd : FuncData), mg c = some (.ref C) ∧ Cls K C ∧ Meth K C "__iter__" f ∧ Binds K fd ps [] ∧ FnI P w K mg base k f fd ps (spIt ⟨P, w, K, mg⟩ F)
section
variable {P : Program} {w : World} {K : PySem.W.Frag} {mg : Str → Option Value} {base : Heap} {c x qual : Str} {st : Stmt} {N ps : List Str} {k : Nat} {f : Addr} {fd : FuncData} {sp : Nat → Sp}
end
section
variable {X : Cx} {C f : Addr} {k : Nat} {fd : FuncData} {ps : List Str} {sp : Nat → Sp} {o tg : Expr} {ta : TE}
end
section
variable {X : Cx} {W : WX} {o tg : Expr} {φ : Env → Res D} {c : Str} {k : Nat} {ps : List Str} {F : List D → Res D}
end
end VL

set_option maxRecDepth 100000
set_option maxHeartbeats 2000000
set_option autoImplicit false
namespace VL
open PySem L2 PyProof.Rows
section
variable {M : Model} {A : Around} {R : GenEnd} {Y : Protocol} {n : Nat} {s₀ s : Shared} {c : Code} {fs : List Frame} {env : PySem.Env} {K : Flow → Sem PySem.Fin} {J : Value → Sem PySem.Fin} {gd : Bool → Bool} {lv : List Value → List Value}
end
section
variable {prog : Program} {w : World} {A : Around} {R : GenEnd} {Y : Protocol} {n : Nat} {s₀ s : Shared} {fs : List Frame} {env : PySem.Env} {tg : Expr} {it : Value} {body : List Stmt}
end
def Held (ys : List V) (o : Obj) : Prop := ∃ (acc : Array Value) (c : Nat), o = lstObj acc c ∧ Vals ys acc.toList
def GQ (X : Cx) (C D : Addr) (ys : List V) (sw : Shared) (ip : List (Addr × Obj)) (σ : L2.St) (H : Hp) (s : Shared) : Prop :=
  ∃ oC oD, sw.heap.get? C = some oC ∧ sw.heap.get? D = some oD ∧ Held ys oD ∧ Inv X ((C, oC) :: (D, oD) :: ip) σ H s
def IpOk (X : Cx) (C D : Addr) (ip : List (Addr × Obj)) : Prop := ∀ p ∈ ip, X.s_0.heap.objs.size ≤ p.1 ∧ p.1 ≠ C ∧ p.1 ≠ D ∧ ∀ q ∈ X.pn, q.1 ≠ p.1
structure GE where
  N : Nat
  nx : List V → L2.St → Hp → Prop
  rt : List V → V → Hp → Prop
  bk : List V → L2.St → Hp → Prop := fun _ _ _ => False
  ct : List V → L2.St → Hp → Prop := fun _ _ _ => False
def GE.at (E : GE) (ys : List V) : Ends := { nx := E.nx ys, rt := E.rt ys, bk := E.bk ys, ct := E.ct ys }
def GYq (X : Cx) (C D : Addr) (N : Nat) : Protocol := fun n s₀ v s kap =>
  ∃ ys x ip σ H, n + 1 + ys.length = N ∧ RelV x v ∧ IpOk X C D ip ∧ GQ X C D ys s₀ ip σ H s ∧ ∀ s', GQ X C D (ys ++ [x]) s' ip σ H s' → kap (.send .none) s'
def GPq (X : Cx) (C D : Addr) (sw : Shared) (ip : List (Addr × Obj)) (E : GE) (ys : List V) (f : Flow) (s : Shared) : Prop := match f with
  | .next => ∃ σ H, GQ X C D ys sw ip σ H s ∧ E.nx ys σ H
  | .brk => ∃ σ H, GQ X C D ys sw ip σ H s ∧ E.bk ys σ H
  | .cont => ∃ σ H, GQ X C D ys sw ip σ H s ∧ E.ct ys σ H
  | .ret u => ∃ v σ H, GQ X C D ys sw ip σ H s ∧ RelV v u ∧ E.rt ys v H
structure GCq (X : Cx) (A : Around) (c : Code) (fs : List Frame) (gd : Bool → Bool) : Prop where
  over : A.over c fs = X.A
  split : splitAtGen fs = none
  guard : fs.any Frame.guarded = false
  gd : gd false = false
  nox : ∀ e s, ¬ X.xe e s
  ex : X.ex = []
abbrev TGq := GE → List V → L2.St → Hp → Prop
structure GSq (X : Cx) (st : Stmt) (t : TGq) : Prop where
  run : ∀ (A : Around) (C D : Addr) (ip : List (Addr × Obj)) (R : GenEnd) (n : Nat) (ys : List V) (s₀ : Shared) (c : Code) (fs : List Frame) (K : Flow → Sem PySem.Fin) (J : Value → Sem PySem.Fin) (gd : Bool → Bool) (lv : List Value → List Value) (s : Shared) (σ : L2.St) (H : Hp) (E : GE),
    GCq X A c fs gd → IpOk X C D ip → n + ys.length = E.N → (∀ n ys s₀ s f, n + ys.length = E.N → GPq X C D s₀ ip E ys f s → Seg (model X.prog X.w) A R (GYq X C D E.N) n s₀ c (K f) fs s) → GQ X C D ys s₀ ip σ H s → t E ys σ H →
    Seg (model X.prog X.w) A R (GYq X C D E.N) n s₀ c ((exec st X.env).wrap K J gd lv) fs s
structure GSsq (X : Cx) (st : List Stmt) (t : TGq) : Prop where
  run : ∀ (A : Around) (C D : Addr) (ip : List (Addr × Obj)) (R : GenEnd) (n : Nat) (ys : List V) (s₀ : Shared) (c : Code) (fs : List Frame) (K : Flow → Sem PySem.Fin) (J : Value → Sem PySem.Fin) (gd : Bool → Bool) (lv : List Value → List Value) (s : Shared) (σ : L2.St) (H : Hp) (E : GE),
    GCq X A c fs gd → IpOk X C D ip → n + ys.length = E.N → (∀ n ys s₀ s f, n + ys.length = E.N → GPq X C D s₀ ip E ys f s → Seg (model X.prog X.w) A R (GYq X C D E.N) n s₀ c (K f) fs s) → GQ X C D ys s₀ ip σ H s → t E ys σ H →
    Seg (model X.prog X.w) A R (GYq X C D E.N) n s₀ c ((execs st X.env).wrap K J gd lv) fs s
section
variable {X : Cx} {st : Stmt} {rest : List Stmt}
end
end VL

set_option maxRecDepth 100000
set_option maxHeartbeats 2000000
set_option autoImplicit false
namespace VL
open PySem L2 PyProof.Rows
section
variable {P : Program} {w : World} {K : PySem.W.Frag} {mg : Str → Option Value} {base : Heap} {N ps : List Str} {qual : Str} {scope : Scope} {f : Addr} {cd : Value} {A : Around} {outer : List PySem.Env} {s s2 : Shared} {H : Hp} {us : List Value} {vs : List V} {pn pins : List (Addr × Obj)}
end
def MadeQ (body : List Stmt) (qual : Str) (scope : Scope) (f : Addr) (cd : Value) (ps : List Str) (us : List Value) (s : Shared) (r : Result) (s' : Shared) : Prop :=
  ∃ (h1 : Heap) (go : Obj) (nm qn : Value) (tk : Nat), r = .ok (.ret (.ref h1.objs.size)) ∧ Heap.SameBut s.heap.objs.size (s.heap.push { cls := .type "frame", data := .dict #[] }) h1 ∧ (h1.Ns s.heap.objs.size fun y => (ps.zip us).reverse.lookup y) ∧ h1.NoLimit ∧
    go.cls = .type "generator" ∧ go.data = .fields #[.int s.gens.size 0, nm, qn] ∧ go.slots = #[] ∧ (∀ h : Heap, (h.push go).get? h.objs.size = some go) ∧
    s' = { s with gens := s.gens.push (.fresh (.func body (envOfC qual scope s.heap.objs.size f cd))), toks := tk, heap := h1.push go }
structure GFnq (P : Program) (w : World) (K : PySem.W.Frag) (mg : Str → Option Value) (base : Heap) (k : Nat) (f : Addr) (fd : FuncData) (ps : List Str) (body : List Stmt) (qual : Str) (scope : Scope) (cd : Value) : Prop where
  run : ∀ (A : Around) (outer : List PySem.Env) (s : Shared) (H : Hp) (args : Args) (us : List Value) (vs : List V), Room k A → Env0 P w K mg base A outer s H → BindsTo s fd args (ps.zip us) → Vals vs us → vs.length = ps.length →
    codeAny (model P w) A (.call (.ref f) args) (MadeQ body qual scope f cd ps us s) s
end VL

set_option maxRecDepth 100000
set_option maxHeartbeats 2000000
set_option autoImplicit false
namespace VL
open PySem L2 PyProof.Rows GenW
structure Far (X : Cx) (C D : Addr) : Prop where
  ne : C ≠ D
  c0 : X.s_0.heap.objs.size ≤ C
  d0 : X.s_0.heap.objs.size ≤ D
  cl : C ≠ X.env.locals
  dl : D ≠ X.env.locals
  cc : ∀ x c, X.env.cells.lookup x = some c → c ≠ C ∧ c ≠ D
  pc : ∀ p ∈ X.pn, p.1 ≠ C ∧ p.1 ≠ D
section
variable {X : Cx} {C D : Addr} {ys : List V} {sw s s' : Shared} {ip : List (Addr × Obj)} {σ : L2.St} {H : Hp} {x : V}
theorem GQ.at (h : GQ X C D ys sw ip σ H s) : (∃ oC, sw.heap.get? C = some oC ∧ s.heap.get? C = some oC) ∧ (∃ oD, Held ys oD ∧ sw.heap.get? D = some oD ∧ s.heap.get? D = some oD) ∧ H C = none ∧ H D = none ∧ C ∉ X.fs ∧ D ∉ X.fs := by
  obtain ⟨oC, oD, h1, h2, h3, I⟩ := h
  obtain ⟨a1, a2, a3, a4, _⟩ := I.pin (C, oC) (List.mem_append_right _ (List.mem_cons_self ..))
  obtain ⟨b1, b2, b3, b4, _⟩ := I.pin (D, oD) (List.mem_append_right _ (List.mem_cons_of_mem _ (List.mem_cons_self ..)))
  exact ⟨⟨oC, h1, a1⟩, ⟨oD, h3, h2, b1⟩, a2, b2, a4, b4⟩
structure Off (C D : Addr) (s s' : Shared) : Prop where
  os : s'.os = s.os
  bare : AllBare s'.gens
  keep : ∀ b o, b ≠ C → b ≠ D → s.heap.get? b = some o → s'.heap.get? b = some o
  oc : ∃ o, s'.heap.get? C = some o ∧ ∀ v, o.data ≠ .cell v
end
def YC (sc : Shared) (C D a : Addr) (g N : Nat) : Protocol := fun n s₀ v s1 kap =>
  ∃ ys x, n + 1 + ys.length = N ∧ RelV x v ∧ s1.os = sc.os ∧ AllBare s1.gens ∧ s1.heap.NoLimit ∧ s1.heap.IsGen a g ∧ (∃ oC, s₀.heap.get? C = some oC ∧ s1.heap.get? C = some oC) ∧ (∃ oD, Held ys oD ∧ s1.heap.get? D = some oD) ∧
    ∀ s', Off C D s1 s' → (∃ oD, s'.heap.get? D = some oD ∧ Held (ys ++ [x]) oD) → kap (.send .none) s'
def FC (P : Program) (w : World) (outer : List PySem.Env) (H : Hp) (sc : Shared) (C D : Addr) (N : Nat) (Q : List V → Hp → Prop) (n : Nat) (s₀ s1 : Shared) : Prop :=
  ∃ H' ys, s1.os = sc.os ∧ AllBare s1.gens ∧ Un (frs outer) [] H H' sc.heap s1.heap ∧ HOk P w H' s1.heap ∧ H' C = none ∧ H' D = none ∧ (∃ oC, s₀.heap.get? C = some oC ∧ s1.heap.get? C = some oC) ∧ (∃ oD, Held ys oD ∧ s1.heap.get? D = some oD) ∧ ys.length ≤ N ∧ Q ys H'
def RC (P : Program) (w : World) (outer : List PySem.Env) (H : Hp) (sc : Shared) (C D : Addr) (N : Nat) (Q : List V → Hp → Prop) : GenEnd := fun n s₀ r s1 =>
  ((r = .ok (.ret .none) ∨ r = .ok .next) ∧ FC P w outer H sc C D N Q n s₀ s1) ∨ ∃ e, r = .error e ∧ False
def GMadeC (P : Program) (w : World) (k : Nat) (outer : List PySem.Env) (H : Hp) (s : Shared) (N : Nat) (Q : List V → Hp → Prop) (u : Value) (s' : Shared) : Prop :=
  ∃ (a : Addr) (g : Nat) (c : Code), u = .ref a ∧ s.heap.objs.size ≤ a ∧ a < s'.heap.objs.size ∧ s'.heap.IsGen a g ∧ s'.gens[g]? = some (.fresh c) ∧ s'.os = s.os ∧ AllBare s'.gens ∧ s'.heap.NoLimit ∧ (∀ b o, s.heap.get? b = some o → s'.heap.get? b = some o) ∧
    ∀ (A : Around) (C D : Addr) (s2 : Shared), Room k A → A.frames = some outer → s'.heap.objs.size ≤ C → s'.heap.objs.size ≤ D → C ≠ D → (∀ b o, s'.heap.get? b = some o → s2.heap.get? b = some o) → (∃ o, s2.heap.get? C = some o ∧ ∀ v, o.data ≠ .cell v) → (∃ o, s2.heap.get? D = some o ∧ Held [] o) → s2.os = s.os → AllBare s2.gens →
      Seg (model P w) A (RC P w outer H s C D N Q) (YC s C D a g N) N s2 c ((model P w).den c) [] s2
section
variable {P : Program} {w : World} {K : PySem.W.Frag} {mg : Str → Option Value} {base : Heap} {N ps : List Str} {qual : Str} {scope : Scope} {f : Addr} {cd : Value} {A : Around} {outer : List PySem.Env} {s s' : Shared} {H : Hp} {us : List Value} {vs : List V} {body : List Stmt} {k M : Nat} {u : Value} {Q : List V → Hp → Prop}
end
end VL

set_option maxRecDepth 100000
set_option maxHeartbeats 2000000
set_option autoImplicit false
namespace VL
open PySem L2 PyProof.Rows GenW
structure PGenC (X : Cx) (k : Nat) (e : Expr) (tg : TGen) : Prop where
  run : ∀ (pins : List (Addr × Obj)) (s : Shared) (σ : L2.St) (H : Hp) (cont : List V → Hp → Prop), Inv X pins σ H s → tg σ H cont → wpAny (model X.prog X.w) X.A (eval e X.env)
    (fun u s' => ∃ H1 sc N, N ≤ sizeLine ∧ Inv X pins σ H1 sc ∧ GMadeC X.prog X.w k X.stack H1 sc N cont u s') X.xe s
section
variable {X : Cx} {k : Nat}
end
end VL

set_option maxRecDepth 100000
set_option maxHeartbeats 2000000
set_option autoImplicit false
namespace VL
open PySem L2 PyProof.Rows GenW
section
variable {X : Cx} {k : Nat}
end
abbrev SpC := List V → Hp → (List V → Hp → Prop) → Prop
structure GFnC (P : Program) (w : World) (K : PySem.W.Frag) (mg : Str → Option Value) (base : Heap) (k : Nat) (f : Addr) (fd : FuncData) (ps : List Str) (sp : SpC) : Prop where
  len : ∀ vs H Q, sp vs H Q → vs.length = ps.length
  run : ∀ (A : Around) (outer : List PySem.Env) (s : Shared) (H : Hp) (args : Args) (us : List Value) (vs : List V) (Q : List V → Hp → Prop), Room k A → Env0 P w K mg base A outer s H → BindsTo s fd args (ps.zip us) → Vals vs us → sp vs H Q →
    codeAny (model P w) A (.call (.ref f) args) (fun r s' => match r with | .ok (.ret u) => ∃ N, N ≤ sizeLine ∧ GMadeC P w k outer H s N Q u s' | _ => False) s
section
variable {X : Cx} {k : Nat} {f C : Addr} {fd : FuncData} {ps : List Str} {sp : SpC} {dvs : List V} {ds : List Value} {x m : Str} {p pos apos : Pos} {o : Expr} {ta : TE}
end
end VL

set_option maxRecDepth 100000
set_option maxHeartbeats 2000000
set_option autoImplicit false
namespace VL
open PySem L2 PyProof.Rows GenW
inductive GRes where
  | nx (env : Env) (out : List D) | rt (out : List D) | bk (env : Env) (out : List D) | ct (env : Env) (out : List D) | bad
def PostG (X : Cx) (H0 : Hp) (M0 M : Addr → Bool) (H : Hp) (E : GE) : GRes → Prop
  | .nx env out => ∀ M' H' σ' ys, Good (gm X) H0 M0 M' H' σ' env → VEx (Sh M (vw H)) (Sh M' (vw H')) → RpL (gm X) (Sh M' (vw H')) out ys → E.nx ys σ' H'
  | .bk env out => ∀ M' H' σ' ys, Good (gm X) H0 M0 M' H' σ' env → VEx (Sh M (vw H)) (Sh M' (vw H')) → RpL (gm X) (Sh M' (vw H')) out ys → E.bk ys σ' H'
  | .ct env out => ∀ M' H' σ' ys, Good (gm X) H0 M0 M' H' σ' env → VEx (Sh M (vw H)) (Sh M' (vw H')) → RpL (gm X) (Sh M' (vw H')) out ys → E.ct ys σ' H'
  | .rt out => ∀ H' ys, Ext H0 H' → RpL (gm X) (Sh M0 (vw H')) out ys → E.rt ys .non H'
  | .bad => False
section
variable {X : Cx} {H0 H H' : Hp} {M0 M M' : Addr → Bool} {E : GE} {mg : Gm}
theorem PostG.mono {r : GRes} (h : PostG X H0 M0 M H E r) (e : VEx (Sh M (vw H)) (Sh M' (vw H'))) : PostG X H0 M0 M' H' E r := by
  cases r with
  | nx env out => exact fun M2 H2 σ2 ys g e2 r => h M2 H2 σ2 ys g (e.trans e2) r
  | bk env out => exact fun M2 H2 σ2 ys g e2 r => h M2 H2 σ2 ys g (e.trans e2) r
  | ct env out => exact fun M2 H2 σ2 ys g e2 r => h M2 H2 σ2 ys g (e.trans e2) r
  | rt out => exact h
  | bad => exact h
end
section
variable {X : Cx} {st : Stmt} {rest sts : List Stmt} {pos : Pos} {ψ : Env → SRes} {χ ρ : Env → List D → GRes}
def consGG (χ ρ : Env → List D → GRes) (env : Env) (out : List D) : GRes := match χ env out with
  | .nx env' out' => ρ env' out'
  | r => r
def flowG (r : GRes) (k : Env → List D → GRes) : GRes := match r with
  | .nx env out => k env out
  | .ct env out => k env out
  | .bk env out => .nx env out
  | r => r
def forGL (γ : D → Env → Option Env) (χ : Env → List D → GRes) : List D → Env → List D → GRes
  | [], env, out => .nx env out
  | d :: ds, env, out => match γ d env with
    | none => .bad
    | some env1 => flowG (χ env1 out) (forGL γ χ ds)
end
def spG (mg : Gm) (n : Nat) (F : List D → Res D) : SpC := fun vs H Q => vs.length = n ∧ ∃ (M : Addr → Bool) (ds out : List D), MOk M H ∧ RpL mg (Sh M (vw H)) ds vs ∧ F ds = .ok (.lst out) ∧ ∀ ys H', Ext H H' → RpL mg (Sh M (vw H')) out ys → Q ys H'
section
variable {P : Program} {w : World} {K : PySem.W.Frag} {mg : Str → Option Value} {base : Heap} {x c m qual : Str} {st : Stmt} {N ps : List Str} {k n : Nat} {F : List D → Res D} {f : Addr} {fd : FuncData}
structure DefOkY (P : Program) (w : World) (K : PySem.W.Frag) (mg : Str → Option Value) (base : Heap) (x : Str) (k : Nat) (ps : List Str) (n : Nat) (F : List D → Res D) : Prop where
  ex : ∃ (f : Addr) (fd : FuncData), mg x = some (.ref f) ∧ PySem.W.keepIn K (.ref f) = true ∧ Binds K fd ps [] ∧ GFnC P w K mg base k f fd ps (spG ⟨P, w, K, mg⟩ n F)
structure MethOkY (P : Program) (w : World) (K : PySem.W.Frag) (mg : Str → Option Value) (base : Heap) (c m : Str) (k : Nat) (ps : List Str) (n : Nat) (F : List D → Res D) : Prop where
  ex : ∃ (C f : Addr) (fd : FuncData), mg c = some (.ref C) ∧ Cls K C ∧ Meth K C m f ∧ Binds K fd ps [] ∧ GFnC P w K mg base k f fd ps (spG ⟨P, w, K, mg⟩ n F)
end
section
variable {X : Cx} {W : WX} {e : Expr} {es : List Expr} {o : Expr} {φ φo : Env → Res D} {φs : Env → Res (List D)} {k n : Nat} {x c m y z : Str} {ps : List Str} {F : List D → Res D} {p pos apos p1 p2 pz spos : Pos} {scope : Scope} {own : List (Str × Nat)}
end
end VL

set_option maxRecDepth 100000
set_option maxHeartbeats 2000000
set_option autoImplicit false
namespace VL
open PySem L2 PyProof.Rows GenW
def cutH (h : Heap) (n : Nat) : Heap := { h with objs := h.objs.extract 0 n }
def gxr (P : Program) (w : World) (K : PySem.W.Frag) (mg : Str → Option Value) (base : Heap) (N : List Str) (qual : Str) (scope : Scope) (f : Addr) (cd : Value) (A : Around) (outer : List PySem.Env) (L : Addr) (s : Shared) (H : Hp) (pn : List (Addr × Obj)) : Cx :=
  { cxOf (L2N.CX P w) P w K mg base N qual scope f cd A outer { s with heap := cutH s.heap L } H (fun _ _ _ => False) with
    A := A.deeper (envOfC qual scope L f cd)
    env := envOfC qual scope L f cd
    stack := envOfC qual scope L f cd :: outer
    pn := pn
    xe := fun _ _ => False }
section
variable {P : Program} {w : World} {K : PySem.W.Frag} {mg : Str → Option Value} {base : Heap} {N ps : List Str} {qual : Str} {scope : Scope} {f : Addr} {cd : Value} {A A' : Around} {outer : List PySem.Env} {L : Addr} {s1 s1' s2 s3 : Shared} {H1 H2 Hg : Hp} {pn pn1 pins1 pins2 : List (Addr × Obj)} {σ : L2.St}
end
end VL

set_option maxRecDepth 100000
set_option maxHeartbeats 2000000
set_option autoImplicit false
namespace VL
open PySem L2 PyProof.Rows GenW
abbrev Gh := Hp × (Addr → Bool)
structure GZ where
  P : Program
  w : World
  K : PySem.W.Frag
  mg : Str → Option Value
  base : Heap
  N : List Str
  qual : Str
  scope : Scope
  f : Addr
  cd : Value
  A : Around
  outer : List PySem.Env
  L : Addr
  pn : List (Addr × Obj)
  tie : Nat → Shared → Gh → Prop
def GZ.X (G : GZ) (s : Shared) (H : Hp) : Cx := gxr G.P G.w G.K G.mg G.base G.N G.qual G.scope G.f G.cd G.A G.outer G.L s H G.pn
abbrev GZ.env (G : GZ) : PySem.Env := envOfC G.qual G.scope G.L G.f G.cd
abbrev GZ.Ad (G : GZ) : Around := G.A.deeper G.env
def GR (G : GZ) (n : Nat) (s₀ : Shared) (H0 : Gh) (ip : List (Addr × Obj)) (σ : L2.St) (H : Hp) (s : Shared) : Prop := G.tie n s₀ H0 ∧ G.L ≤ s₀.heap.objs.size ∧ Inv (G.X s₀ H0.1) ip σ H s
structure GEr where
  yd : Nat → Gh → V → Hp → (Gh → Prop) → Prop
  nx : Nat → Gh → L2.St → Hp → Prop
  rt : Nat → Gh → V → Hp → Prop
  bk : Nat → Gh → L2.St → Hp → Prop := fun _ _ _ _ => False
  ct : Nat → Gh → L2.St → Hp → Prop := fun _ _ _ _ => False
def GEr.at (E : GEr) (n : Nat) (H0 : Gh) : Ends := { nx := E.nx n H0, rt := E.rt n H0, bk := E.bk n H0, ct := E.ct n H0 }
def GYr (G : GZ) (yd : Nat → Gh → V → Hp → (Gh → Prop) → Prop) : Protocol := fun n s₀ v s kap =>
  ∃ H0 x ip σ H K, RelV x v ∧ GR G (n + 1) s₀ H0 ip σ H s ∧ yd n H0 x H K ∧ ∀ u s' H', (u = .none ∨ u = .bool true) → GR G n s' H' ip σ H'.1 s' → K H' → kap (.send u) s'
def GPr (G : GZ) (n : Nat) (s₀ : Shared) (H0 : Gh) (ip : List (Addr × Obj)) (E : GEr) (f : Flow) (s : Shared) : Prop := match f with
  | .next => ∃ σ H, GR G n s₀ H0 ip σ H s ∧ E.nx n H0 σ H
  | .brk => ∃ σ H, GR G n s₀ H0 ip σ H s ∧ E.bk n H0 σ H
  | .cont => ∃ σ H, GR G n s₀ H0 ip σ H s ∧ E.ct n H0 σ H
  | .ret u => ∃ v σ H, GR G n s₀ H0 ip σ H s ∧ RelV v u ∧ E.rt n H0 v H
structure GCr (G : GZ) (A : Around) (c : Code) (fs : List Frame) (gd : Bool → Bool) : Prop where
  over : A.over c fs = G.Ad
  split : splitAtGen fs = none
  guard : fs.any Frame.guarded = false
  gd : gd false = false
abbrev TGr := GEr → Nat → Gh → L2.St → Hp → Prop
structure GSr (G : GZ) (st : Stmt) (t : TGr) : Prop where
  run : ∀ (A : Around) (ip : List (Addr × Obj)) (R : GenEnd) (n : Nat) (s₀ : Shared) (H0 : Gh) (c : Code) (fs : List Frame) (K : Flow → Sem PySem.Fin) (J : Value → Sem PySem.Fin) (gd : Bool → Bool) (lv : List Value → List Value) (s : Shared) (σ : L2.St) (H : Hp) (E : GEr),
    GCr G A c fs gd → (∀ n s₀ H0 s f, GPr G n s₀ H0 ip E f s → Seg (model G.P G.w) A R (GYr G E.yd) n s₀ c (K f) fs s) → GR G n s₀ H0 ip σ H s → t E n H0 σ H →
    Seg (model G.P G.w) A R (GYr G E.yd) n s₀ c ((exec st G.env).wrap K J gd lv) fs s
structure GSsr (G : GZ) (st : List Stmt) (t : TGr) : Prop where
  run : ∀ (A : Around) (ip : List (Addr × Obj)) (R : GenEnd) (n : Nat) (s₀ : Shared) (H0 : Gh) (c : Code) (fs : List Frame) (K : Flow → Sem PySem.Fin) (J : Value → Sem PySem.Fin) (gd : Bool → Bool) (lv : List Value → List Value) (s : Shared) (σ : L2.St) (H : Hp) (E : GEr),
    GCr G A c fs gd → (∀ n s₀ H0 s f, GPr G n s₀ H0 ip E f s → Seg (model G.P G.w) A R (GYr G E.yd) n s₀ c (K f) fs s) → GR G n s₀ H0 ip σ H s → t E n H0 σ H →
    Seg (model G.P G.w) A R (GYr G E.yd) n s₀ c ((execs st G.env).wrap K J gd lv) fs s
section
variable {G : GZ} {st : Stmt} {rest : List Stmt}
end
end VL

set_option maxRecDepth 100000
set_option maxHeartbeats 2000000
set_option autoImplicit false
namespace VL
open PySem L2 PyProof.Rows GenW
section
variable {P : Program} {w : World} {K : PySem.W.Frag} {mg : Str → Option Value} {base : Heap} {N ps : List Str} {qual : Str} {scope : Scope} {f : Addr} {cd : Value} {A : Around} {outer : List PySem.Env} {L : Addr} {s2 : Shared} {H2 : Hp} {us : List Value} {vs : List V} {pn pins : List (Addr × Obj)}
end
end VL

set_option maxRecDepth 100000
set_option maxHeartbeats 2000000
set_option autoImplicit false
namespace VL
open PySem L2 PyProof.Rows GenW
def isR : Frame → Bool
  | .ret .. => true
  | .gen .. => false
abbrev NoG (fs : List Frame) : Prop := ∀ f ∈ fs, isR f = true
def stoneF (f : Frame) : Frame := .ret (fun _ => .unsupported "stone") none false [] f.where_.1 f.where_.2 []
def stone : GenState → GenState
  | .suspended k l c p fs cl => .suspended (fun _ => .unsupported "stone") [] c p (fs.map stoneF) cl
  | x => x
theorem stone_seen (x : GenState) : (stone x).seen = x.seen := by
  cases x with
  | suspended k l c p fs cl =>
    show (GenStatus.suspended, some ((c, p) :: (fs.map stoneF).map Frame.where_)) = (GenStatus.suspended, some ((c, p) :: fs.map Frame.where_))
    rw [List.map_map]
    have e : (Frame.where_ ∘ stoneF) = Frame.where_ := funext fun f => by
      cases f <;> rfl
    rw [e]
  | _ => rfl
theorem stone_bare (x : GenState) : (stone x).bare = x.bare := by cases x <;> rfl
def plainS : GenState → Prop
  | .suspended _ _ _ _ fs _ => NoG fs
  | _ => True
def sleeps : GenState → Bool
  | .suspended .. => true
  | _ => false
structure Zg (T : Nat → Option GenState) (A B : Array GenState) : Prop where
  sz : A.size = B.size
  oth : ∀ i, T i = none → A[i]? = B[i]? ∧ ∀ st, B[i]? = some st → plainS st
  slp : ∀ i x, T i = some x → sleeps x = true ∧ A[i]? = some x ∧ B[i]? = some (stone x)
section
variable {T : Nat → Option GenState} {A B : Array GenState}
theorem Zg.push (z : Zg T A B) {x : GenState} (hx : plainS x) : Zg T (A.push x) (B.push x) where
  sz := by rw [Array.size_push, Array.size_push, z.sz]
  oth := fun i h => by
    obtain ⟨h1, h2⟩ := z.oth i h
    rw [Array.getElem?_push, Array.getElem?_push, z.sz, h1]
    refine ⟨rfl, fun st q => ?_⟩
    split at q
    · cases q; exact hx
    · exact h2 st q
  slp := fun i y h => by
    obtain ⟨h1, h2, h3⟩ := z.slp i y h
    have hi : i < A.size := (Array.getElem?_eq_some_iff.mp h2).1
    rw [Array.getElem?_push, Array.getElem?_push, ← z.sz, if_neg (Nat.ne_of_lt hi), if_neg (Nat.ne_of_lt hi)]
    exact ⟨h1, h2, h3⟩
theorem Zg.set (z : Zg T A B) {g : Nat} {x : GenState} (hg : T g = none) (hx : plainS x) : Zg T (A.setIfInBounds g x) (B.setIfInBounds g x) where
  sz := by rw [Array.size_setIfInBounds, Array.size_setIfInBounds, z.sz]
  oth := fun i h => by
    obtain ⟨h1, h2⟩ := z.oth i h
    rw [Array.getElem?_setIfInBounds, Array.getElem?_setIfInBounds, z.sz, h1]
    refine ⟨rfl, fun st q => ?_⟩
    split at q
    · split at q
      · cases q; exact hx
      · cases q
    · exact h2 st q
  slp := fun i y h => by
    obtain ⟨h1, h2, h3⟩ := z.slp i y h
    have ne : g ≠ i := fun e => by rw [e, h] at hg; cases hg
    rw [Array.getElem?_setIfInBounds, Array.getElem?_setIfInBounds, if_neg ne, if_neg ne]
    exact ⟨h1, h2, h3⟩
theorem Zg.get (z : Zg T A B) {g : Nat} {st : GenState} (h : B[g]? = some st) : ∃ x, A[g]? = some x ∧ x.seen = st.seen ∧ ((T g = none ∧ x = st ∧ plainS st) ∨ (T g = some x ∧ sleeps x = true ∧ st = stone x)) := by
  cases q : T g with
  | none =>
    obtain ⟨h1, h2⟩ := z.oth g q
    exact ⟨st, h1.trans h, rfl, .inl ⟨rfl, rfl, h2 st h⟩⟩
  | some x =>
    obtain ⟨h1, h2, h3⟩ := z.slp g x q
    rw [h] at h3
    cases h3
    exact ⟨x, h2, (stone_seen x).symm, .inr ⟨rfl, h1, rfl⟩⟩
end
section
variable {M : Model} {T : Nat → Option GenState}
theorem Zg.bare {A B : Array GenState} (z : Zg T A B) (h : AllBare B) : AllBare A := fun y hy => by
  obtain ⟨i, hi, e⟩ := Array.getElem_of_mem hy
  have e : A[i]? = some y := by rw [Array.getElem?_eq_getElem hi, e]
  cases q : T i with
  | none =>
    rw [(z.oth i q).1] at e
    exact h y (Array.mem_of_getElem? e)
  | some x =>
    obtain ⟨_, h2, h3⟩ := z.slp i x q
    rw [h2] at e
    cases e
    have := h _ (Array.mem_of_getElem? h3)
    rw [stone_bare] at this
    exact this
end
section
variable {X : Cx} {pins : List (Addr × Obj)} {σ : L2.St} {H : Hp} {s b : Shared} {T : Nat → Option GenState} {G : Array GenState}
end
end VL

set_option maxRecDepth 100000
set_option maxHeartbeats 2000000
set_option autoImplicit false
namespace VL
open PySem L2 PyProof.Rows GenW
abbrev YdR := Nat → Gh → V → Hp → (Gh → Prop) → Prop
abbrev SpR := List V → Gh → Nat → YdR → (Nat → Gh → Hp → Prop) → Prop
structure GFnR (P : Program) (w : World) (K : PySem.W.Frag) (mg : Str → Option Value) (base : Heap) (k : Nat) (f : Addr) (fd : FuncData) (ps : List Str) (sp : SpR) : Prop where
  len : ∀ vs g0 n yd QE, sp vs g0 n yd QE → vs.length = ps.length
  ex : ∃ (N : List Str) (body : List Stmt) (qual : Str) (scope : Scope) (cd : Value), GScope N ps scope ∧ (∀ y ∈ scope.names, y.2 ≠ .cell) ∧ GFnq P w K mg base k f fd ps body qual scope cd ∧
    ∀ (A : Around) (outer : List PySem.Env) (L : Addr) (pn : List (Addr × Obj)) (tie : Nat → Shared → Gh → Prop) (vs : List V) (H : Hp) (M : Addr → Bool) (n : Nat) (yd : YdR) (QE : Nat → Gh → Hp → Prop), Room k A → sp vs (H, M) n yd QE →
      ∃ t : TGr, GSsr ⟨P, w, K, mg, base, N, qual, scope, f, cd, A, outer, L, pn, tie⟩ body t ∧ t { yd := yd, nx := fun n H0 _ H => QE n H0 H, rt := fun n H0 v H => v = .non ∧ QE n H0 H } n (H, M) (L2.start N vs) H
section
variable {X : Cx} {pins : List (Addr × Obj)} {σ : L2.St} {H : Hp} {s : Shared}
end
section
variable {X : Cx} {k : Nat} {f : Addr} {fd : FuncData} {ps : List Str} {sp : SpR} {dvs : List V} {ds : List Value} {x y : Str} {p p1 cpos pos : Pos} {ta : TA} {g : TG} {tb : TS} {e : Expr} {es : List Expr} {body : List Stmt}
end
end VL

set_option maxRecDepth 100000
set_option maxHeartbeats 2000000
set_option autoImplicit false
namespace VL
open PySem L2 PyProof.Rows GenW
def Grows (out : List D) : GRes → Prop
  | .nx _ o => out <+: o
  | .bk _ o => out <+: o
  | .ct _ o => out <+: o
  | .rt o => out <+: o
  | .bad => True
def YI (mg : Gm) (all : List D) (yd : YdR) : Prop := ∀ (m : Nat) (g0 : Gh) (x : V) (Hg : Hp) (K : Gh → Prop) (d : D), m < all.length → all[all.length - 1 - m]? = some d → MOk g0.2 g0.1 → Ext g0.1 Hg → Rp mg (Sh g0.2 (vw Hg)) d x →
  (∀ M2 H2, MOk M2 H2 → VEx (Sh g0.2 (vw Hg)) (Sh M2 (vw H2)) → K (H2, M2)) → yd m g0 x Hg K
def PostR (mg : Gm) (all : List D) (M : Addr → Bool) (H : Hp) (E : GEr) : GRes → Prop
  | .nx env o => o <+: all ∧ ∀ (g0 : Gh) M' H' σ', Good mg g0.1 g0.2 M' H' σ' env → VEx (Sh M (vw H)) (Sh M' (vw H')) → E.nx (all.length - o.length) g0 σ' H'
  | .bk env o => o <+: all ∧ ∀ (g0 : Gh) M' H' σ', Good mg g0.1 g0.2 M' H' σ' env → VEx (Sh M (vw H)) (Sh M' (vw H')) → E.bk (all.length - o.length) g0 σ' H'
  | .ct env o => o <+: all ∧ ∀ (g0 : Gh) M' H' σ', Good mg g0.1 g0.2 M' H' σ' env → VEx (Sh M (vw H)) (Sh M' (vw H')) → E.ct (all.length - o.length) g0 σ' H'
  | .rt o => o <+: all ∧ ∀ (g0 : Gh) H', Ext g0.1 H' → E.rt (all.length - o.length) g0 .non H'
  | .bad => False
section
variable {mg : Gm} {all out : List D} {M M' : Addr → Bool} {H H' : Hp} {E : GEr}
theorem PostR.mono {r : GRes} (h : PostR mg all M H E r) (e : VEx (Sh M (vw H)) (Sh M' (vw H'))) : PostR mg all M' H' E r := by
  cases r with
  | nx env o => exact ⟨h.1, fun g0 M2 H2 σ2 g e2 => h.2 g0 M2 H2 σ2 g (e.trans e2)⟩
  | bk env o => exact ⟨h.1, fun g0 M2 H2 σ2 g e2 => h.2 g0 M2 H2 σ2 g (e.trans e2)⟩
  | ct env o => exact ⟨h.1, fun g0 M2 H2 σ2 g e2 => h.2 g0 M2 H2 σ2 g (e.trans e2)⟩
  | rt o => exact h
  | bad => exact h
theorem Grows.flow {r : GRes} {k : Env → List D → GRes} (h : Grows out r) (hk : ∀ env o, Grows o (k env o)) : Grows out (flowG r k) := by
  have tr : ∀ {a b : List D} {r : GRes}, a <+: b → Grows b r → Grows a r := fun {a b r} h g => by
    cases r with
    | bad => exact trivial
    | _ => exact List.IsPrefix.trans h g
  cases r with
  | nx env o => exact tr h (hk env o)
  | ct env o => exact tr h (hk env o)
  | bk env o => exact h
  | rt o => exact h
  | bad => exact h
theorem Grows.seq {χ ρ : Env → List D → GRes} (h1 : ∀ env o, Grows o (χ env o)) (h2 : ∀ env o, Grows o (ρ env o)) (env : Env) : Grows out (consGG χ ρ env out) := by
  have tr : ∀ {a b : List D} {r : GRes}, a <+: b → Grows b r → Grows a r := fun {a b r} h g => by
    cases r with
    | bad => exact trivial
    | _ => exact List.IsPrefix.trans h g
  have q := h1 env out
  unfold consGG
  cases z : χ env out with
  | nx e o => rw [z] at q; exact tr q (h2 e o)
  | bk env o => rw [z] at q; exact q
  | ct env o => rw [z] at q; exact q
  | rt o => rw [z] at q; exact q
  | bad => exact trivial
theorem Grows.loop {γ : D → Env → Option Env} {χ : Env → List D → GRes} (h : ∀ env o, Grows o (χ env o)) : ∀ (ds : List D) (env : Env) (o : List D), Grows o (forGL γ χ ds env o)
  | [], env, o => List.prefix_refl o
  | d :: ds, env, o => by
    unfold forGL
    cases γ d env with
    | none => exact trivial
    | some env1 => exact Grows.flow (h env1 o) (Grows.loop h ds)
end
section
variable {G : GZ} {st : Stmt} {rest sts : List Stmt} {pos : Pos} {χ ρ : Env → List D → GRes} {φ : Env → Res D} {e tg : Expr}
end
def spR (mg : Gm) (k : Nat) (F : List D → Res D) : SpR := fun vs g0 n yd QE => vs.length = k ∧ ∃ ds all : List D, MOk g0.2 g0.1 ∧ RpL mg (Sh g0.2 (vw g0.1)) ds vs ∧ F ds = .ok (.lst all) ∧ n = all.length ∧ YI mg all yd ∧ ∀ g1 H', Ext g1.1 H' → QE 0 g1 H'
section
variable {P : Program} {w : World} {K : PySem.W.Frag} {mg : Str → Option Value} {base : Heap} {x qual : Str} {st : Stmt} {N ps : List Str} {k n : Nat} {F : List D → Res D} {f : Addr} {fd : FuncData}
structure DefOkR (P : Program) (w : World) (K : PySem.W.Frag) (mg : Str → Option Value) (base : Heap) (x : Str) (k : Nat) (ps : List Str) (n : Nat) (F : List D → Res D) : Prop where
  ex : ∃ (f : Addr) (fd : FuncData), mg x = some (.ref f) ∧ PySem.W.keepIn K (.ref f) = true ∧ Binds K fd ps [] ∧ GFnR P w K mg base k f fd ps (spR ⟨P, w, K, mg⟩ n F)
end
section
variable {X : Cx} {W : WX} {e : Expr} {es : List Expr} {sts : List Stmt} {φs : Env → Res (List D)} {ψ : Env → SRes} {γ : D → Env → Option Env} {k n : Nat} {x y : Str} {ps : List Str} {F : List D → Res D} {p p1 cpos pos : Pos}
end
end VL

set_option maxRecDepth 100000
set_option maxHeartbeats 2000000
set_option autoImplicit false
namespace VL
open PySem PySem.Spec PyProof.Rows L2
theorem d_dictSetG {X : Cx} {pins : List (Addr × Obj)} {σ : L2.St} {H H' : Hp} {s : Shared} {a : Addr} {y v : V} {u r : Value} {A : Around} {E : Value → Shared → Prop} {Q : Unit → Shared → Prop} (hu : A.units + 1 < cLine) (I : Inv X pins σ H s) (g : DPut H a y v H')
    (ry : RelV y u) (rv : RelV v r) (h : ∀ s', Inv X pins σ H' s' → Q () s') : wpAny (model X.prog X.w) A (dictSet a u r) Q E s := by
  rcases g with ⟨kvs, k, e, ey, l, eH⟩ | ⟨kvs, k, b, e, ey, eb, l, eH⟩
  · subst ey eH
    obtain ⟨z, hd, vs, rel, dd⟩ := dk_of I.hok e
    have hz : vs.length ≤ sizeLine := by rw [← (show _ = vs.length from rel.length)]; exact z
    have hl : (putK kvs k v).length ≤ sizeLine := by have := length_putK kvs k v; omega
    refine wpAny_dictSet_pairs (hsz := hz) (kV_is ry) dd fun h' dd' hs => h _ ?_
    have he : ∃ q, h'.get? a = some q := let ⟨q, _, _, hq, _⟩ := dd'; ⟨q, hq⟩
    exact d_write I (by rw [e]; exact True.intro) hs he (dk_new hl hd (rel.put k rv) dd')
  · subst ey eH
    have eu : u = Value.ref b := ry
    rw [eu]
    obtain ⟨z, hd, xs, rel, dd⟩ := dt_of I.hok e
    have hz : xs.length ≤ sizeLine := by rw [← (Paired.length rel)]; exact z
    have hl : (putK kvs k v).length ≤ sizeLine := by have := length_putK kvs k v; omega
    refine wpAny_dictSet_heap (hsz := hz) (show A.units < cLine by omega) (key_of I.hok eb) dd fun h' dd' hs => h _ ?_
    obtain ⟨q, es, ep, hq, h2, h3, h4, _, h5⟩ := dd'
    refine d_write I (by rw [e]; exact True.intro) hs ⟨q, hq⟩ ⟨hl, hd, _, (rel.put k eb rv).keeps fun c ys ec => ?_, q, es, ep, hq, h2, h3, h4, h5⟩
    rw [upd_ne (ne_of ec e (fun z => nomatch z))]
    exact ec
def tPuts (p : Addr) : List (V × V) → Hp → (Hp → Prop) → Prop
  | [], H, Q => Q H
  | (k, v) :: r, H, Q => ∃ H', DPut H p k v H' ∧ tPuts p r H' Q
theorem puts_run {X : Cx} {pins : List (Addr × Obj)} {σ : L2.St} {p : Addr} {A : Around} {E : Value → Shared → Prop} (hu : A.units + 1 < cLine) : ∀ (ps : List (V × V)) (vs : List (Value × Value)) (H : Hp) (s : Shared) (Q : Hp → Prop), Inv X pins σ H s → VV ps vs → tPuts p ps H Q →
    wpAny (model X.prog X.w) A (storeAll p vs) (fun _ s' => ∃ H', Inv X pins σ H' s' ∧ Q H') E s
  | [], _, H, s, Q, I, .nil, h => by
    unfold storeAll
    rw [List.forIn_nil]
    exact wpAny_pure ⟨H, I, h⟩
  | (k, v) :: ps, _, H, s, Q, I, .cons (b := b) (l₂ := vs) r rs, h => by
    obtain ⟨x, y⟩ := b
    obtain ⟨H', g, h⟩ := h
    unfold storeAll
    rw [List.forIn_cons]
    exact wpAny_bind (wpAny_bind (d_dictSetG hu I g r.1 r.2 fun s' I' => wpAny_pure (puts_run hu ps vs H' s' Q I' rs h)))
def tDispG (o : HO) (trs : List (TE × TE)) : TE := fun σ H Q => ∀ p, H p = none → tPairs trs σ (upd H p o) fun ps H2 => tPuts p ps H2 (Q (.ref p))
theorem pe_dispG {X : Cx} {pos : Pos} {keys : List (Option Expr)} {values : List Expr} {trs : List (TE × TE)} (o : HO) (ho : o = .dK [] ∨ o = .dT []) (hu : X.A.units + 1 < cLine) (h : PPs X pos keys values trs) (hall : keys.all (·.isSome) = true) (hl : keys.length = values.length) (h0 : keys ≠ [])
    (h15 : keys.length ≤ 15) : PE X (.Dict keys values pos) (tDispG o trs) := by
  refine ⟨fun pins s σ H Q I q => ?_⟩
  have hn := I.hok.fresh (Nat.le_refl s.heap.objs.size)
  have new : ObjOk X.prog X.w (upd H s.heap.objs.size o) (s.heap.push { cls := .type "dict", data := .dict #[] }) s.heap.objs.size o := by
    rcases ho with rfl | rfl
    · exact dk_empty s.heap I.big
    · exact dt_empty s.heap I.big
  have I1 := I.laid (a := s.heap.objs.size) (o := o) (h' := s.heap.push { cls := .type "dict", data := .dict #[] }) (t' := s.toks) (fun _ _ q => Heap.get?_push_of_some _ q) (Nat.le_refl _) new
  refine wpAny_Dict_any hall hl h0 h15 (thn (h.run pins _ σ _ _ I1 (q _ hn)) fun ws s2 ⟨ps, H2, I2, rel, q2⟩ => ?_)
  exact thn (puts_run hu ps ws H2 s2 _ I2 rel q2) fun _ s3 ⟨H3, I3, q3⟩ => ⟨.ref s.heap.objs.size, H3, I3, rfl, q3⟩
def PostPs (X : Cx) (M : Addr → Bool) (H : Hp) (Q : List (V × V) → Hp → Prop) : Res (List (D × D)) → Prop
  | .ok ds => ∀ ps H', Ext H H' → RpL (gm X) (Sh M (vw H')) (ds.map (·.1)) (ps.map (·.1)) → RpL (gm X) (Sh M (vw H')) (ds.map (·.2)) (ps.map (·.2)) → Q ps H'
  | _ => False
def VPs (X : Cx) (W : WX) (pos : Pos) (keys : List (Option Expr)) (values : List Expr) (φ : Env → Res (List (D × D))) : Prop :=
  ∃ trs, PPs X pos keys values trs ∧ ∀ (H0 : Hp) (M0 M : Addr → Bool) (H : Hp) (σ : L2.St) (env : Env) (Q : List (V × V) → Hp → Prop), Good (gm X) H0 M0 M H σ env → PostPs X M H Q (φ env) → tPairs trs σ H Q
def nilP (_ : Env) : Res (List (D × D)) := .ok []
def consP (φk φv : Env → Res D) (φs : Env → Res (List (D × D))) (env : Env) : Res (List (D × D)) := match φk env with
  | .ok k => match φv env with
    | .ok v => match φs env with
      | .ok r => .ok ((k, v) :: r)
      | _ => .bad
    | _ => .bad
  | _ => .bad
def putsD (t : Nat) : List (D × D) → List (D × D) → Res D
  | es, [] => .ok (.dic t es)
  | es, (k, v) :: r => if keyFit t k = true ∧ es.length < sizeLine then putsD t (setD es k v) r else .bad
def dispE (t : Nat) (φ : Env → Res (List (D × D))) (env : Env) : Res D := match φ env with
  | .ok ps => putsD t [] ps
  | _ => .bad
section
variable {X : Cx} {W : WX} {pos : Pos} {k v e : Expr} {ks : List (Option Expr)} {vs : List Expr} {φk φv φ : Env → Res D} {φs : Env → Res (List (D × D))}
theorem vps_nil : VPs X W pos [] [] nilP := ⟨_, pps_nil, fun H0 M0 M H σ env Q g h => h [] H (Ext.refl H) .nil .nil⟩
theorem vps_cons (hk : VE X W true k φk) (hv : VE X W true v φv) (hr : VPs X W pos ks vs φs) : VPs X W pos (some k :: ks) (v :: vs) (consP φk φv φs) := by
  obtain ⟨t1, p1, r1⟩ := hk
  obtain ⟨t2, p2, r2⟩ := hv
  obtain ⟨t3, p3, r3⟩ := hr
  refine ⟨_, pps_cons p1 p2 p3, fun H0 M0 M H σ env Q g h => ?_⟩
  show t1 σ H fun x H1 => t2 σ H1 fun y H2 => tPairs t3 σ H2 fun ps H3 => Q ((x, y) :: ps) H3
  unfold consP at h
  refine r1 H0 M0 M H σ env _ g ?_
  cases q1 : φk env with
  | bad => rw [q1] at h; exact h.elim
  | exc c fs => rw [q1] at h; exact h.elim
  | ok dk =>
    rw [q1] at h
    intro x H1 e1 x1
    refine r2 H0 M0 M H1 σ env _ (g.mono e1) ?_
    cases q2 : φv env with
    | bad => rw [q2] at h; exact h.elim
    | exc c fs => rw [q2] at h; exact h.elim
    | ok dv =>
      rw [q2] at h
      intro y H2 e2 y2
      refine r3 H0 M0 M H2 σ env _ ((g.mono e1).mono e2) ?_
      cases q3 : φs env with
      | bad => rw [q3] at h; exact h.elim
      | exc c fs => rw [q3] at h; exact h.elim
      | ok r =>
        rw [q3] at h
        intro ps H3 e3 z1 z2
        exact h ((x, y) :: ps) H3 ((e1.trans e2).trans e3) (.cons ((x1.mono (Sh_mono e2.v)).mono (Sh_mono e3.v)) z1) (.cons (y2.mono (Sh_mono e3.v)) z2)
theorem puts_own {M : Addr → Bool} {p : Addr} {t : Nat} (mp : M p = true) (Q : D → Hp → Prop) : ∀ (ps : List (V × V)) (ds es : List (D × D)) (H : Hp) (d : D), OwOk (gm X) M H p (.dic t es) → RpL (gm X) (Sh M (vw H)) (ds.map (·.1)) (ps.map (·.1)) → RpL (gm X) (Sh M (vw H)) (ds.map (·.2)) (ps.map (·.2)) →
    putsD t es ds = .ok d → (∀ H', (∀ a, a ≠ p → H' a = H a) → OwOk (gm X) M H' p d → Q d H') → tPuts p ps H (Q d)
  | [], [], es, H, d, ho, _, _, h, k => by
    have h : Res.ok (D.dic t es) = .ok d := h
    cases h
    exact k H (fun _ _ => rfl) ho
  | [], _ :: _, _, _, _, _, r, _, _, _ => by cases r
  | _ :: _, [], _, _, _, _, r, _, _, _ => by cases r
  | (x, y) :: ps, (dk, dv) :: ds, es, H, d, ho, r1, r2, h, k => by
    have h : (if keyFit t dk = true ∧ es.length < sizeLine then putsD t (setD es dk dv) ds else .bad) = .ok d := h
    by_cases c : keyFit t dk = true ∧ es.length < sizeLine
    · rw [if_pos c] at h
      have r1 : RpL (gm X) (Sh M (vw H)) (dk :: ds.map (·.1)) (x :: ps.map (·.1)) := r1
      have r2 : RpL (gm X) (Sh M (vw H)) (dv :: ds.map (·.2)) (y :: ps.map (·.2)) := r2
      cases r1 with
      | cons a1 b1 => cases r2 with
        | cons a2 b2 =>
          obtain ⟨o, g, ho'⟩ := put_own mp ho (a1.mono (Sh_le M _)) a2 c.1 c.2
          refine ⟨_, g, puts_own mp Q ps ds _ _ d ho' (by rw [sh_mut mp]; exact b1) (by rw [sh_mut mp]; exact b2) h fun H' e o' => k H' (fun a ha => by rw [e a ha, upd_ne ha]) o'⟩
    · rw [if_neg c] at h; cases h
theorem vf_disp (t : Nat) (o : HO) (ht : (t = 0 ∧ o = .dK []) ∨ (t = 1 ∧ o = .dT [])) (hu : X.A.units + 1 < cLine) (h : VPs X W pos ks vs φs) (hall : ks.all (·.isSome) = true := by rfl) (hl : ks.length = vs.length := by rfl) (h0 : ks ≠ [] := by decide) (h15 : ks.length ≤ 15 := by decide) :
    VF X W (.Dict ks vs pos) (dispE t φs) := by
  obtain ⟨trs, p, r⟩ := h
  have ho : o = .dK [] ∨ o = .dT [] := by
    rcases ht with ⟨_, h⟩ | ⟨_, h⟩
    · exact .inl h
    · exact .inr h
  refine ⟨_, pe_dispG o ho hu p hall hl h0 h15, fun H0 M0 M H σ env Q g h => fun a ha => ?_⟩
  unfold dispE at h
  have g1 := g.besideO ha (Ext.new ha) (o := o) (fun xs z => by rcases ho with rfl | rfl <;> cases z) (fun xs z => by rcases ho with rfl | rfl <;> cases z) upd_same
  refine r H0 M0 (addM M a) _ σ env _ g1 ?_
  cases q : φs env with
  | bad => rw [q] at h; exact h.elim
  | exc c fs => rw [q] at h; exact h.elim
  | ok ds =>
    rw [q] at h
    have h : PostN X W M σ H Q (putsD t [] ds) := h
    intro ps H2 e2 z1 z2
    cases q2 : putsD t [] ds with
    | bad => rw [q2] at h; exact h.elim
    | exc c fs =>
      exfalso
      have : ∀ (ds es : List (D × D)), putsD t es ds ≠ .exc c fs := by
        intro ds
        induction ds with
        | nil => intro es h; cases h
        | cons d ds ih =>
          intro es h
          obtain ⟨dk, dv⟩ := d
          have h : (if keyFit t dk = true ∧ es.length < sizeLine then putsD t (setD es dk dv) ds else .bad) = .exc c fs := h
          split at h
          · exact ih _ h
          · cases h
      exact this _ _ q2
    | ok d =>
      rw [q2] at h
      have ho2 : OwOk (gm X) (addM M a) H2 a (.dic t []) := by
        have hh : H2 a = some o := e2 _ _ upd_same
        rcases ht with ⟨rfl, rfl⟩ | ⟨rfl, rfl⟩
        · exact ⟨[], hh, rfl, .nil⟩
        · exact ⟨[], hh, rfl, .nil⟩
      refine puts_own addM_self (fun d H => Q (.ref a) H) ps ds [] H2 d ho2 z1 z2 q2 fun H' e o' => ?_
      refine h a H' ha (fun b u hb => ?_) o'
      have hne : b ≠ a := fun z => by rw [z, ha] at hb; cases hb
      rw [e b hne]
      exact e2 _ _ (by rw [upd_ne hne]; exact hb)
def revI : D → Res D
  | .lst ds => if immut.immuts ds = true then .ok (.lst ds.reverse) else .bad
  | _ => .bad
def revIE (φ : Env → Res D) (env : Env) : Res D := (φ env).bind revI
theorem revI_lst {ds : List D} (h : immut.immuts ds = true) : revI (.lst ds) = .ok (.lst ds.reverse) := if_pos h
theorem tup_sh {H0 H : Hp} {M0 M : Addr → Bool} {σ : L2.St} {env : Env} (g : Good (gm X) H0 M0 M H σ env) : ∀ u zs, vw H u = some (.tup zs) → Sh M (vw H) u = some (.tup zs) := fun u zs q => by
  show Sh M (vw H) u = _
  cases m : M u with
  | true => exact absurd (vw_tup q) (g.ok.tup u zs m)
  | false => rw [Sh_of m]; exact q
theorem vf_rev {k : Nat} {p1 p2 p3 : Pos} (he : VE X W false e φ) : VF X W (.Subscript e (.Slice none none (some (.UnaryOp .USub (.Constant (.int 1) k p1) p2)) p3) pos) (revIE φ) := by
  obtain ⟨t, pt, r⟩ := he
  refine ⟨_, pe_revL pt, fun H0 M0 M H σ env Q g h => ?_⟩
  refine r H0 M0 M H σ env _ g ?_
  have h0 : PostN X W M σ H Q ((φ env).bind revI) := h
  cases q : φ env with
  | bad => rw [q] at h0; exact h0
  | exc c fs => rw [q] at h0; exact h0
  | ok d =>
    rw [q] at h0
    intro v H1 e1 r1
    have h1 : PostN X W M σ H Q (revI d) := h0
    replace r1 := r1.mono (vis_le false M (vw H1))
    cases d <;> first | exact h1.elim | skip
    case lst ds =>
      have h2 : PostN X W M σ H Q (if immut.immuts ds = true then .ok (.lst ds.reverse) else .bad) := h1
      by_cases hi : immut.immuts ds = true
      · rw [if_pos hi] at h2
        cases r1 with
        | lst hx rx =>
          have rs := rpl_rev (RpL.imm (tup_sh (g.mono e1)) rx hi)
          exact ⟨_, _, rfl, .inl (vw_lst hx), fun p hp => h2 p _ (e1.fresh hp) (e1.trans (Ext.new hp)) (ow_newL hp rs)⟩
      · rw [if_neg hi] at h2; exact h2.elim
def dictI : List D → Res D
  | [.dic 0 es] => if immut.immuts (es.map (·.2)) = true then .ok (.dic 0 es) else .bad
  | _ => .bad
theorem dictI_dic {es : List (D × D)} (h : immut.immuts (es.map (·.2)) = true) : dictI [.dic 0 es] = .ok (.dic 0 es) := if_pos h
theorem vf_dictI {es : List Expr} {φa : Env → Res (List D)} {p : Pos} (hm : X.mg "dict" = none) (ha : VA X W false (e :: es) φa) (hg : Gl X "dict" := by rfl)
    (he : starEach (e :: es) X.env = (false, eval e X.env) :: starEach es X.env := by rfl) (hpl : (backTo pos (starEach es X.env)).any (·.1) = false := by rfl) : VF X W (.Call (.Name "dict" p) (e :: es) [] pos) (aE dictI φa) := by
  obtain ⟨t, pt, r⟩ := ha
  refine ⟨_, pe_callTy call_dictD hg hm (by decide +kernel) pt (by decide) (by decide) he hpl, fun H0 M0 M H σ env Q g h => ?_⟩
  refine r H0 M0 M H σ env _ g ?_
  have h0 : PostN X W M σ H Q ((φa env).bind dictI) := h
  cases q : φa env with
  | ok ds =>
    rw [q] at h0
    intro vs H1 e1 r1
    have h1 : PostN X W M σ H Q (dictI ds) := h0
    replace r1 := r1.mono (vis_le false M (vw H1))
    unfold dictI at h1
    split at h1
    · rename_i es
      by_cases hi : immut.immuts (es.map (·.2)) = true
      · rw [if_pos hi] at h1
        cases r1 with
        | cons r t =>
          cases t
          cases r with
          | dicK ha e ra =>
            have rs := RpL.imm (tup_sh (g.mono e1)) ra hi
            refine ⟨_, _, rfl, vw_dK ha, fun l hl => h1 l _ (e1.fresh hl) (e1.trans (Ext.new hl)) ⟨_, upd_same, e, rs.mono (sh_add (Ext.new hl) hl)⟩⟩
      · rw [if_neg hi] at h1; exact h1.elim
    · exact h1.elim
  | exc c fs => rw [q] at h0; exact h0
  | bad => rw [q] at h0; exact h0
def noexT : Res Bool → Res Bool
  | .ok b => .ok b
  | _ => .bad
def lendT (i : Nat) (τ : Env → Res Bool) (env : Env) : Res Bool := noexT (τ (give i env))
theorem vt_lend {τ : Env → Res Bool} (i : Nat) (h : VT X W e τ) : VT X W e (lendT i τ) := by
  obtain ⟨t, p, r⟩ := h
  refine ⟨t, p, fun H0 M0 M H σ env Q g h => ?_⟩
  obtain ⟨M', g', e'⟩ := g.give i
  refine r H0 M0 M' H σ _ Q g' ?_
  unfold lendT at h
  cases q : τ (give i env) with
  | ok b => rw [q] at h; exact h
  | exc c fs => rw [q] at h; exact (show False from h).elim
  | bad => rw [q] at h; exact (show False from h).elim
end
def ne2D : D → D → Res D
  | .lst [.dic 0 es, a], .lst [.dic 0 es', b] => if (intsD es = true ∧ intsD es' = true) ∧ (cmpOk a = true ∧ cmpOk b = true) then (if sameD es es = true then .ok (.bl (!(dicEq es es' && eqD a b))) else .bad) else .bad
  | _, _ => .bad
section
variable {X : Cx}
def rNe2 (K : PySem.W.Frag) : R2 := fun x y H Q => ∃ (a b : Addr) (da db : Addr) (ta tb : V) (d e : PyData) (ks ls : List (Key × V)), x = .ref a ∧ y = .ref b ∧ Rd H a (.lst [.ref da, ta]) ∧ Rd H b (.lst [.ref db, tb]) ∧
  Rd H da (.dK ks) ∧ Rd H db (.dK ls) ∧ Dp K H ta d ∧ Dp K H tb e ∧ (SeqAt.shaped d = true ∧ SeqAt.shaped e = true) ∧ (intsV ks ∧ intsV ls) ∧ sameV ks ks = true ∧
  Q (.bl (!((ks.length == ls.length && sameV ks ls) && PyData.eqv d e))) H
theorem op_ne2 (hu : X.A.units + 65 < cLine) : OpR X (compareOp .NotEq) (rNe2 X.K) := by
  intro pins s σ H x y v u Q I rx ry h
  obtain ⟨a, b, da, db, ta, tb, d, e, ks, ls, rfl, rfl, ha, hb, hda, hdb, hd, he, ⟨sd, se⟩, ⟨i1, i2⟩, s1, q⟩ := h
  obtain rfl : v = Value.ref a := rx
  obtain rfl : u = Value.ref b := ry
  obtain ⟨its, r, pl, _⟩ := I.list (xs := [.ref da, ta]) (.inl ha)
  obtain ⟨its2, r2, pl2, _⟩ := I.list (xs := [.ref db, tb]) (.inl hb)
  cases r with
  | cons a0 r => cases r with
    | cons a1 r => cases r with
      | nil => cases r2 with
        | cons b0 r2 => cases r2 with
          | cons b1 r2 => cases r2 with
            | nil =>
              rename_i x0 x1 y0 y1
              obtain rfl : x0 = Value.ref da := a0
              obtain rfl : y0 = Value.ref db := b0
              have hu1 : X.A.in1.units + 64 < cLine := by
                show X.A.units + 1 + 64 < cLine
                omega
              have e0 := eqp_dK (A := X.A.in1) I.hok hu1 hda hdb i1 i2 fun c => by
                subst c
                have := rd_uniq (fun _ _ h => by cases h) (fun _ _ h => by cases h) hda hdb
                injection this with this
                subst this
                rw [s1, beq_self_eq_true]; rfl
              obtain ⟨as, w1⟩ := Dp.reads I d ta x1 hd a1
              obtain ⟨bs, w2⟩ := Dp.reads I e tb y1 he b1
              have e1 : SeqAt.EqP X.prog X.w X.A.in1 s x1 y1 (PyData.eqv d e) := (SeqAt.eqAt_reads d e X.A.in1 s x1 y1 as bs w1 w2 (SeqAt.canLay_of_shaped sd) (SeqAt.canLay_of_shaped se) (SeqAt.room_of_shaped sd hu1)).eqP
              refine SeqAt.vne_lists (g := fun k => match k with
                | 0 => ks.length == ls.length && sameV ks ls
                | _ => PyData.eqv d e) pl.isList pl2.isList rfl (by omega) (fun k h1 h2 => ?_) _ _ ?_
              · match k, h1, h2 with
                | 0, _, _ => exact e0
                | 1, _, _ => exact e1
                | k + 2, h1, _ => exact absurd h1 (by show ¬ k + 2 < 2; omega)
              · refine ⟨.bl _, H, I, rfl, ?_⟩
                have eq : ((List.range 2).all fun k => match k with
                  | 0 => ks.length == ls.length && sameV ks ls
                  | _ => PyData.eqv d e) = ((ks.length == ls.length && sameV ks ls) && PyData.eqv d e) := by
                  show ((ks.length == ls.length && sameV ks ls) && (PyData.eqv d e && true)) = _
                  rw [Bool.and_true]
                rw [← eq] at q
                exact q
variable {W : WX} {fl fla flb : Bool}
theorem of_ne2 : OpF X W fla flb fl (rNe2 X.K) ne2D := by
  intro M H σ Q d e v w m rd re h
  unfold ne2D at h
  have rd' := rd.mono (vis_le fla M (vw H))
  have re' := re.mono (vis_le flb M (vw H))
  split at h
  · rename_i es a es' b
    obtain ⟨⟨⟨i1, i2⟩, c1, c2⟩, h⟩ := PostE.ite h
    obtain ⟨s1, h⟩ := PostE.ite h
    obtain ⟨p1, k1⟩ := Bool.and_eq_true_iff.mp c1
    obtain ⟨p2, k2⟩ := Bool.and_eq_true_iff.mp c2
    cases rd' with
    | lst a1 r1 => cases r1 with
      | cons d0 r1 => cases r1 with
        | cons d1 r1 => cases r1 with
          | nil => cases re' with
            | lst a2 r2 => cases r2 with
              | cons f0 r2 => cases r2 with
                | cons f1 r2 => cases r2 with
                  | nil =>
                    cases d0 with
                    | dicK q1 ek1 rk1 => cases f0 with
                      | dicK q2 ek2 rk2 =>
                        have x1 := same_rel keyD_eq ek1 rk1 i1 ek1 rk1 i1
                        refine ⟨_, _, _, _, _, _, toPy a, toPy b, _, _, rfl, rfl, vw_lst a1, vw_lst a2, vw_dK q1, vw_dK q2, d1.dp p1, f1.dp p2, ⟨k1, k2⟩, ⟨ints_rel rk1 i1, ints_rel rk2 i2⟩, x1.trans s1, ?_⟩
                        rw [same_rel keyD_eq ek2 rk2 i2 ek1 rk1 i1, ← map_len ek1, ← map_len ek2]
                        exact h _ H (Ext.refl _) (.bl _)
  · exact h.elim
end
structure PropOkO (P : Program) (w : World) (K : PySem.W.Frag) (mg : Str → Option Value) (base : Heap) (c f : Str) (k : Nat) (F : List D → Res D) : Prop where
  ex : ∃ (C p g : Addr) (fd : FuncData), mg c = some (.ref C) ∧ Cls K C ∧ PropOf K C f p g ∧ Binds K fd ["self"] [] ∧ FnOk P w K mg base (L2N.CX P w) k g fd ["self"] (spO ⟨P, w, K, mg⟩ 1 F)
section
variable {P : Program} {w : World} {K : PySem.W.Frag} {mg : Str → Option Value} {base : Heap} {c m qual : Str} {st : Stmt} {N : List Str} {k : Nat} {ψ : Env → SRes} {F : List D → Res D}
theorem prop_vO (N : List Str) (ψ : Env → SRes) (R : RawP K mg c m qual st) (S : FnScope N ["self"] (defScope st)) (hF : F = defO N.length ψ)
    (body : ∀ (f : Addr) (cdv : Value) (A : Around) (outer : List PySem.Env) (s : Shared) (H : Hp) (E : XK), Room k (A.deeper (PyProof.Rows.envOfC qual (defScope st) s.heap.objs.size f cdv)) →
      L2N.Takes (cxOf (L2N.CX P w) P w K mg base N qual (defScope st) f cdv A outer s H E) (WB E) →
      PassesOwn (model P w) (A.deeper (PyProof.Rows.envOfC qual (defScope st) s.heap.objs.size f cdv)) (PyProof.Rows.envOfC qual (defScope st) s.heap.objs.size f cdv) (cxOf (L2N.CX P w) P w K mg base N qual (defScope st) f cdv A outer s H E).xe →
      VB (cxOf (L2N.CX P w) P w K mg base N qual (defScope st) f cdv A outer s H E) (WB E) (defBody st) ψ) :
    PropOkO P w K mg base c m (k + 1) F := by
  subst hF
  obtain ⟨C, p, g, fd, h1, h2, h3, h4, h5⟩ := R.ex
  exact ⟨C, p, g, fd, h1, h2, h3, h5, fn_vo h4 S rfl (body g)⟩
variable {X : Cx} {W : WX} {e : Expr} {pos : Pos} {φ : Env → Res D} {f : Str}
theorem vf_prop (hP : PropOkO X.prog X.w X.K X.mg X.base c f k F) (hr : Room (k + 1) X.A) (he : VE X W true e φ) (hb : attributeBase e f X.env (eval e X.env) = eval e X.env := by rfl) : VF X W (.Attribute e f pos) (propE c F φ) := by
  obtain ⟨t, pt, r⟩ := he
  obtain ⟨C, p, g, fd, x1, x2, x3, x4, x5⟩ := hP.ex
  refine ⟨_, pe_prop (E := fun _ _ _ => False) pt x2 x3 x5 hr x4 .nil (L2N.passes_call (W := fun _ _ _ _ => False) tkW0 fun _ _ _ _ h => h) hb, fun H0 M0 M H σ env Q g h => ?_⟩
  refine r H0 M0 M H σ env _ g ?_
  have h0 : PostN X W M σ H Q ((φ env).bind fun d => if isCls c d = true then (match F [d] with | .ok r => .ok r | _ => .bad) else .bad) := h
  cases q : φ env with
  | bad => rw [q] at h0; exact h0
  | exc c fs => rw [q] at h0; exact h0
  | ok d =>
    rw [q] at h0
    intro v H1 e1 r1
    have h1 : PostN X W M σ H Q (if isCls c d = true then (match F [d] with | .ok r => .ok r | _ => .bad) else .bad) := h0
    by_cases hi : isCls c d = true
    · rw [if_pos hi] at h1
      cases d with
      | ins c' gs =>
        have ec : c' = c := of_decide_eq_true hi
        subst ec
        obtain ⟨a, C', dx, vs, rfl, z1, z2, z3, z4⟩ := ins_of rfl r1
        have z1' : X.mg c' = some (.ref C') := z1
        rw [x1] at z1'
        cases z1'
        refine ⟨a, dx, vs, rfl, vw_ins (Sh_some z2).2, rfl, M, [.ins c' gs], g.ok.mono e1, .cons r1 .nil, ?_⟩
        cases q : F [.ins c' gs] with
        | ok d => rw [q] at h1; exact fun p' H2 e2 hp o => h1 p' H2 (e1.fresh hp) (e1.trans e2) o
        | exc c fs => rw [q] at h1; exact h1.elim
        | bad => rw [q] at h1; exact h1.elim
      | _ => cases hi
    · rw [if_neg hi] at h1; exact h1.elim
end
end VL

set_option maxRecDepth 100000
set_option maxHeartbeats 2000000
set_option autoImplicit false
namespace VL
open PySem L2
def VGK (X : Cx) (i : Nat) (tg : Expr) (γ : D → Env → Option Env) : Prop :=
  ∃ g : TG, PG X tg g ∧ ∀ (H0 : Hp) (M0 M : Addr → Bool) (H : Hp) (σ : L2.St) (env env' : Env) (d : D) (v : V) (Q : L2.St → Hp → Prop), Good (gm X) H0 M0 M H σ env → Rp (gm X) (Sh M (vw H)) d v → γ d env = some env' → (∀ σ', Good (gm X) H0 M0 M H σ' env' → σ'[i]? = σ[i]? → Q σ' H) → g v σ H Q
def VGsK (X : Cx) (i : Nat) (tg : List Expr) (γ : List D → Env → Option Env) : Prop :=
  ∃ g : TGs, PGs X tg g ∧ ∀ (H0 : Hp) (M0 M : Addr → Bool) (H : Hp) (σ : L2.St) (env env' : Env) (d : List D) (v : List V) (Q : L2.St → Hp → Prop), Good (gm X) H0 M0 M H σ env → RpL (gm X) (Sh M (vw H)) d v → γ d env = some env' → (∀ σ', Good (gm X) H0 M0 M H σ' env' → σ'[i]? = σ[i]? → Q σ' H) → g v σ H Q
section
variable {X : Cx} {W : WX} {i : Nat} {st : Stmt} {sts : List Stmt} {e : Expr} {pos : Pos} {ψ χ : Env → SRes} {φ : Env → Res VL.D} {fl fla : Bool}
theorem vgk_n (j : Nat) {x : Str} (hN : X.N.Nodup) (hj : j ≠ i := by decide) (hi : X.N[j]? = some x := by rfl) (hx : Loc X.env.scope x := by first | exact Or.inl rfl | exact Or.inr rfl) (hf : X.fn x = true ∨ X.env.scope.names.lookup x = some .local := by first | exact .inl rfl | exact .inr rfl | assumption) :
    VGK X i (.Name x pos) (gnG j) := ⟨_, pg_name hN hi hx hf, fun H0 M0 M H σ env env' d v Q g r e q => by cases e; exact q _ (g.set r) (List.getElem?_set_ne hj)⟩
theorem vgsk_nil : VGsK X i [] nilG := ⟨_, pgs_nil, fun H0 M0 M H σ env env' d v Q g r e q => by
  cases r with
  | nil => cases e; exact ⟨rfl, q σ g rfl⟩
  | cons _ _ => cases e⟩
theorem vgsk_cons {es : List Expr} {γ : VL.D → Env → Option Env} {γs : List VL.D → Env → Option Env} (h1 : VGK X i e γ) (h2 : VGsK X i es γs) (hs : (assignEach (e :: es) X.env).map (·.2) = assign e X.env :: (assignEach es X.env).map (·.2) := by rfl) : VGsK X i (e :: es) (consG γ γs) := by
  obtain ⟨g1, p1, r1⟩ := h1
  obtain ⟨g2, p2, r2⟩ := h2
  refine ⟨_, pgs_cons p1 p2 hs, fun H0 M0 M H σ env env' d v Q g r e q => ?_⟩
  cases r with
  | nil => cases e
  | cons ra rb =>
    rename_i d ds v vs
    have e' : (γ d env).bind (fun env' => γs ds env') = some env' := e
    cases z : γ d env with
    | none => rw [z] at e'; cases e'
    | some env1 =>
      rw [z] at e'
      exact ⟨_, _, rfl, r1 H0 M0 M H σ env env1 d v _ g ra z fun σ1 g1 k1 => r2 H0 M0 M H σ1 env1 env' ds vs Q g1 rb e' fun σ2 g2 k2 => q σ2 g2 (k2.trans k1)⟩
theorem vgk_tup {es : List Expr} {k n : Nat} {γs : List VL.D → Env → Option Env} (hc : X.calm = true) (h : VGsK X i es γs) (hn : (assignEach es X.env).length = n := by rfl) (hst : (assignEach es X.env).findIdx? (·.1) = none := by rfl) : VGK X i (.Tuple es k pos) (tupG n γs) := by
  obtain ⟨g1, p1, r1⟩ := h
  refine ⟨_, pg_tup hc p1 hn hst, fun H0 M0 M H σ env env' d v Q g r e q => ?_⟩
  cases r <;> first | (cases e; done) | skip
  case tup a xs ds ha ra =>
    have e' : (if ds.length = n then γs ds env else none) = some env' := e
    by_cases c : ds.length = n
    · rw [if_pos c] at e'
      exact ⟨a, xs, rfl, .inl (.inl (vw_tup (Sh_some ha).2)), by rw [← ra.length]; exact c, r1 H0 M0 M H σ env env' ds xs Q g ra e' q⟩
    · rw [if_neg c] at e'; cases e'
theorem vsk_forT {tg iter : Expr} {γ : VL.D → Env → Option Env} {ι : Env → Res (List VL.D)} (hp : PassesOwn (model X.prog X.w) X.A X.env X.xe) (hc : X.calm = true) (hi : VI X W tg iter ι) (hg : VGK X i tg γ) (hb : VBK X W i sts ψ)
    (hs : ∀ x, foldedSetIterable iter X.env x = pure x := by intro _; rfl) : VSK X W i (.For tg iter sts [] pos) (forS γ ι ψ) := by
  obtain ⟨wi, pi, ri⟩ := hi
  obtain ⟨tg', pg, rg⟩ := hg
  obtain ⟨tb, pb, rb⟩ := hb
  refine ⟨_, ps_for hp hc pi pg pb hs, fun H0 M0 M H σ env D g h => ?_⟩
  refine ri H0 M0 M H σ env _ g ?_
  unfold forS ofA at h
  cases q : ι env with
  | bad => rw [q] at h; exact h
  | exc c fs => rw [q] at h; exact (show False from h).elim
  | ok ds =>
    rw [q] at h
    intro J H1 e1 ok
    have h1 : PostKp X H0 M0 M H1 σ[i]? i D (forL γ ψ ds env) := PostKp.mono h (Sh_mono e1.v)
    refine ⟨fun k m σ' H' => m = ds.length - k ∧ ∃ M' env', Good (gm X) H0 M0 M' H' σ' env' ∧ VEx (Sh M (vw H1)) (Sh M' (vw H')) ∧ σ'[i]? = σ[i]? ∧ PostKp X H0 M0 M' H' σ[i]? i D (forL γ ψ (ds.drop k) env'), ⟨ds.length, rfl, M, env, g.mono e1, .refl _, rfl, h1⟩, ?_⟩
    rintro k m σ' H' ⟨rfl, M', env', g', e', hv', h'⟩
    obtain ⟨o1, o2⟩ := ok M' H' g'.ok g'.ex e' k
    cases qd : ds[k]? with
    | none =>
      have hi : ds.length ≤ k := List.getElem?_eq_none_iff.mp qd
      rw [List.drop_of_length_le hi] at h'
      exact .inl ⟨o1 hi, h' M' H' σ' g' (.refl _) hv'⟩
    | some d =>
      obtain ⟨o3, o4⟩ := o2 d qd
      have hi : k < ds.length := (List.getElem?_eq_some_iff.mp qd).1
      have hdr : ds.drop k = d :: ds.drop (k + 1) := by
        rw [List.drop_eq_getElem_cons hi]
        rw [List.getElem?_eq_getElem hi] at qd
        cases qd; rfl
      rw [hdr] at h'
      unfold forL at h'
      cases qg : γ d env' with
      | none => rw [qg] at h'; exact h'.elim
      | some env1 =>
        rw [qg] at h'
        refine .inr ⟨o3, fun σ2 H2 => ∃ M2 env2, Good (gm X) H0 M0 M2 H2 σ2 env2 ∧ VEx (Sh M (vw H1)) (Sh M2 (vw H2)) ∧ σ2[i]? = σ[i]? ∧ PostKp X H0 M0 M2 H2 σ[i]? i D (forL γ ψ (ds.drop (k + 1)) env2), fun σ2 H2 ⟨M2, env2, x1, x2, x3, x4⟩ => ⟨ds.length - (k + 1), by omega, rfl, M2, env2, x1, x2, x3, x4⟩, fun y H2 hy => ?_⟩
        obtain ⟨ey, ry⟩ := o4 y H2 hy
        refine rg H0 M0 M' H2 σ' env' env1 d y _ (g'.mono ey) ry qg fun σ3 g3 hk3 => ?_
        have h3 : PostKp X H0 M0 M' H2 σ[i]? i D (flowL (ψ env1) (forL γ ψ (ds.drop (k + 1)))) := PostKp.mono h' (Sh_mono (M := M') ey.v)
        have e3 := e'.trans (Sh_mono (M := M') ey.v)
        have hv3 : σ3[i]? = σ[i]? := hk3.trans hv'
        refine rb H0 M0 M' H2 σ3 env1 _ g3 ?_
        unfold flowL at h3
        cases qb : ψ env1 with
        | nx env2 => rw [qb] at h3; exact fun M4 H4 σ4 g4 e4 hv4 => ⟨M4, env2, g4, e3.trans e4, hv4.trans hv3, PostKp.mono h3 e4⟩
        | ct env2 => rw [qb] at h3; exact fun M4 H4 σ4 g4 e4 hv4 => ⟨M4, env2, g4, e3.trans e4, hv4.trans hv3, PostKp.mono h3 e4⟩
        | bk env2 =>
          rw [qb] at h3
          exact fun M4 H4 σ4 g4 e4 hv4 => (show PostKp X H0 M0 M' H2 σ[i]? i D (.nx env2) from h3) M4 H4 σ4 g4 e4 (hv4.trans hv3)
        | rt d => rw [qb] at h3; exact h3
        | xc c fs env2 => rw [qb] at h3; exact h3
        | bad => rw [qb] at h3; exact h3
        | ro d => rw [qb] at h3; exact h3
theorem vsk_expr (h : VE X W fl e φ) (hs : swapsWith e none pos.line X.env = pure false := by rfl) : VSK X W i (.Expr e pos) (dropS φ) := by
  obtain ⟨t, p, r⟩ := h
  refine ⟨_, ps_expr p hs, fun H0 M0 M H σ env D g h => ?_⟩
  refine r H0 M0 M H σ env _ g ?_
  unfold dropS ofE at h
  cases q : φ env with
  | bad => rw [q] at h; exact h
  | exc c fs => rw [q] at h; exact (show False from h).elim
  | ok d => rw [q] at h; exact fun v H1 e1 r1 => h M H1 σ (g.mono e1) (Sh_mono e1.v) rfl
theorem vsk_give (j : Nat) (h : VSK X W i st ψ) : VSK X W i st (giveS j ψ) := by
  obtain ⟨t, p, r⟩ := h
  refine ⟨t, p, fun H0 M0 M H σ env D g h => ?_⟩
  obtain ⟨M', g', e'⟩ := g.give j
  exact r H0 M0 M' H σ _ D g' (PostKp.mono h e')
theorem vsk_own (j : Nat) {x : Str} {pos' : Pos} (hN : X.N.Nodup) (h : VF X W e φ) (hj : j ≠ i := by decide) (hi : X.N[j]? = some x := by rfl) (hx : Loc X.env.scope x := by first | exact Or.inl rfl | exact Or.inr rfl) (hs : swapsWith e (some (.Name x pos')) pos.line X.env = pure false := by rfl)
    (hf : X.fn x = true ∨ X.env.scope.names.lookup x = some .local := by first | exact .inl rfl | exact .inr rfl | assumption) : VSK X W i (.Assign [.Name x pos'] e pos) (ownS j φ) := by
  obtain ⟨t, p, r⟩ := h
  refine ⟨_, ps_set hN hi hx p hs hf, fun H0 M0 M H σ env D g h => ?_⟩
  refine r H0 M0 M H σ env _ g ?_
  unfold ownS ofE at h
  cases q : φ env with
  | ok d =>
    rw [q] at h
    exact fun p H' hp e' o => h _ H' _ (g.own hp e' o) (sh_add e' hp) (List.getElem?_set_ne hj)
  | exc c fs => rw [q] at h; exact (show False from h).elim
  | bad => rw [q] at h; exact h
theorem vsk_setf (j : Nat) {c f x : Str} {fs : List Str} {value : Expr} {px pos' : Pos} (hC : ClsOk X.K X.mg c fs) (hv : VE X W true value φ) (hf : fs.contains f = true := by decide) (hN : X.N[j]? = some x := by rfl) (hvi : Vis X.env.scope x := by first | exact Or.inl rfl | exact Or.inr (Or.inl rfl) | exact Or.inr (Or.inr rfl))
    (hd : (x == ("__debug__" : Str)) = false := by decide) (hcd : (x == ("__classdict__" : Str)) = false := by decide)
    (hs : swapsWith value (some (.Attribute (.Name x px) f pos')) pos.line X.env = pure false := by rfl) : VSK X W i (.Assign [.Attribute (.Name x px) f pos'] value pos) (setfS j c f φ) := by
  obtain ⟨t, pt, r⟩ := hv
  obtain ⟨C, hm, hc, hn⟩ := hC.ex
  refine ⟨_, ps_fld (pe_var hN hvi hd hcd) pt hs, fun H0 M0 M H σ env D g h => ?_⟩
  unfold setfS rSetf at h
  cases q : env[j]? with
  | none => rw [q] at h; exact h.elim
  | some s =>
    rw [q] at h
    cases s with
    | no => exact h.elim
    | sh d => exact h.elim
    | ow dd =>
      cases dd with
      | sel x' c' gs =>
        refine r H0 M0 M H σ env _ g ?_
        have h : PostKp X H0 M0 M H σ[i]? i D (ofE (φ env) env fun d => if c' = c ∧ gs.length < 100 then .nx (env.set j (.ow (.sel x' c (putG gs f d)))) else .bad) := h
        unfold ofE at h
        cases q1 : φ env with
        | bad => rw [q1] at h; exact h
        | exc c fs => rw [q1] at h; exact (show False from h).elim
        | ok d =>
          rw [q1] at h
          intro v H1 e1 r1
          have h : PostKp X H0 M0 M H σ[i]? i D (if c' = c ∧ gs.length < 100 then .nx (env.set j (.ow (.sel x' c (putG gs f d)))) else .bad) := h
          by_cases hcc : c' = c ∧ gs.length < 100
          · rw [if_pos hcc] at h
            obtain ⟨ec, hl⟩ := hcc
            subst ec
            have g1 := g.mono e1
            obtain ⟨p, hv', mp, m0, ep, C', dx, vs, y1, y2, y3, y4⟩ := g1.sl j _ q
            have y1' : X.mg c' = some (.ref C') := y1
            rw [hm] at y1'
            cases y1'
            have hlen : vs.length < 1000 := by
              have := congrArg List.length y3
              rw [List.length_map, List.length_map] at this
              omega
            refine ⟨_, hv', p, C, dx, vs, rfl, y2, hc, hn f hf, hlen, ?_⟩
            have rr : OwOk (gm X) M (upd H1 p (.ins C dx (putF f v vs))) p (.sel x' c' (putG gs f d)) := ⟨ep, C, dx, _, hm, upd_same, putG_keys y3, by rw [sh_mut mp]; exact putG_vals y3 y4 r1⟩
            exact h M _ σ (g1.mut q hv' rr) (by rw [sh_mut mp]; exact Sh_mono e1.v) rfl
          · rw [if_neg hcc] at h; exact h.elim
      | _ => exact h.elim
end
def hidH (H : Hp) (p : Addr) : Hp := fun a => if a = p then none else H a
theorem Good.lent {mg : Gm} {H0 H : Hp} {M0 M : Addr → Bool} {σ : L2.St} {env : Env} {p : Addr} {d : D} {i : Nat} (g : Good mg H0 M0 M H σ env) (hp : M0 p = true) (o : OwOk mg M H p d) (hi : i < env.length) :
    Good mg (hidH H0 p) (subM M0 p) M H (σ.set i (some (.ref p))) (env.set i (.ow d)) := by
  have mp := g.sub p hp
  have off : ∀ j : Nat, isOw env[j]? = true → σ[j]? ≠ some (some (.ref p)) := fun j h1 h2 => by
    cases q : env[j]? with
    | none => rw [q] at h1; cases h1
    | some s =>
      rw [q] at h1
      cases s with
      | no => cases h1
      | sh _ => cases h1
      | ow d' =>
        obtain ⟨a, e1, m1, m2, _⟩ := g.sl j _ q
        rw [h2] at e1
        have : a = p := by cases e1; rfl
        rw [this, hp] at m2
        cases m2
  refine ⟨by rw [List.length_set, List.length_set]; exact g.len, g.ok, fun a h => ?_, fun a h => ?_, ?_, fun a u h => ?_, fun j s h => ?_, fun j k a hne h1 h2 h3 => ?_⟩
  · by_cases e : a = p
    · rw [e, subM_self] at h; cases h
    · rw [subM_ne e] at h; exact g.sub a h
  · by_cases e : a = p
    · exact .inr (by rw [e]; exact if_pos rfl)
    · rw [subM_ne e]
      rcases g.new a h with h | h
      · exact .inl h
      · exact .inr ((if_neg e).trans h)
  · have ne : ∀ a, subM M0 p a = true → a ≠ p ∧ M0 a = true := fun a h => by
      by_cases e : a = p
      · rw [e, subM_self] at h; cases h
      · rw [subM_ne e] at h; exact ⟨e, h⟩
    refine ⟨fun a h => ?_, fun a xs h z => ?_, fun a xs h z => ?_⟩
    · obtain ⟨e, m⟩ := ne a h
      obtain ⟨u, hu⟩ := g.ok0.dom a m
      exact ⟨u, (if_neg e).trans hu⟩
    · obtain ⟨e, m⟩ := ne a h
      exact g.ok0.tup a xs m ((if_neg e).symm.trans z)
    · obtain ⟨e, m⟩ := ne a h
      exact g.ok0.xd a xs m ((if_neg e).symm.trans z)
  · have h : (if a = p then none else H0 a) = some u := h
    by_cases e : a = p
    · rw [if_pos e] at h; cases h
    · rw [if_neg e] at h; exact g.ex a u h
  · by_cases e : j = i
    · subst e
      rw [List.getElem?_set_self hi] at h
      cases h
      exact ⟨p, List.getElem?_set_self (by rw [g.len]; exact hi), mp, subM_self, o⟩
    · rw [get_set_ne e] at h ⊢
      have := g.sl j s h
      cases s with
      | no => trivial
      | sh d' => exact this
      | ow d' =>
        obtain ⟨a, e1, m1, m2, r⟩ := this
        have : a ≠ p := fun z => by rw [z, hp] at m2; cases m2
        exact ⟨a, e1, m1, by rw [subM_ne this]; exact m2, r⟩
  · by_cases e1 : j = i
    · by_cases e2 : k = i
      · exact absurd (e1.trans e2.symm) hne
      · subst e1
        rw [get_set_ne e2] at h2 ⊢
        rw [List.getElem?_set_self (by rw [g.len]; exact hi)] at h3
        cases h3
        exact off k h2
    · rw [get_set_ne e1] at h1 h3
      by_cases e2 : k = i
      · subst e2
        rw [List.getElem?_set_self (by rw [g.len]; exact hi)]
        intro z
        cases z
        exact off j h1 h3
      · rw [get_set_ne e2] at h2 ⊢
        exact g.inj j k a hne h1 h2 h3
def PostKB (mg : Gm) (M : Addr → Bool) (H : Hp) (x p : Addr) (Q : VK) : Res D → Prop
  | .ok (.tup [.ins c gs, d']) => ∀ (H' : Hp) (C dx : Addr) (fs : List (Str × V)), mg.mg c = some (.ref C) → (∀ a u, a ≠ p → H a = some u → H' a = some u) → H' x = some (.ins C dx fs) → gs.map (·.1) = fs.map (·.1) → RpL mg (Sh M (vw H')) (gs.map (·.2)) (fs.map (·.2)) → OwOk mg M H' p d' → Q .non H'
  | _ => False
def spIB (mg : Gm) (c : Str) (n j : Nat) (F : Addr → D → List D → Res D) : Sp := fun vs H1 Q _ => ∃ (x C dx : Addr) (vs' : List V) (H : Hp) (M : Addr → Bool) (ds : List D) (p : Addr) (d : D), vs = .ref x :: vs' ∧ vs'.length + 1 = n ∧ mg.mg c = some (.ref C) ∧ H x = none ∧ H dx = none ∧ dx ≠ x ∧
  H1 = upd (upd H dx (.own x)) x (.ins C dx []) ∧ MOk M H ∧ M p = true ∧ vs'[j]? = some (.ref p) ∧ OwOk mg M H p d ∧ RpL mg (Sh M (vw H)) ds (vs'.set j .non) ∧ PostKB mg M H x p Q (F x d ds)
def outKB (x : Addr) (j : Nat) : SRes → Res D
  | .nx env => match (env[0]? : Option Sl), (env[j + 1]? : Option Sl) with
    | some (.ow (.sel x' c gs)), some (.ow d') => if x' = x then .ok (.tup [.ins c gs, d']) else .bad
    | _, _ => .bad
  | _ => .bad
def envIB (x : Addr) (c : Str) (m j : Nat) (d : D) (ds : List D) : Env := (envI x c m ds).set (j + 1) (.ow d)
def defKB (c : Str) (m j : Nat) (ψ : Env → SRes) (x : Addr) (d : D) (ds : List D) : Res D := outKB x j (ψ (envIB x c m j d ds))
structure InitOkB (P : Program) (w : World) (K : PySem.W.Frag) (mg : Str → Option Value) (base : Heap) (c : Str) (k : Nat) (ps : List Str) (n j : Nat) (F : Addr → D → List D → Res D) : Prop where
  ex : ∃ (C f : Addr) (fd : FuncData), mg c = some (.ref C) ∧ Mk K C f ∧ Binds K fd ps [] ∧ FnOk P w K mg base (L2N.CX P w) k f fd ps (spIB ⟨P, w, K, mg⟩ c n j F)
theorem start_set {y : Str} {N : List Str} {x p : Addr} {vs : List V} {j : Nat} (h : vs[j]? = some (.ref p)) : (L2.start (y :: N) (.ref x :: vs.set j .non)).set (j + 1) (some (.ref p)) = L2.start (y :: N) (.ref x :: vs) := by
  have hj : j < vs.length := (List.getElem?_eq_some_iff.mp h).1
  have hv : vs[j] = .ref p := (List.getElem?_eq_some_iff.mp h).2
  apply List.ext_getElem?
  intro k
  unfold L2.start
  by_cases e : k = j + 1
  · subst e
    rw [List.getElem?_set_self (by simp; omega)]
    show _ = ((V.ref x :: vs).map some ++ List.replicate _ none)[j + 1]?
    rw [List.getElem?_append_left (by rw [List.length_map, List.length_cons]; omega), List.getElem?_map, gs_, h]
    rfl
  · rw [List.getElem?_set_ne (Ne.symm e)]
    simp only [List.map_cons, List.cons_append, List.length_cons, List.length_set]
    cases k with
    | zero => rfl
    | succ k =>
      have hk : k ≠ j := fun z => e (by rw [z])
      rw [gs_, gs_]
      by_cases c : k < vs.length
      · rw [List.getElem?_append_left (by rw [List.length_map, List.length_set]; exact c), List.getElem?_append_left (by rw [List.length_map]; exact c), List.getElem?_map, List.getElem?_map, List.getElem?_set_ne (Ne.symm hk)]
      · rw [List.getElem?_append_right (by rw [List.length_map, List.length_set]; omega), List.getElem?_append_right (by rw [List.length_map]; omega), List.length_map, List.length_map, List.length_set]
section
variable {P : Program} {w : World} {K : PySem.W.Frag} {mg : Str → Option Value} {base : Heap} {c qual y : Str} {st : Stmt} {N ps : List Str} {k n j : Nat} {ψ : Env → SRes} {F : Addr → D → List D → Res D}
theorem init_vB (y : Str) (N : List Str) (ψ : Env → SRes) (R : RawK K mg c qual st ps) (S : FnScope (y :: N) ps (defScope st)) (hn : ps.length = n) (hnN : n ≤ (y :: N).length) (hF : F = defKB c (y :: N).length j ψ)
    (body : ∀ (f : Addr) (cdv : Value) (A : Around) (outer : List PySem.Env) (s : Shared) (H : Hp) (E : XK), Room k (A.deeper (PyProof.Rows.envOfC qual (defScope st) s.heap.objs.size f cdv)) →
      L2N.Takes (cxOf (L2N.CX P w) P w K mg base (y :: N) qual (defScope st) f cdv A outer s H E) (WB E) →
      PassesOwn (model P w) (A.deeper (PyProof.Rows.envOfC qual (defScope st) s.heap.objs.size f cdv)) (PyProof.Rows.envOfC qual (defScope st) s.heap.objs.size f cdv) (cxOf (L2N.CX P w) P w K mg base (y :: N) qual (defScope st) f cdv A outer s H E).xe →
      VBK (cxOf (L2N.CX P w) P w K mg base (y :: N) qual (defScope st) f cdv A outer s H E) (WB E) (j + 1) (defBody st) ψ) :
    InitOkB P w K mg base c (k + 1) ps n j F := by
  subst hF
  obtain ⟨C0, f, fd, h1, h2, h3, h4⟩ := R.ex
  refine ⟨C0, f, fd, h1, h2, h4, fun_okN h3 S (fun vs H Q E h => ?_) fun cdv A outer s H1 vs Q E hr h => ?_⟩
  · obtain ⟨x, C, dx, vs', H, M, ds, p, d, rfl, hl, _⟩ := h
    rw [List.length_cons, hl, hn]
  · obtain ⟨x, C, dx, vs', H, M, ds, p, d, rfl, hl, hc, hx, hdx, ne, rfl, m, mp, hv, od, r, post⟩ := h
    obtain ⟨t, pt, rr⟩ := body f cdv A outer s (upd (upd H dx (.own x)) x (.ins C dx [])) E hr (L2N.takes_of rfl rfl rfl rfl) (passes_of rfl)
    have hj : j < vs'.length := (List.getElem?_eq_some_iff.mp hv).1
    have g0 := goodI (y := y) (N := N) (mg := ⟨P, w, K, mg⟩) m r hx hdx ne hc
    have px : p ≠ x := fun z => by
      obtain ⟨u, hu⟩ := m.dom p mp
      rw [z, hx] at hu; cases hu
    have e1 : Ext H (upd (upd H dx (.own x)) x (.ins C dx [])) := g0.ex
    have vx : VEx (Sh M (vw H)) (Sh (addM M x) (vw (upd (upd H dx (.own x)) x (.ins C dx [])))) := fun a u h => by
      obtain ⟨h1, h2⟩ := Sh_some h
      have hne : a ≠ x := fun e => by
        subst e
        unfold vw at h2
        rw [hx] at h2
        cases h2
      rw [Sh_of (by rw [addM_ne hne]; exact h1)]
      exact e1.v a u h2
    have hel : j + 1 < (envI x c (y :: N).length ds).length := by
      rw [← g0.len]
      unfold L2.start
      simp only [List.length_append, List.length_map, List.length_cons, List.length_set]
      omega
    have od2 : OwOk ⟨P, w, K, mg⟩ (addM M x) (upd (upd H dx (.own x)) x (.ins C dx [])) p d := OwOk.imp vx (fun o ho => e1 p o ho) od
    have g1 := g0.lent mp od2 hel
    rw [start_set hv] at g1
    refine ⟨t, pt, rr _ _ _ _ _ (envIB x c (y :: N).length j d ds) _ g1 ?_⟩
    unfold defKB at post
    cases q : ψ (envIB x c (y :: N).length j d ds) with
    | rt d => rw [q] at post; exact (show False from post).elim
    | bk env => rw [q] at post; exact (show False from post).elim
    | ct env => rw [q] at post; exact (show False from post).elim
    | bad => rw [q] at post; exact (show False from post).elim
    | ro d => rw [q] at post; exact (show False from post).elim
    | xc c' fs env => rw [q] at post; exact (show False from post).elim
    | nx env =>
      rw [q] at post
      intro M' H' σ' g e hk
      have post' : PostKB ⟨P, w, K, mg⟩ M H x p Q (match (env[0]? : Option Sl), (env[j + 1]? : Option Sl) with
        | some (.ow (.sel x' c gs)), some (.ow d') => if x' = x then .ok (.tup [.ins c gs, d']) else .bad
        | _, _ => .bad) := post
      split at post'
      · rename_i x' c' gs d' q0 q1
        obtain ⟨p', hv', mp', m0, ep, C', dx', fs, y1, y2, y3, y4⟩ := g.sl 0 _ q0
        obtain ⟨p2, hv2, mp2, m02, o2⟩ := g.sl (j + 1) _ q1
        have e2 : p2 = p := by
          rw [hk] at hv2
          have : (L2.start (y :: N) (V.ref x :: vs'))[j + 1]? = some (some (.ref p)) := by
            rw [← start_set hv]
            exact List.getElem?_set_self (by
              unfold L2.start
              simp only [List.length_append, List.length_map, List.length_cons, List.length_set]
              omega)
          rw [this] at hv2
          cases hv2; rfl
        subst e2
        have sub : VEx (Sh M' (vw H')) (Sh M (vw H')) := fun a u hu => by
          obtain ⟨q1, q2⟩ := Sh_some hu
          rw [Sh_of]
          · exact q2
          · cases z : M a with
            | false => rfl
            | true =>
              by_cases ea : a = p2
              · rw [ea, mp2] at q1; cases q1
              · rw [g.sub a (by rw [subM_ne ea]; exact z)] at q1; cases q1
        by_cases ex : x' = x
        · subst ex
          rw [if_pos rfl] at post'
          subst ep
          exact post' H' C' dx' fs y1 (fun a u ha hu => g.ex a u ((if_neg ha).trans hu)) y2 y3 (y4.mono sub) (o2.vex sub)
        · rw [if_neg ex] at post'
          exact post'.elim
      · exact post'.elim
end
def flatG : D → Bool
  | .dic 0 es => immut.immuts (es.map (·.2))
  | .dic 1 es => immut.immuts (es.map (·.2))
  | d => immut d
theorem Rp.flat {mg : Gm} {G G' : Vw} (e : ∀ a u, (∀ xs, u ≠ .lst xs) → G a = some u → G' a = some u) {d : D} {v : V} (r : Rp mg G d v) (h : flatG d = true) : Rp mg G' d v := by
  have e1 : ∀ a xs, G a = some (.tup xs) → G' a = some (.tup xs) := fun a xs q => e a _ (fun _ z => nomatch z) q
  cases r with
  | dicK a k r => exact .dicK (e _ _ (fun _ z => nomatch z) a) k (RpL.imm e1 r h)
  | dicT a k r => exact .dicT (e _ _ (fun _ z => nomatch z) a) k (RpL.imm e1 r h)
  | non => exact .non
  | bl b => exact .bl b
  | int i => exact .int i
  | str s => exact .str s
  | tup a r => exact (Rp.tup a r).imm e1 h
  | _ => cases h
theorem RpL.flat {mg : Gm} {G G' : Vw} (e : ∀ a u, (∀ xs, u ≠ .lst xs) → G a = some u → G' a = some u) : ∀ {ds : List D} {vs : List V}, RpL mg G ds vs → ds.all flatG = true → RpL mg G' ds vs
  | _, _, .nil, _ => .nil
  | _, _, .cons r t, h => by
    rw [List.all_cons] at h
    obtain ⟨h1, h2⟩ := Bool.and_eq_true_iff.mp h
    exact .cons (Rp.flat e r h1) (RpL.flat e t h2)
theorem OwOk.flat {mg : Gm} {M M' : Addr → Bool} {H : Hp} {p : Addr} {t : Nat} {es : List (D × D)} (e : ∀ a u, (∀ xs, u ≠ .lst xs) → Sh M (vw H) a = some u → Sh M' (vw H) a = some u) (o : OwOk mg M H p (.dic t es)) (h : flatG (.dic t es) = true) : OwOk mg M' H p (.dic t es) := by
  have e1 : ∀ a xs, Sh M (vw H) a = some (.tup xs) → Sh M' (vw H) a = some (.tup xs) := fun a xs q => e a _ (fun _ z => nomatch z) q
  match t, o with
  | 0, ⟨kvs, h1, k, r⟩ => exact ⟨kvs, h1, k, RpL.imm e1 r h⟩
  | 1, ⟨kvs, h1, k, r⟩ => exact ⟨kvs, h1, k, RpL.imm e1 r h⟩
  | 2, _ => cases h
  | _ + 3, h => exact h.elim
open Classical in
noncomputable def mkFB (F : Addr → D → List D → Res D) (d : D) (ds : List D) : Res D := if ∀ x, F x d ds = F 0 d ds then F 0 d ds else .bad
theorem mkFB_ok {F : Addr → D → List D → Res D} {d r : D} {ds : List D} (h : ∀ x, F x d ds = .ok r) : mkFB F d ds = .ok r := by
  unfold mkFB
  rw [if_pos (fun x => by rw [h, h]), h]
def mkB1 (i jo : Nat) (env : Env) : Res D → SRes
  | .ok (.tup [.ins c gs, .dic t es]) => if (gs.map (·.2)).all flatG = true ∧ flatG (.dic t es) = true then .nx ((env.set jo (.ow (.dic t es))).set i (.sh (.ins c gs))) else .bad
  | _ => .bad
noncomputable def mkBS (i jo lo : Nat) (F : Addr → D → List D → Res D) (φ : Env → Res D) (env : Env) : SRes := match env[jo]?, env[lo]? with
  | some (.ow (.dic t es)), some (.ow (.lst ls)) => match φ env with
    | .ok d1 => mkB1 i jo env (mkFB F (.dic t es) [d1, .non, .lst ls])
    | _ => .bad
  | _, _ => .bad
theorem mkBS_ok {i jo lo t t' : Nat} {F : Addr → D → List D → Res D} {φ : Env → Res D} {env : Env} {es es' : List (D × D)} {ls : List D} {d1 : D} {c : Str} {gs : List (Str × D)} (h1 : env[jo]? = some (.ow (.dic t es))) (h2 : env[lo]? = some (.ow (.lst ls))) (h3 : φ env = .ok d1)
    (h4 : ∀ x, F x (.dic t es) [d1, .non, .lst ls] = .ok (.tup [.ins c gs, .dic t' es'])) (h5 : (gs.map (·.2)).all flatG = true) (h6 : flatG (.dic t' es') = true) : mkBS i jo lo F φ env = .nx ((env.set jo (.ow (.dic t' es'))).set i (.sh (.ins c gs))) := by
  unfold mkBS
  rw [h1, h2]
  show (match φ env with | .ok d1 => mkB1 i jo env (mkFB F (.dic t es) [d1, .non, .lst ls]) | _ => SRes.bad) = _
  rw [h3]
  show mkB1 i jo env (mkFB F (.dic t es) [d1, .non, .lst ls]) = _
  rw [mkFB_ok h4]
  exact if_pos ⟨h5, h6⟩
section
variable {X : Cx} {W : WX} {e : Expr} {p pos ypos zpos cpos pos' : Pos} {φ : Env → Res D} {c x y z : Str} {k n : Nat} {ps : List Str} {F : Addr → D → List D → Res D}
theorem vs_mkB (i jo lo : Nat) (hN : X.N.Nodup) (hI : InitOkB X.prog X.w X.K X.mg X.base c k ps 4 1 F) (tk : L2N.Takes X W) (hr : Room (k + 1) X.A) (he : VE X W true e φ) (hne : jo ≠ lo := by decide)
    (hy : X.N[jo]? = some y := by rfl) (hyv : Vis X.env.scope y := by first | exact Or.inl rfl | exact Or.inr (Or.inl rfl) | exact Or.inr (Or.inr rfl)) (hyd : (y == ("__debug__" : Str)) = false := by decide) (hyc : (y == ("__classdict__" : Str)) = false := by decide)
    (hz : X.N[lo]? = some z := by rfl) (hzv : Vis X.env.scope z := by first | exact Or.inl rfl | exact Or.inr (Or.inl rfl) | exact Or.inr (Or.inr rfl)) (hzd : (z == ("__debug__" : Str)) = false := by decide) (hzc : (z == ("__classdict__" : Str)) = false := by decide)
    (hg : Gl X c := by rfl) (hdb : (c == ("__debug__" : Str)) = false := by decide)
    (h1 : starEach [e, .Name y ypos, .Name z zpos] X.env = (false, eval e X.env) :: starEach [.Name y ypos, .Name z zpos] X.env := by rfl) (h2 : (backTo cpos (starEach [.Name y ypos, .Name z zpos] X.env)).any (·.1) = false := by rfl)
    (hi : X.N[i]? = some x := by rfl) (hx : Loc X.env.scope x := by first | exact Or.inl rfl | exact Or.inr rfl) (hs : swapsWith (.Call (.Name c p) [e, .Name y ypos, .Name z zpos] [] cpos) (some (.Name x pos')) pos.line X.env = pure false := by rfl)
    (hf : X.fn x = true ∨ X.env.scope.names.lookup x = some .local := by first | exact .inl rfl | exact .inr rfl | assumption) : VS X W (.Assign [.Name x pos'] (.Call (.Name c p) [e, .Name y ypos, .Name z zpos] [] cpos) pos) (mkBS i jo lo F φ) := by
  obtain ⟨t, pt, r⟩ := he
  obtain ⟨C, f, fd, x1, x2, x3, x4⟩ := hI.ex
  refine ⟨_, ps_set hN hi hx (pe_mkS x2 x4 hr hg x1 x3 (fun σ => L2N.passAt tk σ) (pa_cons pt (pa_cons (pe_var hy hyv hyd hyc) (pa_cons (pe_var hz hzv hzd hzc) pa_nil)) h1) hdb h1 h2) hs hf, fun H0 M0 M H σ env D g h => ?_⟩
  unfold mkBS at h
  split at h
  · rename_i t es ls qj ql
    refine r H0 M0 M H σ env _ g ?_
    cases q1 : φ env with
    | bad => rw [q1] at h; exact h.elim
    | exc c fs => rw [q1] at h; exact h.elim
    | ok d1 =>
      rw [q1] at h
      intro v1 H1 e1 r1
      have g1 := g.mono e1
      obtain ⟨a, hp, mp, m0p, op⟩ := g1.sl jo _ qj
      obtain ⟨b, hq, mq, m0q, oq⟩ := g1.sl lo _ ql
      have ab : a ≠ b := fun z => g1.inj jo lo a hne (by rw [qj]; rfl) (by rw [ql]; rfl) hp (by rw [z]; exact hq)
      refine ⟨_, hp, ⟨_, hq, fun x dx hx hdx ne => ?_⟩⟩
      have h : PostS X W H0 M0 M H D (mkB1 i jo env (mkFB F (.dic t es) [d1, .non, .lst ls])) := h
      obtain ⟨xs, hb, rb⟩ := oq
      have m1 := g1.ok
      have mx : M x = false := by
        cases q : M x with
        | false => rfl
        | true => obtain ⟨o, z⟩ := m1.dom x q; rw [hx] at z; cases z
      have le : ∀ a, subM M b a = true → M a = true := fun a h => (Bool.and_eq_true_iff.mp h).1
      refine ⟨x, C, dx, [v1, .ref a, .ref b], H1, subM M b, [d1, .non, .lst ls], a, .dic t es, rfl, rfl, x1, hx, hdx, ne, rfl, ⟨fun u h => m1.dom u (le u h), fun u xs h => m1.tup u xs (le u h), fun u xs h => m1.xd u xs (le u h)⟩,
        by rw [subM_ne ab]; exact mp, rfl, op.vex sh_sub, .cons (r1.mono sh_sub) (.cons .non (.cons (.lst (by rw [Sh_of subM_self]; exact vw_of hb trivial) (rb.mono sh_sub)) .nil)), ?_⟩
      have hF : ∀ x, F x (.dic t es) [d1, .non, .lst ls] = F 0 (.dic t es) [d1, .non, .lst ls] := by
        unfold mkFB at h
        split at h
        · assumption
        · exact h.elim
      have h : PostS X W H0 M0 M H D (mkB1 i jo env (F 0 (.dic t es) [d1, .non, .lst ls])) := by
        unfold mkFB at h
        rw [if_pos hF] at h
        exact h
      rw [hF]
      generalize F 0 (.dic t es) [d1, .non, .lst ls] = R at h
      unfold mkB1 at h
      split at h
      · rename_i c' gs t' es'
        obtain ⟨⟨f1, f2⟩, h⟩ := PostS.ite h
        intro H' C' dx' fs y1 eH y2 y3 y4 o'
        refine ⟨rfl, ?_⟩
        have E : ∀ u w, (∀ xs, w ≠ .lst xs) → Sh (subM M b) (vw H') u = some w → Sh M (vw H') u = some w := fun u w hw hu => by
          obtain ⟨q1, q2⟩ := Sh_some hu
          by_cases eb : u = b
          · exfalso
            rw [eb] at q2
            have q3 := vw_of (eH b _ (Ne.symm ab) hb) trivial
            rw [q3] at q2
            cases q2
            exact hw _ rfl
          · rw [subM_ne eb] at q1
            rw [Sh_of q1]; exact q2
        have o2 := o'.flat E f2
        obtain ⟨o0, ho0, _, _⟩ := op.obj
        obtain ⟨o1, ho1, _, _⟩ := o2.obj
        have ex : Ext H1 (upd H' a o0) := fun u w hu => by
          by_cases eu : u = a
          · rw [eu, upd_same, ← ho0, ← eu]; exact hu
          · rw [upd_ne eu]; exact eH u w eu hu
        have eq : H' = upd (upd H' a o0) a o1 := by
          funext u
          by_cases eu : u = a
          · rw [eu, upd_same]; exact ho1
          · rw [upd_ne eu, upd_ne eu]
        have g2 := g1.mono ex
        have g3 := g2.mut qj hp (o := o1) (d := .dic t' es') (by rw [← eq]; exact o2)
        rw [← eq] at g3
        have rI : Rp (gm X) (Sh M (vw H')) (.ins c' gs) (.ref x) := .ins (dx := dx') y1 (by rw [Sh_of mx]; exact vw_of y2 trivial) y3 (RpL.flat E y4 f1)
        refine h M H' _ (g3.set rI) ((Sh_mono e1.v).trans fun u w hu => ?_)
        obtain ⟨q1, q2⟩ := Sh_some hu
        have eu : u ≠ a := fun z => by rw [z, mp] at q1; cases q1
        rw [Sh_of q1]
        have := (show VEx (vw H1) (vw (upd H' a o0)) from ex.v) u w q2
        unfold vw at this ⊢
        rw [upd_ne eu] at this
        exact this
      · exact h.elim
  · exact h.elim
end
end VL

set_option maxHeartbeats 4000000
set_option autoImplicit true
namespace VL
open PySem L2
noncomputable section
def b__law_draw : Env → SRes :=
  (seqS (ifS (tE (op2 eqO (getP 0) (aE lstD nilA))) (retS (cE (.int 0))) nxS)
  (seqS (setS 3 (aE intF (consA (op2 getD (getP 0) (op2 modD (aE intF (consA (getP 1) nilA)) (aE lenF (consA (getP 0) nilA)))) nilA)))
  (seqS (ifS (andT (tE (op2 ltD (getP 1) (aE lenF (consA (getP 0) nilA)))) (tE (op2 geD (getP 3) (op2 powD (cE (.int 10)) (cE (.int 18)))))) (seqS (setS 6 (getP 3))
  (seqS (forS (gnG 7) (aI range1 (consA (getP 2) nilA)) (setS 6 (op2 fdivD (getP 6) (cE (.int 1000)))))
  (ifS (tE (op2 gtD (getP 6) (cE (.int 0)))) (retS (op2 modD (aE intF (consA (getP 6) nilA)) (cE (.int 1000)))) nxS))) nxS)
  (seqS (setS 4 (op2 modD (aE intF (consA (op2 addD (op2 addD (op2 addD (op2 mulD (op2 modD (aE intF (consA (getP 3) nilA)) (cE (.int 2147483647))) (cE (.int 48271))) (op2 mulD (getP 1) (cE (.int 30269)))) (op2 mulD (getP 2) (cE (.int 69621)))) (cE (.int 11))) nilA)) (cE (.int 2147483647))))
  (seqS (setS 5 (op2 modD (aE intF (consA (op2 addD (op2 addD (op2 addD (op2 addD (op2 mulD (op2 modD (aE intF (consA (getP 4) nilA)) (cE (.int 46337))) (cE (.int 40692))) (op2 mulD (op2 fdivD (getP 4) (cE (.int 46337))) (cE (.int 16807)))) (op2 mulD (getP 2) (cE (.int 9973)))) (op2 mulD (getP 1) (cE (.int 211)))) (cE (.int 5))) nilA)) (cE (.int 2147483399))))
  (retS (op2 modD (aE intF (consA (op2 fdivD (getP 5) (cE (.int 16))) nilA)) (cE (.int 1000)))))))))
def m__law_draw : List D → Res D := defM 8 b__law_draw
def b__law_names : Env → SRes :=
  (seqS (setS 3 (cE (.str "abcdefghijklmnopqrstuvwxyz0123456789")))
  (seqS (setS 4 (op2 modD (aE m__law_draw (consA (getP 0) (consA (getP 1) (consA (cE (.int 0)) nilA)))) (cE (.int 3))))
  (seqS (setS 5 (op2 addD (cE (.str "m")) (strE joinD (cE (.str "")) (lcE [9] (gnG 9) (aI range1 (consA (cE (.int 12)) nilA)) yesT (op2 getD (getP 3) (op2 modD (aE m__law_draw (consA (getP 0) (consA (getP 1) (consA (op2 addD (cE (.int 1)) (getP 9)) nilA)))) (cE (.int 36))))))))
  (seqS (setS 6 (op2 addD (cE (.int 1)) (op2 modD (aE m__law_draw (consA (getP 0) (consA (getP 1) (consA (cE (.int 13)) nilA)))) (cE (.int 12)))))
  (seqS (setS 7 (op2 modD (aE m__law_draw (consA (getP 0) (consA (getP 1) (consA (cE (.int 14)) nilA)))) (getP 6)))
  (seqS (ownS 8 (aE lstD nilA))
  (seqS (forS (gnG 9) (aI range1 (consA (getP 2) nilA)) (seqS (setS 10 (aE m__law_draw (consA (getP 0) (consA (getP 1) (consA (op2 addD (cE (.int 15)) (getP 9)) nilA)))))
  (seqS (setS 11 (op2 addD (op2 getD (getP 3) (op2 modD (getP 10) (cE (.int 26)))) (slE (getP 5) (someO (cE (.int 1))) (someO (op2 addD (cE (.int 1)) (op2 modD (op2 fdivD (getP 10) (cE (.int 26))) (cE (.int 12))))))))
  (seqS (ifS (tE (op2 eqO (getP 4) (cE (.int 0)))) (setS 11 (op2 getD (cE (.str "abcdefgh")) (getP 9))) nxS)
  (seqS (ifS (tE (op2 eqO (getP 4) (cE (.int 1)))) (setS 11 (op2 addD (op2 addD (slE (getP 5) noO (someO (getP 7))) (op2 getD (getP 3) (op2 modD (aE intF (consA (op2 addD (getP 10) (getP 9)) nilA)) (cE (.int 26))))) (slE (getP 5) (someO (op2 addD (getP 7) (cE (.int 1)))) (someO (getP 6))))) nxS)
  (appS 8 (getP 11)))))))
  (giveS 8 (retS (getP 8))))))))))
def m__law_names : List D → Res D := defM 12 b__law_names
def b__law_moves : Env → SRes :=
  (seqS (ownS 1 (aE lstD nilA))
  (seqS (forDS (gnG 2) (ixLE 0 2) (ifS (tE (op2 eqO (op2 getD (op2 getD (getP 2) (cE (.int 1))) (cE (.int 0))) (cE (.str "+")))) (appS 1 (aE tupD (consA (op2 getD (getP 2) (cE (.int 0))) (consA (slE (op2 getD (getP 2) (cE (.int 1))) (someO (cE (.int 1))) noO) (consA (op2 getD (op2 getD (getP 0) (cE (.int 2))) (getP 2)) nilA))))) nxS))
  (retOS 1)))
def m__law_moves : List D → Res D := defO 3 b__law_moves
def b_is_name : Env → SRes :=
  (seqS (ifS (orT (notT (tE (chE leD leD (cE (.int 1)) (aE lenF (consA (getP 0) nilA)) (cE (.int 12))))) (tE (op2 notInD (op2 getD (getP 0) (cE (.int 0))) (cE (.str "abcdefghijklmnopqrstuvwxyz"))))) (retS (cE (.bl false))) nxS)
  (seqS (forS (gnG 1) (iE (getP 0)) (ifS (andT (tE (op2 notInD (getP 1) (cE (.str "abcdefghijklmnopqrstuvwxyz")))) (tE (op2 notInD (getP 1) (cE (.str "0123456789"))))) (retS (cE (.bl false))) nxS))
  (retS (cE (.bl true)))))
def m_is_name : List D → Res D := defM 2 b_is_name
def b_check_store : Env → SRes :=
  (seqS (forDS (gnG 3) (getP 1) (ifS (orT (notT (tE (aE m_is_name (consA (getP 3) nilA)))) (notT (tE (chE leD ltD (cE (.int 0)) (op2 getD (getP 1) (getP 3)) (getP 0))))) badS nxS))
  (seqS (ownS 4 (cE (.dic 1 [])))
  (forS (tupG 3 (consG (gnG 5) (consG (gnG 6) (consG (gnG 7) nilG)))) (iE (getP 2)) (seqS (ifS (orT (notT (tE (aE m_is_name (consA (getP 6) nilA)))) (orT (notT (tE (chE leD ltD (cE (.int 0)) (getP 5) (getP 0)))) (notT (tE (chE leD ltD (cE (.int 0)) (getP 7) (getP 0)))))) badS nxS)
  (seqS (ifS (orT (tE (op2 inX (aE tupD (consA (getP 5) (consA (op2 addD (cE (.str "+")) (getP 6)) nilA))) (getB 4))) (tE (op2 inX (aE tupD (consA (getP 7) (consA (op2 addD (cE (.str "-")) (getP 6)) nilA))) (getB 4)))) badS nxS)
  (seqS (putS 4 (aE tupD (consA (getP 5) (consA (op2 addD (cE (.str "+")) (getP 6)) nilA))) (cE (.bl true)))
  (putS 4 (aE tupD (consA (getP 7) (consA (op2 addD (cE (.str "-")) (getP 6)) nilA))) (cE (.bl true)))))))))
def m_check_store : List D → Res D := defM 8 b_check_store
def b_Store___init__ : Env → SRes :=
  (seqS (dropS (aE m_check_store (consA (getP 1) (consA (getP 2) (consA (getP 3) nilA)))))
  (seqS (setfS 0 "Store" "content_count" (getP 1))
  (seqS (setfS 0 "Store" "start_contents" (dcE [8] (gnG 8) (iE (aE sortedF (consA (lcDE [8] (gnG 8) (getP 2) yesT (aE strF (consA (getP 8) nilA))) nilA))) (getP 8) (op2 getD (getP 2) (getP 8))))
  (seqS (ownS 4 (cE (.dic 1 [])))
  (seqS (forS (tupG 3 (consG (gnG 5) (consG (gnG 6) (consG (gnG 7) nilG)))) (iE (getP 3)) (seqS (putS 4 (aE tupD (consA (getP 5) (consA (op2 addD (cE (.str "+")) (getP 6)) nilA))) (getP 7))
  (putS 4 (aE tupD (consA (getP 7) (consA (op2 addD (cE (.str "-")) (getP 6)) nilA))) (getP 5))))
  (giveS 4 (setfS 0 "Store" "leads" (getP 4))))))))
def m_Store___init__ : Addr → List D → Res D := defK "Store" 9 b_Store___init__
def b_Store___init__B : Env → SRes :=
  (seqS (dropS (aE (fun ds => guardX (m_check_store ds)) (consA (getP 1) (consA (getB 2) (consA (getP 3) nilA)))))
  (seqS (setfS 0 "Store" "content_count" (getP 1))
  (seqS (setfS 0 "Store" "start_contents" (dcE [8] (gnG 8) (iE (aE sortedF (consA (lcKE 2 [8] (gnG 8) yesT (aE strF (consA (getP 8) nilA))) nilA))) (getP 8) (op2 getD (getB 2) (getP 8))))
  (seqS (ownS 4 (cE (.dic 1 [])))
  (seqS (forS (tupG 3 (consG (gnG 5) (consG (gnG 6) (consG (gnG 7) nilG)))) (iE (getP 3)) (seqS (putS 4 (aE tupD (consA (getP 5) (consA (op2 addD (cE (.str "+")) (getP 6)) nilA))) (getP 7))
  (putS 4 (aE tupD (consA (getP 7) (consA (op2 addD (cE (.str "-")) (getP 6)) nilA))) (getP 5))))
  (giveS 4 (setfS 0 "Store" "leads" (getP 4))))))))
def m_Store___init__B : Addr → D → List D → Res D := defKB "Store" 9 1 b_Store___init__B
def b_Store_contents : Env → SRes :=
  (retS (fldIE "Store" "content_count" (getP 0)))
def m_Store_contents : List D → Res D := defM 1 b_Store_contents
def b_Store_starts : Env → SRes :=
  (retFS (dcDE [1] (gnG 1) (fldLE "Store" "start_contents" 0) (getP 1) (op2 getD (fldIE "Store" "start_contents" (getP 0)) (getP 1))))
def m_Store_starts : List D → Res D := defO 2 b_Store_starts
def b_Store_moves : Env → SRes :=
  (seqS (ownS 1 (cE (.dic 0 [])))
  (seqS (forDS (gnG 2) (fldLE "Store" "leads" 0) (putS 1 (slE (op2 getD (getP 2) (cE (.int 1))) (someO (cE (.int 1))) noO) (cE (.bl true))))
  (seqS (setS 3 (aE sortedF (consA (lcKE 1 [5] (gnG 5) yesT (aE strF (consA (getP 5) nilA))) nilA)))
  (retFS (lc2E [4, 5] [5] (gnG 4) (aI range1 (consA (fldIE "Store" "content_count" (getP 0)) nilA)) yesT (gnG 5) (iE (getP 3)) (tE (op2 inZ (aE tupD (consA (getP 4) (consA (op2 addD (cE (.str "+")) (getP 5)) nilA))) (fldIE "Store" "leads" (getP 0)))) (aE tupD (consA (getP 4) (consA (getP 5) (consA (op2 getD (fldIE "Store" "leads" (getP 0)) (aE tupD (consA (getP 4) (consA (op2 addD (cE (.str "+")) (getP 5)) nilA)))) nilA)))))))))
def m_Store_moves : List D → Res D := defO 6 b_Store_moves
def b__law_is_integer : Env → SRes :=
  (retS (andE (isTE "int" (getP 0)) (notE (isTE "bool" (getP 0)))))
def m__law_is_integer : List D → Res D := defM 1 b__law_is_integer
def b__law_is_content : Env → SRes :=
  (retS (andE (isTE "int" (getP 0)) (andE (notE (isTE "bool" (getP 0))) (andE (op2 geD (getP 0) (cE (.int 0))) (op2 ltD (getP 0) (getP 1))))))
def m__law_is_content : List D → Res D := defM 2 b__law_is_content
def b__law_table : Env → SRes :=
  (seqS (ifS (notT (tE (isCE "Store" (getP 0)))) (retS (cE .non)) nxS)
  (seqS (setS 1 (propE "Store" m_Store_contents (getP 0)))
  (seqS (setS 2 (propE "Store" m_Store_starts (getP 0)))
  (seqS (setS 3 (propE "Store" m_Store_moves (getP 0)))
  (seqS (ifS (orT (notT (tE (aE m__law_is_integer (consA (getP 1) nilA)))) (orT (tE (op2 ltD (getP 1) (cE (.int 0)))) (orT (notT (tE (isTE "dict" (getP 2)))) (notT (tE (isTE "list" (getP 3))))))) (retS (cE .non)) nxS)
  (seqS (setS 4 (cE (.str "")))
  (seqS (forDS (gnG 5) (getP 2) (seqS (ifS (orT (notT (tE (isTE "str" (getP 5)))) (orT (tE (op2 leX (getP 5) (getP 4))) (notT (tE (aE m__law_is_content (consA (op2 getD (getP 2) (getP 5)) (consA (getP 1) nilA))))))) (retS (cE .non)) nxS)
  (setS 4 (getP 5))))
  (seqS (ownS 6 (cE (.dic 1 [])))
  (seqS (setS 7 (aE tupD (consA (negE (cE (.int 1))) (consA (cE (.str "")) nilA))))
  (seqS (forS (gnG 8) (iE (getP 3)) (seqS (ifS (orT (notT (tE (isTE "tuple" (getP 8)))) (orT (tE (op2 neO (aE lenF (consA (getP 8) nilA)) (cE (.int 3)))) (notT (tE (isTE "str" (op2 getD (getP 8) (cE (.int 1)))))))) (retS (cE .non)) nxS)
  (seqS (ifS (orT (notT (tE (aE m__law_is_content (consA (op2 getD (getP 8) (cE (.int 0))) (consA (getP 1) nilA))))) (orT (notT (tE (aE m__law_is_content (consA (op2 getD (getP 8) (cE (.int 2))) (consA (getP 1) nilA))))) (tE (op2 leX (aE tupD (consA (op2 getD (getP 8) (cE (.int 0))) (consA (op2 getD (getP 8) (cE (.int 1))) nilA))) (getP 7))))) (retS (cE .non)) nxS)
  (seqS (ifS (tE (op2 inX (aE tupD (consA (op2 getD (getP 8) (cE (.int 2))) (consA (op2 addD (cE (.str "-")) (op2 getD (getP 8) (cE (.int 1)))) nilA))) (getB 6))) (retS (cE .non)) nxS)
  (seqS (putS 6 (aE tupD (consA (op2 getD (getP 8) (cE (.int 0))) (consA (op2 addD (cE (.str "+")) (op2 getD (getP 8) (cE (.int 1)))) nilA))) (op2 getD (getP 8) (cE (.int 2))))
  (seqS (putS 6 (aE tupD (consA (op2 getD (getP 8) (cE (.int 2))) (consA (op2 addD (cE (.str "-")) (op2 getD (getP 8) (cE (.int 1)))) nilA))) (op2 getD (getP 8) (cE (.int 0))))
  (setS 7 (aE tupD (consA (op2 getD (getP 8) (cE (.int 0))) (consA (op2 getD (getP 8) (cE (.int 1))) nilA))))))))))
  (giveS 6 (retS (aE lstD (consA (getP 1) (consA (getP 2) (consA (getP 6) nilA))))))))))))))))
def m__law_table : List D → Res D := defM 9 b__law_table
def b__law_asked : Env → SRes :=
  (seqS (setS 2 (aE m__law_table (consA (getP 0) nilA)))
  (seqS (ifS (orT (tE (op2 isNO (getP 2) (cE .non))) (orT (tE (op2 neO (op2 getD (getP 2) (cE (.int 0))) (op2 getD (getP 1) (cE (.int 0))))) (orT (tE (op2 neZ (op2 getD (getP 2) (cE (.int 1))) (op2 getD (getP 1) (cE (.int 1))))) (tE (op2 neZ (op2 getD (getP 2) (cE (.int 2))) (op2 getD (getP 1) (cE (.int 2)))))))) (retS (cE (.bl false))) nxS)
  (seqS (ownS 3 (propE "Store" m_Store_moves (getP 0)))
  (seqS (clearS 3)
  (seqS (ownS 4 (propE "Store" m_Store_starts (getP 0)))
  (seqS (putS 4 (cE (.str "q")) (cE (.int 0)))
  (retS (cE (.bl true)))))))))
def m__law_asked : List D → Res D := defM 5 b__law_asked
def b__law_many : Env → SRes :=
  (retS (op2 getD (aE lstD (consA (cE (.int 1)) (consA (cE (.int 2)) (consA (cE (.int 3)) (consA (cE (.int 1)) (consA (cE (.int 2)) (consA (cE (.int 3)) (consA (cE (.int 5)) (consA (cE (.int 6)) nilA))))))))) (op2 modD (aE m__law_draw (consA (getP 0) (consA (cE (.int 0)) (consA (getP 1) nilA)))) (cE (.int 8)))))
def m__law_many : List D → Res D := defM 2 b__law_many
def b__law_store : Env → SRes :=
  (seqS (setS 4 (op2 addD (cE (.int 1)) (op2 modD (aE m__law_draw (consA (getP 0) (consA (getP 1) (consA (cE (.int 0)) nilA)))) (cE (.int 6)))))
  (seqS (setS 5 (op2 modD (aE m__law_draw (consA (getP 0) (consA (getP 1) (consA (cE (.int 1)) nilA)))) (cE (.int 4))))
  (seqS (ownS 6 (cE (.dic 1 [])))
  (seqS (forS (gnG 7) (aI range1 (consA (op2 mulD (cE (.int 6)) (aE lenF (consA (getP 3) nilA))) nilA)) (seqS (setS 9 (aE m__law_draw (consA (getP 0) (consA (getP 1) (consA (op2 addD (cE (.int 2)) (getP 7)) nilA)))))
  (seqS (setS 10 (aE tupD (consA (op2 modD (getP 7) (cE (.int 6))) (consA (op2 addD (cE (.str "+")) (op2 getD (getP 3) (op2 fdivD (getP 7) (cE (.int 6))))) nilA))))
  (seqS (setS 11 (aE tupD (consA (op2 modD (getP 9) (getP 4)) (consA (op2 addD (cE (.str "-")) (op2 getD (getP 3) (op2 fdivD (getP 7) (cE (.int 6))))) nilA))))
  (ifS (andT (tE (op2 ltD (op2 modD (getP 7) (cE (.int 6))) (getP 4))) (andT (tE (op2 geD (op2 modD (op2 fdivD (getP 9) (cE (.int 8))) (cE (.int 4))) (getP 5))) (andT (tE (op2 notInX (getP 10) (getB 6))) (tE (op2 notInX (getP 11) (getB 6)))))) (seqS (putS 6 (getP 10) (op2 modD (getP 9) (getP 4)))
  (putS 6 (getP 11) (op2 modD (getP 7) (cE (.int 6))))) nxS)))))
  (seqS (ownS 8 (cE (.dic 0 [])))
  (seqS (forS (gnG 7) (aI range1 (consA (aE lenF (consA (getP 2) nilA)) nilA)) (putS 8 (op2 getD (getP 2) (getP 7)) (op2 modD (aE m__law_draw (consA (getP 0) (consA (getP 1) (consA (op2 addD (cE (.int 40)) (getP 7)) nilA)))) (getP 4))))
  (giveS 8 (giveS 6 (retS (aE lstD (consA (getP 4) (consA (getP 8) (consA (getP 6) nilA)))))))))))))
def m__law_store : List D → Res D := defM 12 b__law_store
def b__law_big_store : Env → SRes :=
  (seqS (setS 4 (op2 addD (cE (.int 7)) (op2 modD (aE m__law_draw (consA (getP 0) (consA (getP 1) (consA (cE (.int 0)) nilA)))) (cE (.int 54)))))
  (seqS (ownS 5 (cE (.dic 1 [])))
  (seqS (forS (gnG 6) (aI range1 (consA (aE lenF (consA (getP 3) nilA)) nilA)) (seqS (setS 8 (op2 modD (aE m__law_draw (consA (getP 0) (consA (getP 1) (consA (op2 addD (cE (.int 1)) (getP 6)) nilA)))) (getP 4)))
  (seqS (setS 9 (op2 addD (cE (.int 1)) (op2 modD (aE m__law_draw (consA (getP 0) (consA (getP 1) (consA (op2 addD (cE (.int 11)) (getP 6)) nilA)))) (getP 4))))
  (forS (gnG 10) (aI range1 (consA (getP 9) nilA)) (seqS (setS 11 (op2 modD (aE intF (consA (op2 addD (getP 10) (getP 8)) nilA)) (getP 4)))
  (ifS (andT (tE (op2 notInX (aE tupD (consA (getP 10) (consA (op2 addD (cE (.str "+")) (op2 getD (getP 3) (getP 6))) nilA))) (getB 5))) (tE (op2 notInX (aE tupD (consA (getP 11) (consA (op2 addD (cE (.str "-")) (op2 getD (getP 3) (getP 6))) nilA))) (getB 5)))) (seqS (putS 5 (aE tupD (consA (getP 10) (consA (op2 addD (cE (.str "+")) (op2 getD (getP 3) (getP 6))) nilA))) (getP 11))
  (putS 5 (aE tupD (consA (getP 11) (consA (op2 addD (cE (.str "-")) (op2 getD (getP 3) (getP 6))) nilA))) (getP 10))) nxS))))))
  (seqS (ownS 7 (cE (.dic 0 [])))
  (seqS (forS (gnG 6) (aI range1 (consA (aE lenF (consA (getP 2) nilA)) nilA)) (putS 7 (op2 getD (getP 2) (getP 6)) (op2 modD (aE m__law_draw (consA (getP 0) (consA (getP 1) (consA (op2 addD (cE (.int 21)) (getP 6)) nilA)))) (getP 4))))
  (giveS 7 (giveS 5 (retS (aE lstD (consA (getP 4) (consA (getP 7) (consA (getP 5) nilA))))))))))))
def m__law_big_store : List D → Res D := defM 12 b__law_big_store
def b_law : Env → SRes :=
  (seqS (setS 1 (aE m__law_names (consA (getP 0) (consA (cE (.int 1)) (consA (aE m__law_many (consA (getP 0) (consA (cE (.int 0)) nilA))) nilA)))))
  (seqS (setS 2 (aE m__law_names (consA (getP 0) (consA (cE (.int 2)) (consA (op2 addD (cE (.int 1)) (op2 modD (aE m__law_draw (consA (getP 0) (consA (cE (.int 0)) (consA (cE (.int 1)) nilA)))) (cE (.int 4)))) nilA)))))
  (seqS (setS 3 (op2 modD (aE m__law_draw (consA (getP 0) (consA (cE (.int 0)) (consA (cE (.int 2)) nilA)))) (cE (.int 8))))
  (seqS (setS 4 (aE lstD (consA (cE (.int 0)) (consA (cE (.dic 0 [])) (consA (cE (.dic 1 [])) nilA)))))
  (seqS (ifS (tE (op2 gtD (getP 3) (cE (.int 0)))) (setS 4 (aE m__law_store (consA (getP 0) (consA (cE (.int 3)) (consA (getP 2) (consA (getP 1) nilA)))))) nxS)
  (seqS (ifS (tE (op2 gtD (getP 3) (cE (.int 5)))) (setS 4 (aE m__law_big_store (consA (getP 0) (consA (cE (.int 3)) (consA (getP 2) (consA (getP 1) nilA)))))) nxS)
  (seqS (ownS 5 (aE m__law_moves (consA (getP 4) nilA)))
  (seqS (setS 6 (op2 modD (aE m__law_draw (consA (getP 0) (consA (cE (.int 0)) (consA (cE (.int 3)) nilA)))) (op2 addD (aE lenF (consA (getB 5) nilA)) (cE (.int 1)))))
  (seqS (ownS 5 (op2 catI (slE (getB 5) (someO (getP 6)) noO) (slE (getB 5) noO (someO (getP 6)))))
  (seqS (ownS 7 (aE dictF (consA (op2 getD (getP 4) (cE (.int 1))) nilA)))
  (seqS (ifS (tE (op2 eqO (op2 modD (aE m__law_draw (consA (getP 0) (consA (cE (.int 0)) (consA (cE (.int 4)) nilA)))) (cE (.int 2))) (cE (.int 1)))) (seqS (ownS 5 (revIE (getB 5)))
  (seqS (ownS 7 (cE (.dic 0 [])))
  (forS (gnG 11) (iE (revE (aE listX (consA (op2 getD (getP 4) (cE (.int 1))) nilA)))) (putS 7 (getP 11) (op2 getD (op2 getD (getP 4) (cE (.int 1))) (getP 11)))))) nxS)
  (seqS (setS 8 (aE lstD (consA (aE dictI (consA (getB 7) nilA)) (consA (aE listI (consA (getB 5) nilA)) nilA))))
  (seqS (mkBS 9 7 5 m_Store___init__B (op2 getD (getP 4) (cE (.int 0))))
  (seqS (ifS (orT (lendT 5 (lendT 7 (tE (op2 ne2D (aE lstD (consA (getP 7) (consA (getP 5) nilA))) (getP 8))))) (lendT 7 (tE (op2 neO (aE listX (consA (getP 7) nilA)) (aE listX (consA (op2 getD (getP 8) (cE (.int 0))) nilA)))))) (retS (cE (.bl false))) nxS)
  (seqS (setS 10 (aE (mkF m_Store___init__) (consA (cE (.int 1)) (consA (dispE 0 (consP (cE (.str "m")) (cE (.int 0)) nilP)) (consA (aE lstD (consA (aE tupD (consA (cE (.int 0)) (consA (cE (.str "a")) (consA (cE (.int 0)) nilA)))) nilA)) nilA)))))
  (seqS (ifS (notT (tE (aE m__law_asked (consA (getP 9) (consA (getP 4) nilA))))) (retS (cE (.bl false))) nxS)
  (seqS (putS 7 (cE (.str "q")) (cE (.int 0)))
  (seqS (clearS 5)
  (seqS (appS 5 (aE tupD (consA (cE (.int 0)) (consA (cE (.str "zz")) (consA (cE (.int 0)) nilA)))))
  (seqS (ifS (notT (tE (aE m__law_asked (consA (getP 10) (consA (aE lstD (consA (cE (.int 1)) (consA (dispE 0 (consP (cE (.str "m")) (cE (.int 0)) nilP)) (consA (dispE 1 (consP (aE tupD (consA (cE (.int 0)) (consA (cE (.str "+a")) nilA))) (cE (.int 0)) (consP (aE tupD (consA (cE (.int 0)) (consA (cE (.str "-a")) nilA))) (cE (.int 0)) nilP))) nilA)))) nilA))))) (retS (cE (.bl false))) nxS)
  (retS (aE m__law_asked (consA (getP 9) (consA (getP 4) nilA))))))))))))))))))))))))
def m_law : List D → Res D := defM 12 b_law
end
end VL
namespace VL
open PySem L2
local macro_rules
  | `(tactic| simp_arith [$xs,*]) => `(tactic| simp only [seq_eq, rSeq_nx, rSeq_rt, rSeq_bk, rSeq_ct, rSeq_xc, setS_eq, rSet_ok, ownS_eq, rOwn_ok, retS_eq, rRet_ok, retNS_eq, nxS_eq, bkS_eq, ctS_eq, dropS_eq, rDrop_ok, ifS_eq, rIf_t, rIf_f, asgS_eq, appS_eq, rApp_ok, giveS_eq, VL.give, gnG_eq, getP_eq, getB_eq, rGet_ok, rGetB_ok, rGetB_ow, cE_eq, op2_eq, r2_ok, aE_eq, aI_eq, iE_eq, tE_eq, someO_eq, notE_eq, isTE_eq, r1_ok, toB_ok, toI_ok, notD_ok, noO_eq, nilA_eq, consA_eq, rC_ok, andT_eq, orT_eq, notT_eq, rAnd_t, rAnd_f, rAnd_ok, rOr_t, rOr_f, rOr_ok, rNot_ok, andE_eq, orE_eq, rAndE_t, rAndE_f, rAndE_ok, rOrE_t, rOrE_f, rOrE_ok, ifE_eq, rIfE_ok, slE_eq, rSl_ok, chE_eq, rCh_le, rCh_lelt, rCh_ltlt, rCh_ltle, strE_eq, rStr_ok, immE_eq, rImm_ok, Sat_nx, Sat_rt, Sat_ct, Sat_bk, Sat_xc, thn_nx, thn_rt, thn_ct, thn_bk, thn_xc, lp_nx, lp_ct, lp_bk, lp_rt, lp_xc, add_int, sub_int, mod_int, fdiv_int, lt_int, le_int, gt_int, ge_int, isN_eq, notN_eq, isNon, len_lst, len_tup, len_scr, int_int, get_str, get_tup, get_lst, get_scr, items_str, items_lst, items_tup, lst_nil, sl_tup, sl_lst, isT_bl, eqO_int, eqO_bl, eqO_scr, neO_int, env0, List.map_cons, List.map_nil, List.cons_append, List.nil_append, List.length_cons, List.length_nil, List.replicate, gz_, gs_, sz_, ss_, if_true, if_false, reduceIte, Bool.not_true, Bool.not_false, Bool.false_eq_true, Nat.reduceAdd, Nat.reduceSub, Bool.false_or, Bool.or_false, Bool.true_or, Bool.or_true, Bool.and_true, Bool.true_and, Bool.and_false, Bool.false_and, wipeE, yesT, negE_eq, neg_int, retFS, outO, ofE_ok, str_str, ltX_int, ltX_str, inX_str, notInX_str, list_lst, list_tup, Sat_ro, thn_ro, lp_ro, raiseS_eq, rRaise_ok, raise0S_eq, isXE_eq, fldXE_eq, int_bl, rSet_xc, rDrop_xc, rRet_xc, r1_xc, rC_xc, r2_xc, rIf_xc, outI_nx, outI_rt, outI_nx0, outI_rt0, inE_s, inE_0, lst_k, tup_k, catl_k, Nat.reduceLeDiff, inWE_eq, inW_str, ixWE_eq, guardX_ok, getE_eq, putS_eq, rPut_ok, $xs,*])
local macro_rules
  | `(tactic| simp_all_arith [$xs,*]) => `(tactic| simp only [seq_eq, rSeq_nx, rSeq_rt, rSeq_bk, rSeq_ct, rSeq_xc, setS_eq, rSet_ok, ownS_eq, rOwn_ok, retS_eq, rRet_ok, retNS_eq, nxS_eq, bkS_eq, ctS_eq, dropS_eq, rDrop_ok, ifS_eq, rIf_t, rIf_f, asgS_eq, appS_eq, rApp_ok, giveS_eq, VL.give, gnG_eq, getP_eq, getB_eq, rGet_ok, rGetB_ok, rGetB_ow, cE_eq, op2_eq, r2_ok, aE_eq, aI_eq, iE_eq, tE_eq, someO_eq, notE_eq, isTE_eq, r1_ok, toB_ok, toI_ok, notD_ok, noO_eq, nilA_eq, consA_eq, rC_ok, andT_eq, orT_eq, notT_eq, rAnd_t, rAnd_f, rAnd_ok, rOr_t, rOr_f, rOr_ok, rNot_ok, andE_eq, orE_eq, rAndE_t, rAndE_f, rAndE_ok, rOrE_t, rOrE_f, rOrE_ok, ifE_eq, rIfE_ok, slE_eq, rSl_ok, chE_eq, rCh_le, rCh_lelt, rCh_ltlt, rCh_ltle, strE_eq, rStr_ok, immE_eq, rImm_ok, Sat_nx, Sat_rt, Sat_ct, Sat_bk, Sat_xc, thn_nx, thn_rt, thn_ct, thn_bk, thn_xc, lp_nx, lp_ct, lp_bk, lp_rt, lp_xc, add_int, sub_int, mod_int, fdiv_int, lt_int, le_int, gt_int, ge_int, isN_eq, notN_eq, isNon, len_lst, len_tup, len_scr, int_int, get_str, get_tup, get_lst, get_scr, items_str, items_lst, items_tup, lst_nil, sl_tup, sl_lst, isT_bl, eqO_int, eqO_bl, eqO_scr, neO_int, env0, List.map_cons, List.map_nil, List.cons_append, List.nil_append, List.length_cons, List.length_nil, List.replicate, gz_, gs_, sz_, ss_, if_true, if_false, reduceIte, Bool.not_true, Bool.not_false, Bool.false_eq_true, Nat.reduceAdd, Nat.reduceSub, Bool.false_or, Bool.or_false, Bool.true_or, Bool.or_true, Bool.and_true, Bool.true_and, Bool.and_false, Bool.false_and, wipeE, yesT, negE_eq, neg_int, retFS, outO, ofE_ok, str_str, ltX_int, ltX_str, inX_str, notInX_str, list_lst, list_tup, Sat_ro, thn_ro, lp_ro, raiseS_eq, rRaise_ok, raise0S_eq, isXE_eq, fldXE_eq, int_bl, rSet_xc, rDrop_xc, rRet_xc, r1_xc, rC_xc, r2_xc, rIf_xc, outI_nx, outI_rt, outI_nx0, outI_rt0, inE_s, inE_0, lst_k, tup_k, catl_k, Nat.reduceLeDiff, inWE_eq, inW_str, ixWE_eq, guardX_ok, getE_eq, putS_eq, rPut_ok, m_eq, outS_rt, outS_nx, outS_xc, tryS_eq, rTry_nx, rTry_rt, rTry_xc, hndS_eq, methE_eq, rMeth_ok, propE_eq, rProp_ok, lmE_eqR, rLm_ok, fldIE_eqR, $xs,*])
section
theorem log_lt {i : Int} (h0 : 0 ≤ i) (h : i < 2 ^ 62) : i.natAbs.log2 < 62 := by
  by_cases hz : i.natAbs = 0
  · rw [hz]; decide
  · exact (Nat.log2_lt hz).mpr (by omega)
theorem draw_tail (S : Sl) (k j c : Int) (hk : 0 ≤ k) (hk2 : k < 2 ^ 60) (hj : 0 ≤ j) (hj2 : j < 2 ^ 60) (e6 e7 : Sl) : ∃ z : Int, (
  (seqS (setS 4 (op2 modD (aE intF (consA (op2 addD (op2 addD (op2 addD (op2 mulD (op2 modD (aE intF (consA (getP 3) nilA)) (cE (.int 2147483647))) (cE (.int 48271))) (op2 mulD (getP 1) (cE (.int 30269)))) (op2 mulD (getP 2) (cE (.int 69621)))) (cE (.int 11))) nilA)) (cE (.int 2147483647))))
  (seqS (setS 5 (op2 modD (aE intF (consA (op2 addD (op2 addD (op2 addD (op2 addD (op2 mulD (op2 modD (aE intF (consA (getP 4) nilA)) (cE (.int 46337))) (cE (.int 40692))) (op2 mulD (op2 fdivD (getP 4) (cE (.int 46337))) (cE (.int 16807)))) (op2 mulD (getP 2) (cE (.int 9973)))) (op2 mulD (getP 1) (cE (.int 211)))) (cE (.int 5))) nilA)) (cE (.int 2147483399))))
  (retS (op2 modD (aE intF (consA (op2 fdivD (getP 5) (cE (.int 16))) nilA)) (cE (.int 1000)))))) [S, .sh (.int k), .sh (.int j), .sh (.int c), .no, .no, e6, e7]) = .rt (.int z) ∧ 0 ≤ z ∧ z < 1000 := by
  have m1 : ∀ {i a : Int}, 0 ≤ i → i < 2 ^ 62 → 0 ≤ a → a < 2 ^ 62 → mulD (.int i) (.int a) = .ok (.int (i * a)) := fun h0 h1 h2 h3 => mul_int (by have := log_lt h0 h1; have := log_lt h2 h3; omega)
  have e1 := @m1 (c % 2147483647) 48271 (Int.emod_nonneg _ (by decide)) (by have := Int.emod_lt_of_pos c (show (0 : Int) < 2147483647 by decide); omega) (by decide) (by decide)
  have e2 := @m1 k 30269 hk (by omega) (by decide) (by decide)
  have e3 := @m1 j 69621 hj (by omega) (by decide) (by decide)
  have e4 := @m1 j 9973 hj (by omega) (by decide) (by decide)
  have e5 := @m1 k 211 hk (by omega) (by decide) (by decide)
  have e6' : ∀ f : Int, mulD (.int (f % 2147483647 % 46337)) (.int 40692) = .ok (.int (f % 2147483647 % 46337 * 40692)) := fun f => m1 (Int.emod_nonneg _ (by decide)) (by have := Int.emod_lt_of_pos (f % 2147483647) (show (0 : Int) < 46337 by decide); omega) (by decide) (by decide)
  have e7' : ∀ f : Int, mulD (.int (f % 2147483647 / 46337)) (.int 16807) = .ok (.int (f % 2147483647 / 46337 * 16807)) := fun f => m1 (by omega) (by omega) (by decide) (by decide)
  simp_arith [Int.reduceLT, e1, e2, e3, e4, e5, e6', e7', and_self, SRes.rt.injEq, D.int.injEq]
  exact ⟨_, rfl, Int.emod_nonneg _ (by decide), Int.emod_lt_of_pos _ (by decide)⟩
theorem draw_ex (ns : List Int) (k j : Int) (hk : 0 ≤ k) (hk2 : k < 2 ^ 60) (hj : 0 ≤ j) (hj2 : j < 2 ^ 60) : ∃ d, m__law_draw [.scr ns, .int k, .int j] = .ok d ∧ ∃ z : Int, d = .int z ∧ 0 ≤ z ∧ z < 1000 := by
  refine m_ex ?_
  unfold b__law_draw
  cases hns : ns with
  | nil => simp_arith [List.isEmpty_nil]; exact ⟨0, rfl, by decide, by decide⟩
  | cons n0 nr =>
    rw [← hns]
    have hne : ns.isEmpty = false := by rw [hns]; rfl
    have hl : 0 < ns.length := by rw [hns]; exact Nat.succ_pos _
    have hl' : (0 : Int) < ns.length := by omega
    obtain ⟨c, hc⟩ : ∃ c : Int, seqGet (ns.map D.int) (k % (ns.length : Int)) = .ok (.int c) := by
      have hm : (k % (ns.length : Int)).toNat < ns.length := by
        have := Int.emod_lt_of_pos k hl'
        have := Int.emod_nonneg k (show (ns.length : Int) ≠ 0 by omega)
        omega
      refine ⟨ns[(k % (ns.length : Int)).toNat], ?_⟩
      have := @seqGet_of (ns.map D.int) (k % (ns.length : Int)).toNat (.int ns[(k % (ns.length : Int)).toNat]) (by rw [List.getElem?_map, List.getElem?_eq_getElem hm]; rfl)
      rwa [Int.toNat_of_nonneg (Int.emod_nonneg k (by omega))] at this
    have tl : ∀ e6 e7, Sat { rt := fun d => ∃ z : Int, d = .int z ∧ 0 ≤ z ∧ z < 1000 } _ := fun e6 e7 => by
      obtain ⟨z, h1, h2⟩ := draw_tail (.sh (.scr ns)) k j c hk hk2 hj hj2 e6 e7
      exact Sat.rt h1 ⟨z, rfl, h2⟩
    simp only [seq_eq, ifS_eq, setS_eq, seq_eq, rSeq_nx, rSeq_rt, rSeq_bk, rSeq_ct, rSeq_xc, setS_eq, rSet_ok, ownS_eq, rOwn_ok, retS_eq, rRet_ok, retNS_eq, nxS_eq, bkS_eq, ctS_eq, dropS_eq, rDrop_ok, ifS_eq, rIf_t, rIf_f, asgS_eq, appS_eq, rApp_ok, giveS_eq, VL.give, gnG_eq, getP_eq, getB_eq, rGet_ok, rGetB_ok, rGetB_ow, cE_eq, op2_eq, r2_ok, aE_eq, aI_eq, iE_eq, tE_eq, someO_eq, notE_eq, isTE_eq, r1_ok, toB_ok, toI_ok, notD_ok, noO_eq, nilA_eq, consA_eq, rC_ok, andT_eq, orT_eq, notT_eq, rAnd_t, rAnd_f, rAnd_ok, rOr_t, rOr_f, rOr_ok, rNot_ok, andE_eq, orE_eq, rAndE_t, rAndE_f, rAndE_ok, rOrE_t, rOrE_f, rOrE_ok, ifE_eq, rIfE_ok, slE_eq, rSl_ok, chE_eq, rCh_le, rCh_lelt, rCh_ltlt, rCh_ltle, strE_eq, rStr_ok, immE_eq, rImm_ok, Sat_nx, Sat_rt, Sat_ct, Sat_bk, Sat_xc, thn_nx, thn_rt, thn_ct, thn_bk, thn_xc, lp_nx, lp_ct, lp_bk, lp_rt, lp_xc, add_int, sub_int, mod_int, fdiv_int, lt_int, le_int, gt_int, ge_int, isN_eq, notN_eq, isNon, len_lst, len_tup, len_scr, int_int, get_str, get_tup, get_lst, get_scr, items_str, items_lst, items_tup, lst_nil, sl_tup, sl_lst, isT_bl, eqO_int, eqO_bl, eqO_scr, neO_int, env0, List.map_cons, List.map_nil, List.cons_append, List.nil_append, List.length_cons, List.length_nil, List.replicate, gz_, gs_, sz_, ss_, if_true, if_false, reduceIte, Bool.not_true, Bool.not_false, Bool.false_eq_true, Nat.reduceAdd, Nat.reduceSub, Bool.false_or, Bool.or_false, Bool.true_or, Bool.or_true, Bool.and_true, Bool.true_and, Bool.and_false, Bool.false_and, wipeE, yesT, negE_eq, neg_int, retFS, outO, ofE_ok, str_str, ltX_int, ltX_str, inX_str, notInX_str, list_lst, list_tup, Sat_ro, thn_ro, lp_ro, raiseS_eq, rRaise_ok, raise0S_eq, isXE_eq, fldXE_eq, int_bl, rSet_xc, rDrop_xc, rRet_xc, r1_xc, rC_xc, r2_xc, rIf_xc, outI_nx, outI_rt, outI_nx0, outI_rt0, inE_s, inE_0, lst_k, tup_k, catl_k, Nat.reduceLeDiff, inWE_eq, inW_str, ixWE_eq, guardX_ok, getE_eq, putS_eq, rPut_ok, hne, lenF, hl', hc, pow_18]
    refine Sat.rseq (Sat.ifb (fun _ => ?_) (fun _ => ?_))
    · simp_arith []
      refine Sat.rseq (Sat.forS0 (fun env => ∃ (r : Int) (x : Sl), env = [.sh (.scr ns), .sh (.int k), .sh (.int j), .sh (.int c), .no, .no, .sh (.int r), x]) (ds := rangeD 0 j.toNat) ?_ ⟨c, _, rfl⟩ ?_ ?_)
      · simp_arith []
        exact range1_ok (by omega)
      · rintro d _ env ⟨r, x, rfl⟩
        refine ⟨_, rfl, ?_⟩
        simp_arith [Int.reduceLT, and_self]
        exact ⟨_, _, rfl⟩
      · rintro env ⟨r, x, rfl⟩
        simp_arith []
        refine Sat.ifb (fun _ => ?_) (fun _ => ?_)
        · simp_arith [Int.reduceLT, and_self]
          exact ⟨_, rfl, Int.emod_nonneg _ (by decide), Int.emod_lt_of_pos _ (by decide)⟩
        · simp only [nxS_eq, Sat_nx, thn_nx]
          exact tl _ _
    · simp only [nxS_eq, Sat_nx, thn_nx]
      exact tl _ _
def dr (ns : List Int) (k j : Int) : Int := match m__law_draw [.scr ns, .int k, .int j] with
  | .ok (.int z) => z
  | _ => 0
theorem draw_all (ns : List Int) (k j : Int) (hk : 0 ≤ k) (hk2 : k < 2 ^ 60) (hj : 0 ≤ j) (hj2 : j < 2 ^ 60) : m__law_draw [.scr ns, .int k, .int j] = .ok (.int (dr ns k j)) ∧ 0 ≤ dr ns k j ∧ dr ns k j < 1000 := by
  obtain ⟨d, h1, z, rfl, h2, h3⟩ := draw_ex ns k j hk hk2 hj hj2
  have : dr ns k j = z := by unfold dr; rw [h1]
  rw [this]
  exact ⟨h1, h2, h3⟩
theorem draw_nn (ns : List Int) (k j : Nat) (hk : k < 2 ^ 60) (hj : j < 2 ^ 60) : m__law_draw [.scr ns, .int k, .int j] = .ok (.int (dr ns k j)) := (draw_all ns k j (by omega) (by omega) (by omega) (by omega)).1

end
section
def lowL : List Nat := ("abcdefghijklmnopqrstuvwxyz" : Str).cps.toList
def digL : List Nat := ("0123456789" : Str).cps.toList
def namL (cs : List Nat) : Bool := decide (1 ≤ cs.length) && decide (cs.length ≤ 12) && (match cs with | c :: _ => decide (c ∈ lowL) | [] => false) && cs.all fun c => decide (c ∈ lowL) || decide (c ∈ digL)
def nameB (s : Str) : Bool := namL s.cps.toList
theorem strItems_mem {z : Str} {d : D} (h : d ∈ strItems z) : ∃ c, c ∈ z.cps.toList ∧ d = .str ⟨#[c]⟩ := by
  unfold strItems at h
  obtain ⟨c, h1, h2⟩ := List.mem_map.mp h
  exact ⟨c, h1, h2.symm⟩
theorem notIn_c (c : Nat) (z : Str) : notInD (.str ⟨#[c]⟩) (.str z) = .ok (.bl (!decide (c ∈ z.cps.toList))) := rfl
theorem name_head {s : Str} (h : 1 ≤ s.length) (hl : s.length ≤ sizeLine) : ∃ c r, s.cps.toList = c :: r ∧ strGet s 0 = .ok (.str ⟨#[c]⟩) := by
  obtain ⟨c, h1, h2⟩ := @strGet_of s 0 hl h
  cases q : s.cps.toList with
  | nil => rw [q] at h1; cases h1
  | cons c' r =>
    rw [q] at h1
    cases h1
    exact ⟨_, r, rfl, h2⟩
theorem name_loop {P : Post} {i : Nat} {s : Str} {ψ : Env → SRes} {p : Nat → Bool} {env : Env} {ι : Env → Res (List D)} (hi : ι env = .ok (strItems s)) (I : Env → Prop) (h0 : I env)
    (hb : ∀ c env, I env → ∃ e2, I e2 ∧ ψ (env.set i (.sh (.str ⟨#[c]⟩))) = if p c = true then .nx e2 else .rt (.bl false))
    (hf : s.cps.toList.all p = false → P.rt (.bl false)) (ht : s.cps.toList.all p = true → ∀ env, I env → P.nx env) : Sat P (forS (gnG i) ι ψ env) := by
  by_cases ha : s.cps.toList.all p = true
  · refine Sat.forS0 I hi h0 ?_ (ht ha)
    rintro d hd env hI
    obtain ⟨c, hc, rfl⟩ := strItems_mem hd
    refine ⟨_, rfl, ?_⟩
    obtain ⟨e2, h2, h3⟩ := hb c env hI
    have : p c = true := List.all_eq_true.mp ha c hc
    rw [if_pos this] at h3
    rw [h3]
    exact h2
  · have hf' := hf (by simpa using ha)
    unfold VL.forS ofA
    rw [hi]
    have : ∀ cs : List Nat, ¬ cs.all p = true → ∀ env, I env → Sat P (forL (gnG i) ψ (cs.map fun c => D.str ⟨#[c]⟩) env) := by
      intro cs
      induction cs with
      | nil => intro h; exact absurd rfl h
      | cons c cs ih =>
        intro h env hI
        obtain ⟨e2, h2, h3⟩ := hb c env hI
        rw [List.map_cons]
        unfold forL
        show Sat P (flowL (ψ (env.set i (.sh (.str ⟨#[c]⟩)))) _)
        by_cases hc : p c = true
        · rw [if_pos hc] at h3
          rw [h3]
          refine ih (fun h' => h ?_) e2 h2
          rw [List.all_cons, hc, h']; rfl
        · rw [if_neg hc] at h3
          rw [h3]
          exact hf'
    exact this _ ha env h0
theorem len_cut (z : Str) (l u : Option Int) : (cutS z l u).length ≤ z.length := by
  unfold cutS
  rw [str_len]
  show ((z.cps.toList.drop _).take _).length ≤ z.cps.toList.length
  rw [List.length_take, List.length_drop]
  omega
end
section
def abc36 : Str := "abcdefghijklmnopqrstuvwxyz0123456789"
theorem abc36_len : abc36.length = 36 := by decide +kernel
theorem abc36_all : ∀ c ∈ abc36.cps.toList, c ∈ lowL ∨ c ∈ digL := by decide +kernel
def partB (s : Str) : Prop := ∀ c ∈ s.cps.toList, c ∈ lowL ∨ c ∈ digL
theorem name_of {s : Str} {c : Nat} {r : List Nat} (h : s.cps.toList = c :: r) (hc : c ∈ lowL) (hr : ∀ c ∈ r, c ∈ lowL ∨ c ∈ digL) (hl : r.length ≤ 11) : nameB s = true := by
  unfold nameB namL
  rw [h]
  have e1 : decide (1 ≤ (c :: r).length) = true := decide_eq_true (by rw [List.length_cons]; omega)
  have e2 : decide ((c :: r).length ≤ 12) = true := decide_eq_true (by rw [List.length_cons]; omega)
  have e3 : (c :: r).all (fun c => decide (c ∈ lowL) || decide (c ∈ digL)) = true := List.all_eq_true.mpr fun x hx => by
    rcases List.mem_cons.mp hx with rfl | hx
    · rw [decide_eq_true hc]; rfl
    · rcases hr x hx with h | h
      · rw [decide_eq_true h]; rfl
      · rw [decide_eq_true h, Bool.or_true]
  simp only [e1, e2, e3, decide_eq_true hc, Bool.and_self]
theorem cut_toList (z : Str) (l u : Option Int) : (cutS z l u).cps.toList = (z.cps.toList.drop (HT.sIx z.length 0 l)).take (HT.sIx z.length z.length u - HT.sIx z.length 0 l) := rfl
theorem strGet_low (m : Int) (hm0 : 0 ≤ m) (hm : m < 26) : ∃ c, strGet abc36 m = .ok (.str ⟨#[c]⟩) ∧ c ∈ lowL := by
  obtain ⟨m, rfl⟩ := Int.eq_ofNat_of_zero_le hm0
  obtain ⟨c, h1, h2⟩ := @strGet_of abc36 m (by rw [abc36_len]; decide) (by rw [abc36_len]; omega)
  refine ⟨c, h2, ?_⟩
  have : ∀ i : Fin 26, ∀ c, abc36.cps.toList[i.1]? = some c → c ∈ lowL := by
    have : (List.range 26).all (fun i => match abc36.cps.toList[i]? with | some c => decide (c ∈ lowL) | none => true) = true := by decide +kernel
    intro i c h
    have := List.all_eq_true.mp this i.1 (List.mem_range.mpr i.2)
    rw [h] at this
    exact of_decide_eq_true this
  exact this ⟨m, by omega⟩ c h1
theorem names_base (ns : List Int) (k : Nat) (hk : k < 2 ^ 59) (x2 x4 x5 x6 x7 x8 x9 x10 x11 : Sl) : ∃ b : Str, strE joinD (cE (.str "")) (lcE [9] (gnG 9) (aI range1 (consA (cE (.int 12)) nilA)) yesT (op2 getD (getP 3) (op2 modD (aE m__law_draw (consA (getP 0) (consA (getP 1) (consA (op2 addD (cE (.int 1)) (getP 9)) nilA)))) (cE (.int 36))))) [.sh (.scr ns), .sh (.int (k : Int)), x2, .sh (.str abc36), x4, x5, x6, x7, x8, x9, x10, x11] = .ok (.str b) ∧ b.length = 12 ∧ partB b := by
  obtain ⟨ys, h1, h2, h3⟩ := lcE_ex (vs := [9]) (γ := gnG 9) (φ := op2 getD (getP 3) (op2 modD (aE m__law_draw (consA (getP 0) (consA (getP 1) (consA (op2 addD (cE (.int 1)) (getP 9)) nilA)))) (cE (.int 36)))) (ι := aI range1 (consA (cE (.int 12)) nilA)) (env := [.sh (.scr ns), .sh (.int (k : Int)), x2, .sh (.str abc36), x4, x5, x6, x7, x8, x9, x10, x11])
    (fun d => ∃ c : Nat, d = .str ⟨#[c]⟩ ∧ (c ∈ lowL ∨ c ∈ digL)) (ds := rangeD 0 12) rfl (by rw [rangeD_len]; decide) (fun d hd => by
      obtain ⟨i, hi, rfl⟩ := rangeD_mem hd
      refine ⟨_, rfl, ?_⟩
      have hd := (draw_all ns k (1 + (0 + (i : Int))) (by omega) (by omega) (by omega) (by omega)).1
      obtain ⟨c, h1, h2⟩ := pick_str abc36 36 (by rw [abc36_len]; decide) (by decide) (by rw [abc36_len]; decide) (dr ns k (1 + (0 + (i : Int))))
      refine ⟨.str ⟨#[c]⟩, ?_, c, rfl, abc36_all c h2⟩
      simp_arith [Int.reduceLT, hd, h1])
  obtain ⟨cs, rfl⟩ : ∃ cs : List Nat, ys = cs.map fun c => D.str ⟨#[c]⟩ := by
    clear h1 h2
    induction ys with
    | nil => exact ⟨[], rfl⟩
    | cons y ys ih =>
      obtain ⟨cs, rfl⟩ := ih fun y hy => h3 y (List.mem_cons_of_mem _ hy)
      obtain ⟨c, rfl, _⟩ := h3 y (List.mem_cons_self ..)
      exact ⟨c :: cs, rfl⟩
  rw [List.length_map, rangeD_len] at h2
  have hm : ∀ c ∈ cs, c ∈ lowL ∨ c ∈ digL := fun c hc => by
    obtain ⟨c', e, h⟩ := h3 (.str ⟨#[c]⟩) (List.mem_map.mpr ⟨c, hc, rfl⟩)
    cases e
    exact h
  have hj := join_of (Str.ofString "") (cs.map fun c => (⟨#[c]⟩ : Str)) (by
    have := sum_le (cs.map fun c => (⟨#[c]⟩ : Str)) 1 (fun s hs => by
      obtain ⟨c, _, rfl⟩ := List.mem_map.mp hs
      exact Nat.le_refl 1)
    rw [List.length_map, h2] at *
    have e : (Str.ofString "").length = 0 := by decide +kernel
    rw [e]
    omega)
  have hf : ∀ l : List Nat, ((l.map fun c => (⟨#[c]⟩ : Str)).map fun s => s.cps.toList).flatten = l := by
    intro l
    induction l with
    | nil => rfl
    | cons c l ih =>
      rw [List.map_cons, List.map_cons, List.flatten_cons, ih]
      rfl
  refine ⟨Txt.join (Str.ofString "") (cs.map fun c => (⟨#[c]⟩ : Str)), ?_, ?_, ?_⟩
  · simp only [strE_eq, cE_eq, h1, rStr_ok]
    rw [List.map_map] at hj
    exact hj
  · rw [str_len, tl_join0, hf, h2]
  · unfold partB
    rw [tl_join0, hf]
    exact hm

end
section
theorem m_tl : ("m" : Str).cps.toList = [109] := by decide +kernel
theorem names_ex (ns : List Int) (k many : Nat) (hk : k < 2 ^ 59) (hm : many ≤ 8) : ∃ l : List Str, m__law_names [.scr ns, .int (k : Int), .int (many : Int)] = .ok (.lst (l.map .str)) ∧ l.length = many ∧ ∀ s ∈ l, nameB s = true := by
  have key : ∃ d, m__law_names [.scr ns, .int (k : Int), .int (many : Int)] = .ok d ∧ ∃ l : List Str, d = .lst (l.map .str) ∧ l.length = many ∧ ∀ s ∈ l, nameB s = true := by
    refine m_ex ?_
    unfold b__law_names
    have dd : ∀ j : Nat, j < 100 → m__law_draw [.scr ns, .int (k : Int), .int (j : Int)] = .ok (.int (dr ns k j)) := fun j hj => draw_nn ns k j (by omega) (by omega)
    have d0 : m__law_draw [.scr ns, .int (k : Int), .int 0] = .ok (.int (dr ns k 0)) := dd 0 (by decide)
    have d13 : m__law_draw [.scr ns, .int (k : Int), .int 13] = .ok (.int (dr ns k 13)) := dd 13 (by decide)
    have d14 : m__law_draw [.scr ns, .int (k : Int), .int 14] = .ok (.int (dr ns k 14)) := dd 14 (by decide)
    refine Sat.seq (Sat.nx rfl ?_)
    show Sat _ (seqS _ _ [.sh (.scr ns), .sh (.int (k : Int)), .sh (.int (many : Int)), .sh (.str abc36), .no, .no, .no, .no, .no, .no, .no, .no])
    rw [seq_eq]
    simp only [setS_eq, op2_eq, aE_eq, consA_eq, nilA_eq, getP_eq, cE_eq, gz_, gs_, rGet_ok, rC_ok, r1_ok, d0, r2_ok, mod_int, Int.reduceLT, rSet_ok, rSeq_nx, sz_, ss_]
    generalize dr ns k 0 % 3 = mode
    obtain ⟨b, hb, hbl, hbp⟩ := names_base ns k hk (.sh (.int (many : Int))) (.sh (.int mode)) .no .no .no .no .no .no .no
    have hB : addD (.str "m") (.str b) = .ok (.str (("m" : Str) ++ b)) := add_str (le_line (by rw [hbl]; decide +kernel))
    rw [seq_eq, setS_eq, op2_eq, hb]
    simp only [cE_eq, r2_ok, hB, rSet_ok, rSeq_nx, sz_, ss_]
    have hBt : (("m" : Str) ++ b).cps.toList = 109 :: b.cps.toList := by rw [str_app, m_tl]; rfl
    have hBl : (("m" : Str) ++ b).length = 13 := by rw [str_app_len, hbl]; decide +kernel
    generalize ("m" : Str) ++ b = B at hBt hBl
    have z0 := Int.emod_nonneg (dr ns k 13) (show (12 : Int) ≠ 0 by decide)
    have z1 := Int.emod_lt_of_pos (dr ns k 13) (show (0 : Int) < 12 by decide)
    have hz : (0 : Int) < 1 + dr ns k 13 % 12 := by omega
    simp_arith [d13, d14, mod_int (show (0 : Int) < 12 by decide), mod_int hz]
    generalize dr ns k 13 % 12 = z at z0 z1 hz
    have p0 := Int.emod_nonneg (dr ns k 14) (show 1 + z ≠ 0 by omega)
    have p1 := Int.emod_lt_of_pos (dr ns k 14) hz
    generalize dr ns k 14 % (1 + z) = p at p0 p1
    obtain ⟨z, rfl⟩ := Int.eq_ofNat_of_zero_le z0
    obtain ⟨p, rfl⟩ := Int.eq_ofNat_of_zero_le p0
    let I : Nat → Env → Prop := fun i env => ∃ (l : List Str) (x y w : Sl), env = [.sh (.scr ns), .sh (.int (k : Int)), .sh (.int (many : Int)), .sh (.str abc36), .sh (.int mode), .sh (.str B), .sh (.int (1 + (z : Int))), .sh (.int (p : Int)), .ow (.lst (l.map .str)), x, y, w] ∧ l.length = i ∧ ∀ s ∈ l, nameB s = true
    refine Sat.rseq ?_
    with_reducible refine Sat.forS I (ds := rangeD 0 many) ?_ ?_ ?_ ?_
    · simp_arith []
      rw [range1_nat (by omega)]
    · exact ⟨[], _, _, _, rfl, rfl, by simp⟩
    · rintro i d env hd ⟨l, x, y, w, rfl, hl, hall⟩
      obtain ⟨hi, rfl⟩ := rangeD_get hd
      refine ⟨_, rfl, ?_⟩
      have hdi : m__law_draw [.scr ns, .int (k : Int), .int (15 + (0 + (i : Int)))] = .ok (.int (dr ns k (15 + (0 + (i : Int))))) := (draw_all ns k _ (by omega) (by omega) (by omega) (by omega)).1
      have hBp : ∀ c ∈ b.cps.toList, c ∈ lowL ∨ c ∈ digL := hbp
      -- the last: append
      have fin : ∀ (s : Str) (x9 x10 : Sl), nameB s = true → Sat (((Post.mk (fun _ => False) (fun _ => False) (fun _ => False) (fun d => ∃ l : List Str, d = .lst (l.map .str) ∧ l.length = many ∧ ∀ s ∈ l, nameB s = true) (fun _ _ _ => False) (fun _ => False)).thn (giveS 8 (retS (getP 8)))).lp (I (i + 1))) (appS 8 (getP 11) [.sh (.scr ns), .sh (.int (k : Int)), .sh (.int (many : Int)), .sh (.str abc36), .sh (.int mode), .sh (.str B), .sh (.int (1 + (z : Int))), .sh (.int (p : Int)), .ow (.lst (l.map .str)), x9, x10, .sh (.str s)]) := fun s x9 x10 hs => by
        have hlt : (l.map D.str).length < sizeLine := by rw [List.length_map]; exact Nat.lt_of_lt_of_le (show l.length < 1000000 by omega) (le_line (Nat.le_refl _))
        simp_arith [if_pos hlt]
        refine ⟨l ++ [s], _, _, _, by rw [List.map_append]; rfl, by rw [List.length_append, hl]; rfl, fun t ht => ?_⟩
        rcases List.mem_append.mp ht with h | h
        · exact hall t h
        · rw [List.mem_singleton.mp h]; exact hs
      obtain ⟨c, hc, hcl⟩ := strGet_low (dr ns k (15 + (0 + (i : Int))) % 26) (Int.emod_nonneg _ (by decide)) (Int.emod_lt_of_pos _ (by decide))
      have y0 := Int.emod_nonneg (dr ns k (15 + (0 + (i : Int))) / 26) (show (12 : Int) ≠ 0 by decide)
      have y1 := Int.emod_lt_of_pos (dr ns k (15 + (0 + (i : Int))) / 26) (show (0 : Int) < 12 by decide)
      have hBn : ∀ (u : Option Int) (q : Nat) (c : Nat), c ∈ (cutS B (some ((q + 1 : Nat) : Int)) u).cps.toList → c ∈ lowL ∨ c ∈ digL := fun u q c h => by
        rw [cut_toList, HT.sIx_nat, hBt, hBl] at h
        have h' := List.mem_of_mem_take h
        have : ∃ q', min (q + 1) 13 = q' + 1 := ⟨min (q + 1) 13 - 1, by omega⟩
        obtain ⟨q', e⟩ := this
        rw [e, List.drop_succ_cons] at h'
        exact hBp c (List.mem_of_mem_drop h')
      have hsl : sliceD (.str B) (some 1) (some (1 + dr ns k (15 + (0 + (i : Int))) / 26 % 12)) = .ok (.str (cutS B (some 1) (some (1 + dr ns k (15 + (0 + (i : Int))) / 26 % 12)))) := sl_str (le_line (by omega))
      have ha : addD (.str ⟨#[c]⟩) (.str (cutS B (some 1) (some (1 + dr ns k (15 + (0 + (i : Int))) / 26 % 12)))) = .ok (.str ((⟨#[c]⟩ : Str) ++ cutS B (some 1) (some (1 + dr ns k (15 + (0 + (i : Int))) / 26 % 12)))) := add_str (le_line (by have := len_cut B (some 1) (some (1 + dr ns k (15 + (0 + (i : Int))) / 26 % 12)); rw [str_sing]; omega))
      have hn0 : nameB ((⟨#[c]⟩ : Str) ++ cutS B (some 1) (some (1 + dr ns k (15 + (0 + (i : Int))) / 26 % 12))) = true := by
        refine name_of (c := c) (r := (cutS B (some 1) (some (1 + dr ns k (15 + (0 + (i : Int))) / 26 % 12))).cps.toList) (by rw [str_app]; rfl) hcl (fun c h => hBn _ 0 c h) ?_
        generalize dr ns k (15 + (0 + (i : Int))) / 26 % 12 = yy at y0 y1
        obtain ⟨yy, rfl⟩ := Int.eq_ofNat_of_zero_le y0
        rw [cut_toList, List.length_take, show (1 : Int) + (yy : Int) = ((1 + yy : Nat) : Int) by omega, HT.sIx_nat, show (1 : Int) = ((1 : Nat) : Int) from rfl, HT.sIx_nat, hBl]
        omega
      simp_arith [Int.reduceLT, and_self, hdi, show strGet abc36 (dr ns k (15 + (0 + (i : Int))) % 26) = .ok (.str ⟨#[c]⟩) from hc, hsl, ha]
      generalize (⟨#[c]⟩ : Str) ++ cutS B (some 1) (some (1 + dr ns k (15 + (0 + (i : Int))) / 26 % 12)) = nm at hn0
      -- mode 0, then mode 1
      have rest : ∀ (s : Str), nameB s = true → Sat (((Post.mk (fun _ => False) (fun _ => False) (fun _ => False) (fun d => ∃ l : List Str, d = .lst (l.map .str) ∧ l.length = many ∧ ∀ s ∈ l, nameB s = true) (fun _ _ _ => False) (fun _ => False)).thn (giveS 8 (retS (getP 8)))).lp (I (i + 1))) (seqS (ifS (tE (op2 eqO (getP 4) (cE (.int 1)))) (setS 11 (op2 addD (op2 addD (slE (getP 5) noO (someO (getP 7))) (op2 getD (getP 3) (op2 modD (aE intF (consA (op2 addD (getP 10) (getP 9)) nilA)) (cE (.int 26))))) (slE (getP 5) (someO (op2 addD (getP 7) (cE (.int 1)))) (someO (getP 6))))) nxS) (appS 8 (getP 11)) [.sh (.scr ns), .sh (.int (k : Int)), .sh (.int (many : Int)), .sh (.str abc36), .sh (.int mode), .sh (.str B), .sh (.int (1 + (z : Int))), .sh (.int (p : Int)), .ow (.lst (l.map .str)), .sh (.int (0 + (i : Int))), .sh (.int (dr ns k (15 + (0 + (i : Int))))), .sh (.str s)]) := fun s hs => by
        rw [seq_eq]
        simp only [ifS_eq, tE_eq, op2_eq, getP_eq, cE_eq, gz_, gs_, rGet_ok, r2_ok, r1_ok, eqO_int, toB_ok]
        refine Sat.rseq (Sat.ifP (fun _ => ?_) (fun _ => ?_))
        · obtain ⟨c2, hc2, hcl2⟩ := strGet_low ((dr ns k (15 + (0 + (i : Int))) + (0 + (i : Int))) % 26) (Int.emod_nonneg _ (by decide)) (Int.emod_lt_of_pos _ (by decide))
          have s1 : sliceD (.str B) none (some (p : Int)) = .ok (.str (cutS B none (some (p : Int)))) := sl_str (le_line (by omega))
          have s2 : sliceD (.str B) (some ((p : Int) + 1)) (some (1 + (z : Int))) = .ok (.str (cutS B (some ((p : Int) + 1)) (some (1 + (z : Int))))) := sl_str (le_line (by omega))
          have l1 := len_cut B none (some (p : Int))
          have l2 := len_cut B (some ((p : Int) + 1)) (some (1 + (z : Int)))
          have a1 : addD (.str (cutS B none (some (p : Int)))) (.str ⟨#[c2]⟩) = .ok (.str (cutS B none (some (p : Int)) ++ ⟨#[c2]⟩)) := add_str (le_line (by rw [str_sing]; omega))
          have a2 : addD (.str (cutS B none (some (p : Int)) ++ ⟨#[c2]⟩)) (.str (cutS B (some ((p : Int) + 1)) (some (1 + (z : Int))))) = .ok (.str (cutS B none (some (p : Int)) ++ ⟨#[c2]⟩ ++ cutS B (some ((p : Int) + 1)) (some (1 + (z : Int))))) := add_str (le_line (by rw [str_app_len, str_sing]; omega))
          simp_arith [Int.reduceLT, s1, s2, show strGet abc36 ((dr ns k (15 + (0 + (i : Int))) + (0 + (i : Int))) % 26) = .ok (.str ⟨#[c2]⟩) from hc2, a1, a2]
          refine fin _ _ _ ?_
          have t2 : ∀ c ∈ (cutS B (some ((p : Int) + 1)) (some (1 + (z : Int)))).cps.toList, c ∈ lowL ∨ c ∈ digL := fun c h => hBn _ p c h
          have t2l : (cutS B (some ((p : Int) + 1)) (some (1 + (z : Int)))).cps.toList.length ≤ z - p := by
            rw [cut_toList, List.length_take, show (1 : Int) + (z : Int) = ((1 + z : Nat) : Int) by omega, show (p : Int) + 1 = ((p + 1 : Nat) : Int) by omega, HT.sIx_nat, HT.sIx_nat, hBl]
            omega
          have t1 : (cutS B none (some (p : Int))).cps.toList = B.cps.toList.take p := by
            rw [cut_toList, HT.sIx_nat, HT.sIx_none, hBl, List.drop_zero, Nat.sub_zero, Nat.min_eq_left (by omega)]
          cases p with
          | zero =>
            refine name_of (c := c2) (r := (cutS B (some (((0 : Nat) : Int) + 1)) (some (1 + (z : Int)))).cps.toList) ?_ hcl2 t2 (by omega)
            rw [str_app, str_app, t1]
            rfl
          | succ p =>
            refine name_of (c := 109) (r := b.cps.toList.take p ++ c2 :: (cutS B (some (((p + 1 : Nat) : Int) + 1)) (some (1 + (z : Int)))).cps.toList) ?_ (by decide +kernel) ?_ ?_
            · rw [str_app, str_app, t1, hBt, List.take_succ_cons]
              simp
            · intro c hc
              rcases List.mem_append.mp hc with h | h
              · exact hBp c (List.mem_of_mem_take h)
              · rcases List.mem_cons.mp h with rfl | h
                · exact .inl hcl2
                · exact t2 c h
            · rw [List.length_append, List.length_cons, List.length_take]
              omega
        · simp only [nxS_eq, Sat_nx, thn_nx]
          exact fin s _ _ hs
      refine Sat.rseq (Sat.ifP (fun _ => ?_) (fun _ => ?_))
      · have h8 : Str.length "abcdefgh" = 8 := by decide +kernel
        obtain ⟨c3, h3, h4⟩ := @strGet_of "abcdefgh" i (by decide +kernel) (by rw [h8]; omega)
        simp only [setS_eq, op2_eq, cE_eq, getP_eq, gz_, gs_, rGet_ok, r2_ok, get_str, Int.zero_add, h4, rSet_ok, Sat_nx, thn_nx, sz_, ss_]
        have := rest ⟨#[c3]⟩ (name_of (c := c3) (r := []) rfl (by
          have : ∀ c ∈ ("abcdefgh" : Str).cps.toList, c ∈ lowL := by decide +kernel
          exact this c3 (List.mem_of_getElem? h3)) (by simp) (by simp))
        rw [Int.zero_add] at this
        exact this
      · simp only [nxS_eq, Sat_nx, thn_nx]
        exact rest nm hn0
    · rintro env ⟨l, x, y, w, rfl, hl, hall⟩
      rw [rangeD_len] at hl
      simp_arith []
      exact ⟨l, rfl, hl, hall⟩
  obtain ⟨d, h1, l, rfl, h2, h3⟩ := key
  exact ⟨l, h1, h2, h3⟩

end
section
theorem okS_of {s : Str} (h : ∀ c ∈ s.cps.toList, c < 0x110000) : okS s = true := by
  unfold okS
  rw [Array.all_eq_true]
  intro i hi
  exact decide_eq_true (h _ (by rw [Array.mem_toList_iff]; exact Array.getElem_mem hi))
theorem low_lt : ∀ c ∈ lowL, c < 0x110000 := by decide +kernel
theorem dig_lt : ∀ c ∈ digL, c < 0x110000 := by decide +kernel
theorem name_parts {s : Str} (h : nameB s = true) : ∃ c r, s.cps.toList = c :: r ∧ c ∈ lowL ∧ (∀ c ∈ s.cps.toList, c ∈ lowL ∨ c ∈ digL) ∧ s.length ≤ 12 := by
  unfold nameB namL at h
  simp only [Bool.and_eq_true, decide_eq_true_eq, List.all_eq_true, Bool.or_eq_true] at h
  obtain ⟨⟨⟨_, h2⟩, h3⟩, h4⟩ := h
  cases q : s.cps.toList with
  | nil => rw [q] at h3; cases h3
  | cons c r =>
    rw [q] at h3 h4
    exact ⟨c, r, rfl, of_decide_eq_true h3, h4, h2⟩
theorem name_ok {s : Str} (h : nameB s = true) : okS s = true := by
  obtain ⟨c, r, _, _, h4, _⟩ := name_parts h
  exact okS_of fun c hc => (h4 c hc).elim (low_lt c) (dig_lt c)
theorem plus_tl : ("+" : Str).cps.toList = [43] := by decide +kernel
theorem minus_tl : ("-" : Str).cps.toList = [45] := by decide +kernel
end
section
theorem is_name_ok (s : Str) (hl : s.length ≤ sizeLine) : m_is_name [.str s] = .ok (.bl (nameB s)) := by
  refine m_ok ?_
  unfold b_is_name
  by_cases h1 : 1 ≤ s.length
  · obtain ⟨c, r, hc, hg⟩ := name_head h1 hl
    by_cases h2 : s.length ≤ 12
    · simp_arith [len_str hl, hg, notIn_c]
      have e1 : decide ((1 : Int) ≤ (s.length : Int)) = true := decide_eq_true (by omega)
      have e2 : decide ((s.length : Int) ≤ 12) = true := decide_eq_true (by omega)
      simp only [e1, e2, Bool.and_true, Bool.not_true, Bool.false_or]
      refine Sat.rseq (Sat.ifb (fun hb => ?_) (fun hb => ?_))
      · simp_arith []
        have : c ∉ lowL := fun hm => by
          rw [show decide (c ∈ ("abcdefghijklmnopqrstuvwxyz" : Str).cps.toList) = true from decide_eq_true hm] at hb
          exact absurd hb (by decide)
        unfold nameB namL
        rw [hc]
        simp [this]
      · simp_arith []
        have hm : c ∈ lowL := Decidable.byContradiction fun hm => by
          rw [show decide (c ∈ ("abcdefghijklmnopqrstuvwxyz" : Str).cps.toList) = false from decide_eq_false hm] at hb
          exact absurd hb (by decide)
        refine Sat.rseq (name_loop (s := s) (p := fun c => decide (c ∈ lowL) || decide (c ∈ digL)) (by simp_arith []) (fun env => ∃ x, env = [.sh (.str s), x]) ⟨_, rfl⟩ ?_ ?_ ?_)
        · rintro c' env ⟨x, rfl⟩
          refine ⟨[.sh (.str s), .sh (.str ⟨#[c']⟩)], ⟨_, rfl⟩, ?_⟩
          show rIf (rAnd (.ok (!decide (c' ∈ lowL))) (.ok (!decide (c' ∈ digL)))) (retS (cE (.bl false))) nxS _ = _
          cases decide (c' ∈ lowL) <;> cases decide (c' ∈ digL) <;> rfl
        · intro hall
          show D.bl false = _
          unfold nameB namL
          rw [hall, Bool.and_false]
        · rintro hall env ⟨x, rfl⟩
          simp_arith []
          unfold nameB namL
          rw [hall, hc]
          have e3 : decide (1 ≤ (c :: r).length) = true := by rw [← hc]; exact decide_eq_true h1
          have e4 : decide ((c :: r).length ≤ 12) = true := by rw [← hc]; exact decide_eq_true h2
          rw [e3, e4]
          simp [hm]
    · simp_arith [len_str hl, hg, notIn_c]
      have e2 : decide ((s.length : Int) ≤ 12) = false := decide_eq_false (by omega)
      simp only [e2, Bool.and_false, seq_eq, rSeq_nx, rSeq_rt, rSeq_bk, rSeq_ct, rSeq_xc, setS_eq, rSet_ok, ownS_eq, rOwn_ok, retS_eq, rRet_ok, retNS_eq, nxS_eq, bkS_eq, ctS_eq, dropS_eq, rDrop_ok, ifS_eq, rIf_t, rIf_f, asgS_eq, appS_eq, rApp_ok, giveS_eq, VL.give, gnG_eq, getP_eq, getB_eq, rGet_ok, rGetB_ok, rGetB_ow, cE_eq, op2_eq, r2_ok, aE_eq, aI_eq, iE_eq, tE_eq, someO_eq, notE_eq, isTE_eq, r1_ok, toB_ok, toI_ok, notD_ok, noO_eq, nilA_eq, consA_eq, rC_ok, andT_eq, orT_eq, notT_eq, rAnd_t, rAnd_f, rAnd_ok, rOr_t, rOr_f, rOr_ok, rNot_ok, andE_eq, orE_eq, rAndE_t, rAndE_f, rAndE_ok, rOrE_t, rOrE_f, rOrE_ok, ifE_eq, rIfE_ok, slE_eq, rSl_ok, chE_eq, rCh_le, rCh_lelt, rCh_ltlt, rCh_ltle, strE_eq, rStr_ok, immE_eq, rImm_ok, Sat_nx, Sat_rt, Sat_ct, Sat_bk, Sat_xc, thn_nx, thn_rt, thn_ct, thn_bk, thn_xc, lp_nx, lp_ct, lp_bk, lp_rt, lp_xc, add_int, sub_int, mod_int, fdiv_int, lt_int, le_int, gt_int, ge_int, isN_eq, notN_eq, isNon, len_lst, len_tup, len_scr, int_int, get_str, get_tup, get_lst, get_scr, items_str, items_lst, items_tup, lst_nil, sl_tup, sl_lst, isT_bl, eqO_int, eqO_bl, eqO_scr, neO_int, env0, List.map_cons, List.map_nil, List.cons_append, List.nil_append, List.length_cons, List.length_nil, List.replicate, gz_, gs_, sz_, ss_, if_true, if_false, reduceIte, Bool.not_true, Bool.not_false, Bool.false_eq_true, Nat.reduceAdd, Nat.reduceSub, Bool.false_or, Bool.or_false, Bool.true_or, Bool.or_true, Bool.and_true, Bool.true_and, Bool.and_false, Bool.false_and, wipeE, yesT, negE_eq, neg_int, retFS, outO, ofE_ok, str_str, ltX_int, ltX_str, inX_str, notInX_str, list_lst, list_tup, Sat_ro, thn_ro, lp_ro, raiseS_eq, rRaise_ok, raise0S_eq, isXE_eq, fldXE_eq, int_bl, rSet_xc, rDrop_xc, rRet_xc, r1_xc, rC_xc, r2_xc, rIf_xc, outI_nx, outI_rt, outI_nx0, outI_rt0, inE_s, inE_0, lst_k, tup_k, catl_k, Nat.reduceLeDiff, inWE_eq, inW_str, ixWE_eq, guardX_ok, getE_eq, putS_eq, rPut_ok]
      show D.bl false = _
      unfold nameB namL
      have : decide (s.cps.toList.length ≤ 12) = false := decide_eq_false h2
      rw [this]
      simp
  · simp_arith [len_str hl]
    have e1 : decide ((1 : Int) ≤ (s.length : Int)) = false := decide_eq_false (by omega)
    simp only [e1, Bool.false_and, seq_eq, rSeq_nx, rSeq_rt, rSeq_bk, rSeq_ct, rSeq_xc, setS_eq, rSet_ok, ownS_eq, rOwn_ok, retS_eq, rRet_ok, retNS_eq, nxS_eq, bkS_eq, ctS_eq, dropS_eq, rDrop_ok, ifS_eq, rIf_t, rIf_f, asgS_eq, appS_eq, rApp_ok, giveS_eq, VL.give, gnG_eq, getP_eq, getB_eq, rGet_ok, rGetB_ok, rGetB_ow, cE_eq, op2_eq, r2_ok, aE_eq, aI_eq, iE_eq, tE_eq, someO_eq, notE_eq, isTE_eq, r1_ok, toB_ok, toI_ok, notD_ok, noO_eq, nilA_eq, consA_eq, rC_ok, andT_eq, orT_eq, notT_eq, rAnd_t, rAnd_f, rAnd_ok, rOr_t, rOr_f, rOr_ok, rNot_ok, andE_eq, orE_eq, rAndE_t, rAndE_f, rAndE_ok, rOrE_t, rOrE_f, rOrE_ok, ifE_eq, rIfE_ok, slE_eq, rSl_ok, chE_eq, rCh_le, rCh_lelt, rCh_ltlt, rCh_ltle, strE_eq, rStr_ok, immE_eq, rImm_ok, Sat_nx, Sat_rt, Sat_ct, Sat_bk, Sat_xc, thn_nx, thn_rt, thn_ct, thn_bk, thn_xc, lp_nx, lp_ct, lp_bk, lp_rt, lp_xc, add_int, sub_int, mod_int, fdiv_int, lt_int, le_int, gt_int, ge_int, isN_eq, notN_eq, isNon, len_lst, len_tup, len_scr, int_int, get_str, get_tup, get_lst, get_scr, items_str, items_lst, items_tup, lst_nil, sl_tup, sl_lst, isT_bl, eqO_int, eqO_bl, eqO_scr, neO_int, env0, List.map_cons, List.map_nil, List.cons_append, List.nil_append, List.length_cons, List.length_nil, List.replicate, gz_, gs_, sz_, ss_, if_true, if_false, reduceIte, Bool.not_true, Bool.not_false, Bool.false_eq_true, Nat.reduceAdd, Nat.reduceSub, Bool.false_or, Bool.or_false, Bool.true_or, Bool.or_true, Bool.and_true, Bool.true_and, Bool.and_false, Bool.false_and, wipeE, yesT, negE_eq, neg_int, retFS, outO, ofE_ok, str_str, ltX_int, ltX_str, inX_str, notInX_str, list_lst, list_tup, Sat_ro, thn_ro, lp_ro, raiseS_eq, rRaise_ok, raise0S_eq, isXE_eq, fldXE_eq, int_bl, rSet_xc, rDrop_xc, rRet_xc, r1_xc, rC_xc, r2_xc, rIf_xc, outI_nx, outI_rt, outI_nx0, outI_rt0, inE_s, inE_0, lst_k, tup_k, catl_k, Nat.reduceLeDiff, inWE_eq, inW_str, ixWE_eq, guardX_ok, getE_eq, putS_eq, rPut_ok]
    show D.bl false = _
    unfold nameB namL
    have : decide (1 ≤ s.cps.toList.length) = false := decide_eq_false h1
    rw [this]
    simp

end
section
theorem many_ex (ns : List Int) (j : Nat) (hj : j < 1000) : ∃ n : Nat, m__law_many [.scr ns, .int (j : Int)] = .ok (.int (n : Int)) ∧ 1 ≤ n ∧ n ≤ 6 := by
  have key : ∃ d, m__law_many [.scr ns, .int (j : Int)] = .ok d ∧ ∃ n : Nat, d = .int (n : Int) ∧ 1 ≤ n ∧ n ≤ 6 := by
    refine m_ex ?_
    unfold b__law_many
    have d0 : m__law_draw [.scr ns, .int 0, .int (j : Int)] = .ok (.int (dr ns 0 j)) := draw_nn ns 0 j (by decide) (by omega)
    obtain ⟨d, h1, h2⟩ := pick_seq [D.int 1, .int 2, .int 3, .int 1, .int 2, .int 3, .int 5, .int 6] 8 (by decide) (by decide) (dr ns 0 j)
    have l8 : lstD [D.int 1, .int 2, .int 3, .int 1, .int 2, .int 3, .int 5, .int 6] = .ok (.lst [D.int 1, .int 2, .int 3, .int 1, .int 2, .int 3, .int 5, .int 6]) := lst_ok (le_line (show 8 ≤ 1000000 by decide))
    simp_arith [Int.reduceLT, d0, l8, h1]
    simp only [List.mem_cons, List.not_mem_nil, or_false] at h2
    rcases h2 with rfl | rfl | rfl | rfl | rfl | rfl | rfl | rfl
    · exact ⟨1, rfl, by decide, by decide⟩
    · exact ⟨2, rfl, by decide, by decide⟩
    · exact ⟨3, rfl, by decide, by decide⟩
    · exact ⟨1, rfl, by decide, by decide⟩
    · exact ⟨2, rfl, by decide, by decide⟩
    · exact ⟨3, rfl, by decide, by decide⟩
    · exact ⟨5, rfl, by decide, by decide⟩
    · exact ⟨6, rfl, by decide, by decide⟩
  obtain ⟨d, h, n, rfl, h'⟩ := key
  exact ⟨n, h, h'⟩

end
section
theorem cutD_from (xs : List D) (k : Nat) : cutD xs (some (k : Int)) none = xs.drop k := by
  unfold cutD
  rw [HT.sIx_nat, HT.sIx_none]
  by_cases h : k ≤ xs.length
  · rw [Nat.min_eq_left h]
    exact List.take_of_length_le (by rw [List.length_drop]; omega)
  · rw [Nat.min_eq_right (by omega), Nat.sub_self, List.take_zero, List.drop_of_length_le (by omega)]
theorem cutD_to (xs : List D) (k : Nat) : cutD xs none (some (k : Int)) = xs.take k := by
  unfold cutD
  rw [HT.sIx_nat, HT.sIx_none, Nat.sub_zero, List.drop_zero]
  by_cases h : k ≤ xs.length
  · rw [Nat.min_eq_left h]
  · rw [Nat.min_eq_right (by omega), List.take_of_length_le (Nat.le_refl _), List.take_of_length_le (by omega)]
theorem cutS_from (z : Str) (k : Nat) : (cutS z (some (k : Int)) none).cps.toList = z.cps.toList.drop k := by
  rw [cut_toList, HT.sIx_nat, HT.sIx_none]
  by_cases h : k ≤ z.length
  · rw [Nat.min_eq_left h]
    exact List.take_of_length_le (by rw [List.length_drop]; exact Nat.le_refl _)
  · rw [Nat.min_eq_right (by omega), Nat.sub_self, List.take_zero, List.drop_of_length_le (by rw [← str_len]; omega)]
def txts (l : List Str) : List D := l.map .str
theorem txts_len (l : List Str) : (txts l).length = l.length := List.length_map ..
theorem txts_get {l : List Str} {i : Nat} {s : Str} (h : l[i]? = some s) : seqGet (txts l) (i : Int) = .ok (.str s) := seqGet_of (by unfold txts; rw [List.getElem?_map, h]; rfl)
def stepB (s : Str) : Bool := match s.cps.toList with
  | c :: r => (decide (c = 43) || decide (c = 45)) && namL r
  | [] => false
structure RunL (l : List Str) : Prop where
  ex : ∃ s r, l = s :: r ∧ nameB s = true ∧ ∀ t ∈ r, stepB t = true
theorem step_parts {s : Str} (h : stepB s = true) : ∃ c r, s.cps.toList = c :: r ∧ (c = 43 ∨ c = 45) ∧ namL r = true ∧ s.length ≤ 13 ∧ ∀ z ∈ s.cps.toList, z < 0x110000 := by
  unfold stepB at h
  cases q : s.cps.toList with
  | nil => rw [q] at h; cases h
  | cons c r =>
    rw [q] at h
    simp only [Bool.and_eq_true, Bool.or_eq_true, decide_eq_true_eq] at h
    have hn : nameB ⟨r.toArray⟩ = true := h.2
    obtain ⟨c', r', h1, h2, h3, h4⟩ := name_parts hn
    have h4' : r.length ≤ 12 := h4
    refine ⟨c, r, rfl, h.1, h.2, by rw [str_len, q, List.length_cons]; omega, fun z hz => ?_⟩
    rcases List.mem_cons.mp hz with rfl | hz
    · rcases h.1 with rfl | rfl <;> decide
    · exact (h3 z hz).elim (low_lt z) (dig_lt z)
theorem step_ok {s : Str} (h : stepB s = true) : okS s = true := by
  obtain ⟨_, _, _, _, _, _, h⟩ := step_parts h
  exact okS_of h
theorem RunL.ok {l : List Str} (h : RunL l) : ∀ s ∈ l, okS s = true := by
  obtain ⟨s, r, rfl, h1, h2⟩ := h.ex
  intro t ht
  rcases List.mem_cons.mp ht with rfl | ht
  · exact name_ok h1
  · exact step_ok (h2 t ht)
theorem RunL.tl {s : Str} {r : List Str} (h : RunL (s :: r)) : ∀ t ∈ r, stepB t = true := by
  obtain ⟨_, _, e, _, h2⟩ := h.ex
  cases e
  exact h2
end
section
structure Sto where
  size : Nat
  names : List (Str × Nat)
  leads : List ((Nat × Str) × Nat)
def namD (l : List (Str × Nat)) : List (D × D) := l.map fun p => (.str p.1, .int (p.2 : Int))
def leK (k : Nat × Str) : D := .tup [.int (k.1 : Int), .str k.2]
def leaD (l : List ((Nat × Str) × Nat)) : List (D × D) := l.map fun p => (leK p.1, .int (p.2 : Int))
def stoD (S : Sto) : D := .lst [.int (S.size : Int), .dic 0 (namD S.names), .dic 1 (leaD S.leads)]
def look1 {α : Type} [DecidableEq α] (l : List (α × Nat)) (k : α) : Option Nat := (l.find? fun p => decide (p.1 = k)).map (·.2)
def put1 {α : Type} [DecidableEq α] (l : List (α × Nat)) (k : α) (v : Nat) : List (α × Nat) := if (l.any fun p => decide (p.1 = k)) = true then l.map (fun p => if p.1 = k then (p.1, v) else p) else l ++ [(k, v)]
def oD : Option Nat → D
  | none => .non
  | some i => .int (i : Int)
theorem eqK_s (x s : Str) : eqK (.str x) (.str s) = decide (x = s) := by
  have e : eqK (.str x) (.str s) = decide ((.inr x : Key) = .inr s) := eqK_key (k := .str s) (key := .inr s) rfl (.inr x)
  rw [e]
  exact decide_eq_decide.mpr ⟨fun h => Sum.inr.inj h, fun h => by rw [h]⟩
theorem eqK_l (a b : Nat × Str) : eqK (leK a) (leK b) = decide (a = b) := by
  have e : eqK (leK a) (leK b) = decide (([.inl (a.1 : Int), .inr a.2] : List Key) = [.inl (b.1 : Int), .inr b.2]) := by
    have := eqKs_keys (ds := [.int (b.1 : Int), .str b.2]) (ks := [.inl (b.1 : Int), .inr b.2]) rfl [.inl (a.1 : Int), .inr a.2]
    rw [← this]
    show eqK (.tup _) (.tup _) = _
    rw [eqK]; rfl
  rw [e]
  refine decide_eq_decide.mpr ⟨fun h => ?_, fun h => by rw [h]⟩
  obtain ⟨h1, h2⟩ := List.cons.inj h
  obtain ⟨h3, _⟩ := List.cons.inj h2
  exact Prod.ext (Int.ofNat.inj (Sum.inl.inj h1)) (Sum.inr.inj h3)
section
variable {α : Type} [DecidableEq α] {f : α → D} {k : D} {key : α}
theorem look_nil : look1 ([] : List (α × Nat)) key = none := rfl
theorem look_cons {p : α × Nat} {l : List (α × Nat)} : look1 (p :: l) key = if p.1 = key then some p.2 else look1 l key := by
  unfold look1
  by_cases c : p.1 = key
  · rw [if_pos c, List.find?_cons_of_pos (by exact decide_eq_true c)]; rfl
  · rw [if_neg c, List.find?_cons_of_neg (by simp [c])]
theorem lookD_map (hk : ∀ a, eqK (f a) k = decide (a = key)) : ∀ l : List (α × Nat), lookD (l.map fun p => (f p.1, .int (p.2 : Int))) k = (look1 l key).map fun n => .int (n : Int)
  | [] => rfl
  | p :: l => by
    rw [look_cons]
    have ih := lookD_map hk l
    unfold lookD at ih ⊢
    rw [List.map_cons]
    by_cases c : p.1 = key
    · rw [if_pos c, List.find?_cons_of_pos (by show eqK (f p.1) k = true; rw [hk, decide_eq_true c])]; rfl
    · rw [if_neg c, List.find?_cons_of_neg (by show ¬ eqK (f p.1) k = true; rw [hk, decide_eq_false c]; exact Bool.false_ne_true), ih]
theorem setD_map (hk : ∀ a, eqK (f a) k = decide (a = key)) (ek : k = f key) (l : List (α × Nat)) (v : Nat) : setD (l.map fun p => (f p.1, .int (p.2 : Int))) k (.int (v : Int)) = (put1 l key v).map fun p => (f p.1, .int (p.2 : Int)) := by
  unfold setD put1
  have e1 : ((l.map fun p => ((f p.1, .int (p.2 : Int)) : D × D)).any fun p => eqK p.1 k) = l.any fun p => decide (p.1 = key) := by
    rw [List.any_map]
    congr 1
    funext p
    exact hk p.1
  rw [e1]
  by_cases c : (l.any fun p => decide (p.1 = key)) = true
  · rw [if_pos c, if_pos c, List.map_map, List.map_map]
    refine List.map_congr_left fun p _ => ?_
    show (if eqK (f p.1) k = true then ((f p.1, D.int (v : Int)) : D × D) else (f p.1, .int (p.2 : Int))) = (fun q : α × Nat => ((f q.1, .int (q.2 : Int)) : D × D)) (if p.1 = key then (p.1, v) else p)
    rw [hk]
    by_cases c2 : p.1 = key
    · rw [if_pos c2, if_pos (decide_eq_true c2)]
    · rw [if_neg c2, if_neg (by rw [decide_eq_false c2]; exact Bool.false_ne_true)]
  · rw [if_neg c, if_neg c, List.map_append, ek]; rfl
theorem any_look : ∀ l : List (α × Nat), (l.any fun p => decide (p.1 = key)) = (look1 l key).isSome
  | [] => rfl
  | p :: l => by
    rw [look_cons, List.any_cons, any_look l]
    by_cases c : p.1 = key
    · rw [if_pos c, decide_eq_true c]; rfl
    · rw [if_neg c, decide_eq_false c, Bool.false_or]
theorem look_app {l m : List (α × Nat)} : look1 (l ++ m) key = (look1 l key).or (look1 m key) := by
  induction l with
  | nil => rfl
  | cons p l ih =>
    rw [List.cons_append, look_cons, look_cons, ih]
    by_cases c : p.1 = key
    · rw [if_pos c, if_pos c]; rfl
    · rw [if_neg c, if_neg c]
theorem look_map {v : Nat} {j : α} : ∀ l : List (α × Nat), look1 (l.map fun p => if p.1 = key then (p.1, v) else p) j = if j = key then (look1 l key).map fun _ => v else look1 l j
  | [] => by by_cases c : j = key <;> simp [c, look_nil]
  | p :: l => by
    rw [List.map_cons, look_cons, look_map l, look_cons (p := p), look_cons (p := p)]
    by_cases c : p.1 = key
    · rw [if_pos c, if_pos c]
      by_cases c2 : j = key
      · rw [if_pos c2, if_pos (c.trans c2.symm), if_pos c2]; rfl
      · rw [if_neg c2, if_neg c2]
        have : ¬ p.1 = j := fun e => c2 (e.symm.trans c)
        rw [if_neg this, if_neg this]
    · rw [if_neg c, if_neg c]
      by_cases c2 : j = key
      · rw [if_pos c2, if_pos c2, if_neg (fun e => c (e.trans c2))]
      · rw [if_neg c2, if_neg c2]
theorem look_put {l : List (α × Nat)} {v : Nat} {j : α} : look1 (put1 l key v) j = if j = key then some v else look1 l j := by
  unfold put1
  rw [any_look]
  cases q : look1 l key with
  | some a =>
    rw [if_pos (by rfl), look_map, q]; rfl
  | none =>
    rw [if_neg (by exact Bool.false_ne_true), look_app]
    by_cases c : j = key
    · subst c
      rw [if_pos rfl, q, look_cons, if_pos rfl]; rfl
    · rw [if_neg c, look_cons, if_neg (fun e => c e.symm), look_nil]
      cases look1 l j <;> rfl
theorem put_len {l : List (α × Nat)} {v : Nat} : (put1 l key v).length ≤ l.length + 1 := by
  unfold put1
  by_cases c : (l.any fun p => decide (p.1 = key)) = true
  · rw [if_pos c, List.length_map]; omega
  · rw [if_neg c, List.length_append]; exact Nat.le_refl _
theorem look_mem {a : Nat} : ∀ {l : List (α × Nat)}, look1 l key = some a → (key, a) ∈ l
  | [], h => by cases h
  | p :: l, h => by
    rw [look_cons] at h
    by_cases c : p.1 = key
    · rw [if_pos c] at h
      cases h
      rw [← c]
      exact List.mem_cons_self ..
    · rw [if_neg c] at h
      exact List.mem_cons_of_mem _ (look_mem h)
theorem mem_put {l : List (α × Nat)} {v : Nat} {p : α × Nat} (h : p ∈ put1 l key v) : p ∈ l ∨ p = (key, v) := by
  unfold put1 at h
  by_cases c : (l.any fun p => decide (p.1 = key)) = true
  · rw [if_pos c] at h
    obtain ⟨q, hq, e⟩ := List.mem_map.mp h
    by_cases c2 : q.1 = key
    · rw [if_pos c2] at e
      exact .inr (by rw [← e, c2])
    · rw [if_neg c2] at e
      exact .inl (by rw [← e]; exact hq)
  · rw [if_neg c] at h
    exact (List.mem_append.mp h).imp id fun h => List.mem_singleton.mp h
theorem look_none {l : List (α × Nat)} : look1 l key = none ↔ key ∉ l.map (·.1) := by
  induction l with
  | nil => simp [look_nil]
  | cons p l ih =>
    rw [look_cons, List.map_cons, List.mem_cons]
    by_cases c : p.1 = key
    · rw [if_pos c]
      simp [c]
    · rw [if_neg c, ih]
      exact ⟨fun h q => q.elim (fun e => c e.symm) h, fun h q => h (.inr q)⟩
theorem put_nodup {l : List (α × Nat)} {v : Nat} (h : (l.map (·.1)).Nodup) : ((put1 l key v).map (·.1)).Nodup := by
  unfold put1
  by_cases c : (l.any fun p => decide (p.1 = key)) = true
  · rw [if_pos c, List.map_map]
    have : (l.map ((fun p : α × Nat => p.1) ∘ fun p => if p.1 = key then (p.1, v) else p)) = l.map (·.1) := List.map_congr_left fun p _ => by
      show (if p.1 = key then (p.1, v) else p).1 = p.1
      by_cases c2 : p.1 = key
      · rw [if_pos c2]
      · rw [if_neg c2]
    rw [this]; exact h
  · rw [if_neg c, List.map_append]
    have hn : look1 l key = none := by
      rw [any_look] at c
      cases q : look1 l key with
      | none => rfl
      | some a => rw [q] at c; exact absurd rfl c
    refine List.nodup_append.mpr ⟨h, List.pairwise_singleton .., fun a ha b hb e => ?_⟩
    rw [List.mem_singleton.mp hb] at e
    subst e
    exact look_none.mp hn ha
end
theorem lookD_n (l : List (Str × Nat)) (s : Str) : lookD (namD l) (.str s) = (look1 l s).map fun n => .int (n : Int) := lookD_map (f := D.str) (fun a => eqK_s a s) l
theorem lookD_l (l : List ((Nat × Str) × Nat)) (k : Nat × Str) : lookD (leaD l) (leK k) = (look1 l k).map fun n => .int (n : Int) := lookD_map (f := leK) (fun a => eqK_l a k) l
theorem setD_n (l : List (Str × Nat)) (s : Str) (v : Nat) : setD (namD l) (.str s) (.int (v : Int)) = namD (put1 l s v) := setD_map (f := D.str) (fun a => eqK_s a s) rfl l v
theorem setD_l (l : List ((Nat × Str) × Nat)) (k : Nat × Str) (v : Nat) : setD (leaD l) (leK k) (.int (v : Int)) = leaD (put1 l k v) := setD_map (f := leK) (fun a => eqK_l a k) rfl l v
theorem namD_len (l : List (Str × Nat)) : (namD l).length = l.length := List.length_map ..
theorem leaD_len (l : List ((Nat × Str) × Nat)) : (leaD l).length = l.length := List.length_map ..
theorem leK_of (a : Nat) (s : Str) : D.tup [.int (a : Int), .str s] = leK (a, s) := rfl
theorem fit_l (k : Nat × Str) : keyFit 1 (leK k) = true := rfl
theorem fit_n (s : Str) : keyFit 0 (.str s) = true := rfl
def plusS (p : Str) : Str := ("+" : Str) ++ p
def minusS (p : Str) : Str := ("-" : Str) ++ p
theorem plus_inj {p q : Str} (h : plusS p = plusS q) : p = q := by
  refine str_ext ?_
  have e : (plusS p).cps.toList = (plusS q).cps.toList := by rw [h]
  unfold plusS at e
  rw [str_app, str_app] at e
  exact List.append_cancel_left e
theorem minus_inj {p q : Str} (h : minusS p = minusS q) : p = q := by
  refine str_ext ?_
  have e : (minusS p).cps.toList = (minusS q).cps.toList := by rw [h]
  unfold minusS at e
  rw [str_app, str_app] at e
  exact List.append_cancel_left e
theorem plus_minus (p q : Str) : plusS p ≠ minusS q := fun h => by
  have e : (plusS p).cps.toList = (minusS q).cps.toList := by rw [h]
  unfold plusS minusS at e
  rw [str_app, str_app, plus_tl, minus_tl] at e
  injection e with e1
  exact absurd e1 (by decide)
structure LeaOk (n : Nat) (patches : List Str) (l : List ((Nat × Str) × Nat)) : Prop where
  lea : ∀ p ∈ l, p.1.1 < n ∧ p.2 < n ∧ ∃ q ∈ patches, p.1.2 = plusS q ∨ p.1.2 = minusS q
  pair : ∀ a b q, look1 l (a, plusS q) = some b ↔ look1 l (b, minusS q) = some a
  nodup : (l.map (·.1)).Nodup
structure StoOk (S : Sto) (starts patches : List Str) : Prop where
  pos : 1 ≤ S.size
  le : S.size ≤ 60
  nkey : ∀ s, (look1 S.names s).isSome = true ↔ s ∈ starts
  nval : ∀ p ∈ S.names, p.2 < S.size
  nodup : (S.names.map (·.1)).Nodup
  nlen : S.names.length ≤ 100
  llen : S.leads.length ≤ 10000
  lea : LeaOk S.size patches S.leads
theorem LeaOk.nil (n : Nat) (ps : List Str) : LeaOk n ps [] := ⟨(fun _ h => nomatch h), fun _ _ _ => ⟨(fun h => nomatch h), (fun h => nomatch h)⟩, List.nodup_nil⟩
theorem LeaOk.add {n : Nat} {ps : List Str} {l : List ((Nat × Str) × Nat)} (h : LeaOk n ps l) {a b : Nat} {p : Str} (ha : a < n) (hb : b < n) (hp : p ∈ ps) (h1 : look1 l (a, plusS p) = none) (h2 : look1 l (b, minusS p) = none) :
    LeaOk n ps (put1 (put1 l (a, plusS p) b) (b, minusS p) a) where
  lea := fun x hx => by
    rcases mem_put hx with hx | rfl
    · rcases mem_put hx with hx | rfl
      · exact h.lea x hx
      · exact ⟨ha, hb, p, hp, .inl rfl⟩
    · exact ⟨hb, ha, p, hp, .inr rfl⟩
  pair := fun c d q => by
    rw [look_put, look_put, look_put, look_put]
    have n1 : ¬ ((c, plusS q) = (b, minusS p)) := fun e => plus_minus _ _ (Prod.mk.inj e).2
    have n2 : ¬ ((d, minusS q) = (a, plusS p)) := fun e => plus_minus _ _ (Prod.mk.inj e).2.symm
    rw [if_neg n1, if_neg n2]
    by_cases c1 : (c, plusS q) = (a, plusS p)
    · obtain ⟨e1, e2⟩ := Prod.mk.inj c1
      have e2 := plus_inj e2
      subst e1; subst e2
      rw [if_pos rfl]
      by_cases c2 : (d, minusS q) = (b, minusS q)
      · rw [if_pos c2, (Prod.mk.inj c2).1]
        exact ⟨fun _ => rfl, fun _ => rfl⟩
      · rw [if_neg c2, ← h.pair, h1]
        exact ⟨fun e => absurd (by rw [Option.some.inj e]) c2, (fun e => nomatch e)⟩
    · rw [if_neg c1]
      by_cases c2 : (d, minusS q) = (b, minusS p)
      · obtain ⟨e1, e2⟩ := Prod.mk.inj c2
        have e2 := minus_inj e2
        subst e1; subst e2
        rw [if_pos rfl, h.pair, h2]
        exact ⟨(fun e => nomatch e), fun e => absurd (by rw [Option.some.inj e]) c1⟩
      · rw [if_neg c2]
        exact h.pair c d q
  nodup := put_nodup (put_nodup h.nodup)

end
section
theorem store_ex (ns : List Int) (k : Nat) (hk : k < 2 ^ 58) (starts patches : List Str) (h1 : starts.length ≤ 60) (h2 : patches.length ≤ 100) (h4 : ∀ s ∈ patches, nameB s = true) :
    ∃ S : Sto, m__law_store [.scr ns, .int (k : Int), .lst (txts starts), .lst (txts patches)] = .ok (stoD S) ∧ StoOk S starts patches ∧ S.size ≤ 6 := by
  have key : ∃ d, m__law_store [.scr ns, .int (k : Int), .lst (txts starts), .lst (txts patches)] = .ok d ∧ ∃ S : Sto, d = stoD S ∧ StoOk S starts patches ∧ S.size ≤ 6 := by
    refine m_ex ?_
    unfold b__law_store
    have d0 : m__law_draw [.scr ns, .int (k : Int), .int 0] = .ok (.int (dr ns k 0)) := draw_nn ns k 0 (by omega) (by decide)
    have d1 : m__law_draw [.scr ns, .int (k : Int), .int 1] = .ok (.int (dr ns k 1)) := draw_nn ns k 1 (by omega) (by decide)
    rw [seq_eq]
    simp only [setS_eq, op2_eq, aE_eq, consA_eq, nilA_eq, env0, getP_eq, cE_eq, List.map_cons, List.map_nil, List.cons_append, List.nil_append, List.length_cons, List.length_nil, List.replicate, Nat.reduceSub, Nat.reduceAdd, gz_, gs_, rGet_ok, rC_ok, r1_ok, r2_ok, d0, mod_int (show (0 : Int) < 6 by decide), add_int, rSet_ok, rSeq_nx, sz_, ss_]
    obtain ⟨n, hn, hn1, hn6⟩ : ∃ n : Nat, 1 + dr ns k 0 % 6 = (n : Int) ∧ 1 ≤ n ∧ n ≤ 6 := by
      have a0 := Int.emod_nonneg (dr ns k 0) (show (6 : Int) ≠ 0 by decide)
      have a1 := Int.emod_lt_of_pos (dr ns k 0) (show (0 : Int) < 6 by decide)
      exact ⟨(1 + dr ns k 0 % 6).toNat, by omega, by omega, by omega⟩
    rw [hn]
    have hnp : (0 : Int) < (n : Int) := by omega
    rw [seq_eq]
    simp only [setS_eq, op2_eq, aE_eq, consA_eq, nilA_eq, getP_eq, cE_eq, gz_, gs_, rGet_ok, rC_ok, r1_ok, r2_ok, d1, mod_int (show (0 : Int) < 4 by decide), rSet_ok, rSeq_nx, sz_, ss_]
    generalize dr ns k 1 % 4 = gaps
    rw [seq_eq]
    simp only [ownS_eq, cE_eq, rOwn_ok, rSeq_nx, sz_, ss_]
    rw [seq_eq]
    refine Sat.rseq ?_
    let I : Nat → Env → Prop := fun i env => ∃ (l : List ((Nat × Str) × Nat)) (x y z w : Sl), env = [.sh (.scr ns), .sh (.int (k : Int)), .sh (.lst (txts starts)), .sh (.lst (txts patches)), .sh (.int (n : Int)), .sh (.int gaps), .ow (.dic 1 (leaD l)), x, .no, y, z, w] ∧ l.length ≤ 2 * i ∧ LeaOk n patches l
    with_reducible refine Sat.forS I (ds := rangeD 0 (6 * patches.length)) ?_ ?_ ?_ ?_
    · simp_arith [txts_len, mul_int (i := 6) (j := (patches.length : Int)) (by
        have e1 : (6 : Int).natAbs.log2 ≤ 10 := by decide
        have e2 : ((patches.length : Int)).natAbs.log2 ≤ 100 := by
          rw [Int.natAbs_natCast]
          exact Nat.le_trans (Nat.log2_le_self _) h2
        omega)]
      rw [show (6 : Int) * (patches.length : Int) = ((6 * patches.length : Nat) : Int) by omega, range1_nat (by omega)]
    · exact ⟨[], _, _, _, _, rfl, Nat.zero_le _, LeaOk.nil _ _⟩
    · rintro i d env hd ⟨l, x, y, z, w, rfl, hl, hok⟩
      obtain ⟨hi, rfl⟩ := rangeD_get hd
      refine ⟨_, rfl, ?_⟩
      have d2 : m__law_draw [.scr ns, .int (k : Int), .int (2 + (0 + (i : Int)))] = .ok (.int (dr ns k (2 + (0 + (i : Int))))) := (draw_all ns k _ (by omega) (by omega) (by omega) (by omega)).1
      generalize dr ns k (2 + (0 + (i : Int))) = z0 at d2
      have hi6 : i / 6 < patches.length := by omega
      have gq : patches[i / 6]? = some (patches[i / 6]'hi6) := List.getElem?_eq_getElem hi6
      generalize patches[i / 6]'hi6 = p at gq
      have hp := List.mem_of_getElem? gq
      have gp : seqGet (txts patches) ((0 + (i : Int)) / 6) = .ok (.str p) := by
        rw [show (0 + (i : Int)) / 6 = ((i / 6 : Nat) : Int) by omega]
        exact txts_get gq
      obtain ⟨_, _, _, _, _, hpl⟩ := name_parts (h4 p hp)
      have e1 : addD (.str "+") (.str p) = .ok (.str (plusS p)) := add_str (le_line (by rw [show ("+" : Str).length = 1 by decide +kernel]; omega))
      have e2 : addD (.str "-") (.str p) = .ok (.str (minusS p)) := add_str (le_line (by rw [show ("-" : Str).length = 1 by decide +kernel]; omega))
      have t2 : ∀ a b : D, tupD [a, b] = .ok (.tup [a, b]) := fun a b => tup_ok (le_line (show 2 ≤ 1000000 by decide))
      obtain ⟨b, hb, hbn⟩ : ∃ b : Nat, z0 % (n : Int) = (b : Int) ∧ b < n := by
        have a0 := Int.emod_nonneg z0 (show (n : Int) ≠ 0 by omega)
        have a1 := Int.emod_lt_of_pos z0 hnp
        exact ⟨(z0 % (n : Int)).toNat, by omega, by omega⟩
      have m6 : (0 + (i : Int)) % 6 = ((i % 6 : Nat) : Int) := by omega
      have nx : ∀ q, notInX (leK q) (.dic 1 (leaD l)) = .ok (.bl (!(look1 l q).isSome)) := fun q => by
        show (if keyFit 1 (leK q) = true then Res.ok (D.bl (!(lookD (leaD l) (leK q)).isSome)) else .bad) = _
        rw [if_pos (fit_l q), lookD_l, Option.isSome_map]
      have hlt1 : (leaD l).length < sizeLine := by
        rw [leaD_len]
        exact Nat.lt_of_lt_of_le (show l.length < 1000000 by omega) (le_line (Nat.le_refl _))
      have hlt2 : ∀ q v, (leaD (put1 l q v)).length < sizeLine := fun q v => by
        rw [leaD_len]
        have := put_len (l := l) (key := q) (v := v)
        exact Nat.lt_of_lt_of_le (show (put1 l q v).length < 1000000 by omega) (le_line (Nat.le_refl _))
      simp only [seq_eq, setS_eq, op2_eq, aE_eq, consA_eq, nilA_eq, getP_eq, cE_eq, gz_, gs_, rGet_ok, rC_ok, r1_ok, r2_ok, add_int, d2, mod_int (show (0 : Int) < 6 by decide), fdiv_int (show (0 : Int) < 6 ∧ (6 : Int) < 1073741824 by decide), get_lst, gp, e1, e2, t2, mod_int hnp, hb, m6, leK_of, rSet_ok, rSeq_nx, sz_, ss_]
      simp only [ifS_eq, andT_eq, tE_eq, op2_eq, getP_eq, getB_eq, cE_eq, gz_, gs_, rGet_ok, rGetB_ow, r2_ok, mod_int (show (0 : Int) < 6 by decide), m6, lt_int, r1_ok, toB_ok, fdiv_int (show (0 : Int) < 8 ∧ (8 : Int) < 1073741824 by decide), mod_int (show (0 : Int) < 4 by decide), ge_int, nx, rAnd_ok]
      refine Sat.ifb (fun c => ?_) (fun c => ?_)
      · simp only [Bool.and_eq_true, decide_eq_true_eq, Bool.not_eq_true', Option.isSome_eq_false_iff, Option.isNone_iff_eq_none] at c
        obtain ⟨c1, c2, c3, c4⟩ := c
        have hn2 : look1 (put1 l (i % 6, plusS p) b) (b, minusS p) = none := by
          rw [look_put, if_neg (fun e => plus_minus _ _ (Prod.mk.inj e).2.symm)]
          exact c4
        simp_arith [mod_int hnp, hb, fit_l, hlt1, true_and, setD_l, hlt2, mod_int (show (0 : Int) < 6 by decide), m6]
        exact ⟨_, _, _, _, _, rfl, by
          have a1 := put_len (l := l) (key := (i % 6, plusS p)) (v := b)
          have a2 := put_len (l := put1 l (i % 6, plusS p) b) (key := (b, minusS p)) (v := i % 6)
          omega, hok.add (by omega) hbn hp c3 c4⟩
      · simp_arith []
        exact ⟨l, _, _, _, _, rfl, by omega, hok⟩
    · rintro env ⟨l, x, y, z, w, rfl, hl, hok⟩
      rw [rangeD_len] at hl
      rw [thn_nx, seq_eq]
      simp only [ownS_eq, cE_eq, rOwn_ok, rSeq_nx, sz_, ss_]
      rw [seq_eq]
      refine Sat.rseq ?_
      let J : Nat → Env → Prop := fun i env => ∃ (m : List (Str × Nat)) (x : Sl), env = [.sh (.scr ns), .sh (.int (k : Int)), .sh (.lst (txts starts)), .sh (.lst (txts patches)), .sh (.int (n : Int)), .sh (.int gaps), .ow (.dic 1 (leaD l)), x, .ow (.dic 0 (namD m)), y, z, w] ∧ m.length ≤ i ∧ (∀ s, (look1 m s).isSome = true ↔ s ∈ starts.take i) ∧ (∀ p ∈ m, p.2 < n) ∧ (m.map (·.1)).Nodup
      with_reducible refine Sat.forS J (ds := rangeD 0 starts.length) ?_ ?_ ?_ ?_
      · simp_arith [txts_len]
        rw [range1_nat (by omega)]
      · exact ⟨[], _, rfl, Nat.zero_le _, fun s => by simp [look_nil], (fun _ h => nomatch h), List.nodup_nil⟩
      · rintro i d env hd ⟨m, x, rfl, hml, hmk, hmv, hmd⟩
        obtain ⟨hi, rfl⟩ := rangeD_get hd
        refine ⟨_, rfl, ?_⟩
        have gi : starts[i]? = some (starts[i]'hi) := List.getElem?_eq_getElem hi
        have htk : starts.take (i + 1) = starts.take i ++ [starts[i]'hi] := by rw [List.take_succ, gi]; rfl
        generalize starts[i]'hi = s at gi htk
        have gs : seqGet (txts starts) (0 + (i : Int)) = .ok (.str s) := by
          rw [show (0 : Int) + (i : Int) = (i : Int) by omega]
          exact txts_get gi
        have d2 : m__law_draw [.scr ns, .int (k : Int), .int (40 + (0 + (i : Int)))] = .ok (.int (dr ns k (40 + (0 + (i : Int))))) := (draw_all ns k _ (by omega) (by omega) (by omega) (by omega)).1
        generalize dr ns k (40 + (0 + (i : Int))) = z0 at d2
        obtain ⟨b, hb, hbn⟩ : ∃ b : Nat, z0 % (n : Int) = (b : Int) ∧ b < n := by
          have a0 := Int.emod_nonneg z0 (show (n : Int) ≠ 0 by omega)
          have a1 := Int.emod_lt_of_pos z0 hnp
          exact ⟨(z0 % (n : Int)).toNat, by omega, by omega⟩
        have hlt1 : (namD m).length < sizeLine := by
          rw [namD_len]
          exact Nat.lt_of_lt_of_le (show m.length < 1000000 by omega) (le_line (Nat.le_refl _))
        simp_arith [gs, d2, mod_int hnp, hb, fit_n, hlt1, true_and, setD_n]
        refine ⟨_, _, rfl, by have := put_len (l := m) (key := s) (v := b); omega, fun t => ?_, fun p hp => ?_, put_nodup hmd⟩
        · rw [look_put, htk, List.mem_append, List.mem_singleton]
          by_cases c : t = s
          · rw [if_pos c]; simp [c]
          · rw [if_neg c, hmk]; simp [c]
        · rcases mem_put hp with hp | rfl
          · exact hmv p hp
          · exact hbn
      · rintro env ⟨m, x, rfl, hml, hmk, hmv, hmd⟩
        rw [rangeD_len] at hml hmk
        rw [List.take_of_length_le (Nat.le_refl _)] at hmk
        simp_arith []
        exact ⟨⟨n, m, l⟩, rfl, ⟨hn1, by show n ≤ 60; omega, hmk, hmv, hmd, by show m.length ≤ 100; omega, by show l.length ≤ 10000; omega, hok⟩, hn6⟩
  obtain ⟨d, h, S, rfl, h'⟩ := key
  exact ⟨S, h, h'⟩

end
section
theorem modn {z : Int} {n : Nat} (h : 1 ≤ n) : ∃ b : Nat, z % (n : Int) = (b : Int) ∧ b < n := by
  have a0 := Int.emod_nonneg z (show (n : Int) ≠ 0 by omega)
  have a1 := Int.emod_lt_of_pos z (show (0 : Int) < (n : Int) by omega)
  exact ⟨(z % (n : Int)).toNat, by omega, by omega⟩
theorem line_lt {n : Nat} (h : n < 1000000) : n < sizeLine := Nat.lt_of_lt_of_le h (le_line (Nat.le_refl _))
theorem big_store_ex (ns : List Int) (k : Nat) (hk : k < 2 ^ 58) (starts patches : List Str) (h1 : starts.length ≤ 60) (h2 : patches.length ≤ 60) (h4 : ∀ s ∈ patches, nameB s = true) :
    ∃ S : Sto, m__law_big_store [.scr ns, .int (k : Int), .lst (txts starts), .lst (txts patches)] = .ok (stoD S) ∧ StoOk S starts patches := by
  have key : ∃ d, m__law_big_store [.scr ns, .int (k : Int), .lst (txts starts), .lst (txts patches)] = .ok d ∧ ∃ S : Sto, d = stoD S ∧ StoOk S starts patches := by
    refine m_ex ?_
    unfold b__law_big_store
    have d0 : m__law_draw [.scr ns, .int (k : Int), .int 0] = .ok (.int (dr ns k 0)) := draw_nn ns k 0 (by omega) (by decide)
    have h54 : (0 : Int) < 54 := by decide
    rw [seq_eq]
    simp only [setS_eq, op2_eq, aE_eq, consA_eq, nilA_eq, env0, getP_eq, cE_eq, List.map_cons, List.map_nil, List.cons_append, List.nil_append, List.length_cons, List.length_nil, List.replicate, Nat.reduceSub, Nat.reduceAdd, gz_, gs_, rGet_ok, rC_ok, r1_ok, r2_ok, d0, mod_int h54, add_int, rSet_ok, rSeq_nx, sz_, ss_]
    obtain ⟨n, hn, hn1, hn6⟩ : ∃ n : Nat, 7 + dr ns k 0 % 54 = (n : Int) ∧ 1 ≤ n ∧ n ≤ 60 := by
      have a0 := Int.emod_nonneg (dr ns k 0) (show (54 : Int) ≠ 0 by decide)
      have a1 := Int.emod_lt_of_pos (dr ns k 0) (show (0 : Int) < 54 by decide)
      exact ⟨(7 + dr ns k 0 % 54).toNat, by omega, by omega, by omega⟩
    rw [hn]
    have hnp : (0 : Int) < (n : Int) := by omega
    rw [seq_eq]
    simp only [ownS_eq, cE_eq, rOwn_ok, rSeq_nx, sz_, ss_]
    rw [seq_eq]
    refine Sat.rseq ?_
    let I : Nat → Env → Prop := fun i env => ∃ (l : List ((Nat × Str) × Nat)) (x6 x8 x9 x10 x11 : Sl), env = [.sh (.scr ns), .sh (.int (k : Int)), .sh (.lst (txts starts)), .sh (.lst (txts patches)), .sh (.int (n : Int)), .ow (.dic 1 (leaD l)), x6, .no, x8, x9, x10, x11] ∧ l.length ≤ 120 * i ∧ LeaOk n patches l
    with_reducible refine Sat.forS I (ds := rangeD 0 patches.length) ?_ ?_ ?_ ?_
    · simp_arith [txts_len]
      rw [range1_nat (by omega)]
    · exact ⟨[], _, _, _, _, _, rfl, Nat.zero_le _, LeaOk.nil _ _⟩
    · rintro i d env hd ⟨l, x6, x8, x9, x10, x11, rfl, hl, hok⟩
      obtain ⟨hi, rfl⟩ := rangeD_get hd
      refine ⟨_, rfl, ?_⟩
      have d1 : m__law_draw [.scr ns, .int (k : Int), .int (1 + (0 + (i : Int)))] = .ok (.int (dr ns k (1 + (0 + (i : Int))))) := (draw_all ns k _ (by omega) (by omega) (by omega) (by omega)).1
      have d2 : m__law_draw [.scr ns, .int (k : Int), .int (11 + (0 + (i : Int)))] = .ok (.int (dr ns k (11 + (0 + (i : Int))))) := (draw_all ns k _ (by omega) (by omega) (by omega) (by omega)).1
      generalize dr ns k (1 + (0 + (i : Int))) = z1 at d1
      generalize dr ns k (11 + (0 + (i : Int))) = z2 at d2
      obtain ⟨sh, hsh, hshn⟩ := modn (z := z1) hn1
      obtain ⟨c, hc, hcn⟩ := modn (z := z2) hn1
      have gq : patches[i]? = some (patches[i]'hi) := List.getElem?_eq_getElem hi
      generalize patches[i]'hi = p at gq
      have hp := List.mem_of_getElem? gq
      have gp : seqGet (txts patches) (0 + (i : Int)) = .ok (.str p) := by
        rw [show (0 : Int) + (i : Int) = (i : Int) by omega]
        exact txts_get gq
      obtain ⟨_, _, _, _, _, hpl⟩ := name_parts (h4 p hp)
      have e1 : addD (.str "+") (.str p) = .ok (.str (plusS p)) := add_str (le_line (by rw [show ("+" : Str).length = 1 by decide +kernel]; omega))
      have e2 : addD (.str "-") (.str p) = .ok (.str (minusS p)) := add_str (le_line (by rw [show ("-" : Str).length = 1 by decide +kernel]; omega))
      have t2 : ∀ a b : D, tupD [a, b] = .ok (.tup [a, b]) := fun a b => tup_ok (le_line (show 2 ≤ 1000000 by decide))
      have nx : ∀ (l : List ((Nat × Str) × Nat)) q, notInX (leK q) (.dic 1 (leaD l)) = .ok (.bl (!(look1 l q).isSome)) := fun l q => by
        show (if keyFit 1 (leK q) = true then Res.ok (D.bl (!(lookD (leaD l) (leK q)).isSome)) else .bad) = _
        rw [if_pos (fit_l q), lookD_l, Option.isSome_map]
      rw [seq_eq]
      simp only [setS_eq, op2_eq, aE_eq, consA_eq, nilA_eq, getP_eq, cE_eq, gz_, gs_, rGet_ok, rC_ok, r1_ok, r2_ok, add_int, d1, mod_int hnp, hsh, rSet_ok, rSeq_nx, sz_, ss_]
      rw [seq_eq]
      simp only [setS_eq, op2_eq, aE_eq, consA_eq, nilA_eq, getP_eq, cE_eq, gz_, gs_, rGet_ok, rC_ok, r1_ok, r2_ok, add_int, d2, mod_int hnp, hc, rSet_ok, rSeq_nx, sz_, ss_]
      let J : Nat → Env → Prop := fun j env => ∃ (m : List ((Nat × Str) × Nat)) (x10 x11 : Sl), env = [.sh (.scr ns), .sh (.int (k : Int)), .sh (.lst (txts starts)), .sh (.lst (txts patches)), .sh (.int (n : Int)), .ow (.dic 1 (leaD m)), .sh (.int (0 + (i : Int))), .no, .sh (.int (sh : Int)), .sh (.int (1 + (c : Int))), x10, x11] ∧ m.length ≤ 120 * i + 2 * j ∧ LeaOk n patches m
      with_reducible refine Sat.forS J (ds := rangeD 0 (1 + c)) ?_ ?_ ?_ ?_
      · simp_arith []
        rw [show (1 : Int) + (c : Int) = ((1 + c : Nat) : Int) by omega, range1_nat (by omega)]
      · exact ⟨l, x10, x11, rfl, by omega, hok⟩
      · rintro j d env hd ⟨m, x10, x11, rfl, hm, hmo⟩
        obtain ⟨hj, rfl⟩ := rangeD_get hd
        refine ⟨_, rfl, ?_⟩
        obtain ⟨b, hb, hbn⟩ := modn (z := 0 + (j : Int) + (sh : Int)) hn1
        have hj0 : (0 : Int) + (j : Int) = ((j : Nat) : Int) := by omega
        have hlt1 : (leaD m).length < sizeLine := by rw [leaD_len]; exact line_lt (by omega)
        have hlt2 : ∀ q v, (leaD (put1 m q v)).length < sizeLine := fun q v => by
          rw [leaD_len]
          have := put_len (l := m) (key := q) (v := v)
          exact line_lt (by omega)
        rw [hj0] at hb
        rw [seq_eq]
        simp only [setS_eq, op2_eq, aE_eq, consA_eq, nilA_eq, getP_eq, cE_eq, gz_, gs_, rGet_ok, rC_ok, r1_ok, r2_ok, add_int, int_int, mod_int hnp, hj0, hb, rSet_ok, rSeq_nx, sz_, ss_]
        simp only [ifS_eq, andT_eq, tE_eq, op2_eq, aE_eq, consA_eq, nilA_eq, getP_eq, getB_eq, cE_eq, gz_, gs_, rGet_ok, rGetB_ow, rC_ok, r2_ok, get_lst, gp, e1, e2, r1_ok, t2, leK_of, nx, toB_ok, rAnd_ok]
        refine Sat.ifb (fun q => ?_) (fun q => ?_)
        · simp only [Bool.and_eq_true, Bool.not_eq_true', Option.isSome_eq_false_iff, Option.isNone_iff_eq_none] at q
          obtain ⟨c3, c4⟩ := q
          simp_arith [gp, e1, e2, t2, leK_of, fit_l, hlt1, true_and, setD_l, hlt2]
          exact ⟨_, _, _, rfl, by
            have a1 := put_len (l := m) (key := (j, plusS p)) (v := b)
            have a2 := put_len (l := put1 m (j, plusS p) b) (key := (b, minusS p)) (v := j)
            omega, hmo.add (by omega) hbn hp c3 c4⟩
        · simp_arith []
          exact ⟨m, _, _, rfl, by omega, hmo⟩
      · rintro env ⟨m, x10, x11, rfl, hm, hmo⟩
        rw [rangeD_len] at hm
        exact ⟨m, _, _, _, _, _, rfl, by omega, hmo⟩
    · rintro env ⟨l, x6, x8, x9, x10, x11, rfl, hl, hok⟩
      rw [rangeD_len] at hl
      rw [thn_nx, seq_eq]
      simp only [ownS_eq, cE_eq, rOwn_ok, rSeq_nx, sz_, ss_]
      rw [seq_eq]
      refine Sat.rseq ?_
      let J : Nat → Env → Prop := fun i env => ∃ (m : List (Str × Nat)) (x : Sl), env = [.sh (.scr ns), .sh (.int (k : Int)), .sh (.lst (txts starts)), .sh (.lst (txts patches)), .sh (.int (n : Int)), .ow (.dic 1 (leaD l)), x, .ow (.dic 0 (namD m)), x8, x9, x10, x11] ∧ m.length ≤ i ∧ (∀ s, (look1 m s).isSome = true ↔ s ∈ starts.take i) ∧ (∀ p ∈ m, p.2 < n) ∧ (m.map (·.1)).Nodup
      with_reducible refine Sat.forS J (ds := rangeD 0 starts.length) ?_ ?_ ?_ ?_
      · simp_arith [txts_len]
        rw [range1_nat (by omega)]
      · exact ⟨[], _, rfl, Nat.zero_le _, fun s => by simp [look_nil], (fun _ h => nomatch h), List.nodup_nil⟩
      · rintro i d env hd ⟨m, x, rfl, hml, hmk, hmv, hmd⟩
        obtain ⟨hi, rfl⟩ := rangeD_get hd
        refine ⟨_, rfl, ?_⟩
        have gi : starts[i]? = some (starts[i]'hi) := List.getElem?_eq_getElem hi
        have htk : starts.take (i + 1) = starts.take i ++ [starts[i]'hi] := by rw [List.take_succ, gi]; rfl
        generalize starts[i]'hi = s at gi htk
        have gs : seqGet (txts starts) (0 + (i : Int)) = .ok (.str s) := by
          rw [show (0 : Int) + (i : Int) = (i : Int) by omega]
          exact txts_get gi
        have d2 : m__law_draw [.scr ns, .int (k : Int), .int (21 + (0 + (i : Int)))] = .ok (.int (dr ns k (21 + (0 + (i : Int))))) := (draw_all ns k _ (by omega) (by omega) (by omega) (by omega)).1
        generalize dr ns k (21 + (0 + (i : Int))) = z0 at d2
        obtain ⟨b, hb, hbn⟩ := modn (z := z0) hn1
        have hlt1 : (namD m).length < sizeLine := by rw [namD_len]; exact line_lt (by omega)
        simp_arith [gs, d2, mod_int hnp, hb, fit_n, hlt1, true_and, setD_n]
        refine ⟨_, _, rfl, by have := put_len (l := m) (key := s) (v := b); omega, fun t => ?_, fun p hp => ?_, put_nodup hmd⟩
        · rw [look_put, htk, List.mem_append, List.mem_singleton]
          by_cases c : t = s
          · rw [if_pos c]; simp [c]
          · rw [if_neg c, hmk]; simp [c]
        · rcases mem_put hp with hp | rfl
          · exact hmv p hp
          · exact hbn
      · rintro env ⟨m, x, rfl, hml, hmk, hmv, hmd⟩
        rw [rangeD_len] at hml hmk
        rw [List.take_of_length_le (Nat.le_refl _)] at hmk
        simp_arith []
        exact ⟨⟨n, m, l⟩, rfl, ⟨hn1, by show n ≤ 60; omega, hmk, hmv, hmd, by show m.length ≤ 100; omega, by show l.length ≤ 10000; omega, hok⟩⟩
  obtain ⟨d, h, S, rfl, h'⟩ := key
  exact ⟨S, h, h'⟩

end
section
theorem inZ_o (l : List ((Nat × Str) × Nat)) (a : Option Nat) (s : Str) : inZ (.tup [oD a, .str s]) (.dic 1 (leaD l)) = .ok (.bl (a.bind fun x => look1 l (x, s)).isSome) := by
  cases a with
  | none => exact inZ_none rfl rfl
  | some x =>
    refine (inZ_fit (fit_l (x, s))).trans ?_
    show Res.ok (D.bl (lookD (leaD l) (leK (x, s))).isSome) = .ok (.bl (look1 l (x, s)).isSome)
    rw [lookD_l, Option.isSome_map]
theorem getS0 (S : Sto) : getD (stoD S) (.int 0) = .ok (.int (S.size : Int)) := by unfold stoD; rw [get_lst]; exact @seqGet_of _ 0 _ rfl
theorem getS1 (S : Sto) : getD (stoD S) (.int 1) = .ok (.dic 0 (namD S.names)) := by unfold stoD; rw [get_lst]; exact @seqGet_of _ 1 _ rfl
theorem getS2 (S : Sto) : getD (stoD S) (.int 2) = .ok (.dic 1 (leaD S.leads)) := by unfold stoD; rw [get_lst]; exact @seqGet_of _ 2 _ rfl
theorem getL {S : Sto} {k : Nat × Str} {a : Nat} (h : look1 S.leads k = some a) : getD (.dic 1 (leaD S.leads)) (leK k) = .ok (.int (a : Int)) := getD_fit (fit_l k) (by rw [lookD_l, h]; rfl)
theorem listX_n (l : List (Str × Nat)) : listX [.dic 0 (namD l)] = .ok (.lst (txts (l.map (·.1)))) := by
  show Res.ok (D.lst ((namD l).map (·.1))) = _
  unfold namD txts
  rw [List.map_map, List.map_map]
  rfl
def mapS (f : Str → Str) : D → D
  | .str s => .str (f s)
  | d => d
theorem map_txts (f : Str → Str) (l : List Str) : (txts l).map (mapS f) = txts (l.map f) := by
  unfold txts
  rw [List.map_map, List.map_map]
  rfl
end
section
abbrev Mv := Nat × Str × Nat
def tailS (s : Str) : Str := cutS s (some 1) none
def isPl (s : Str) : Bool := decide (s.cps.toList.head? = some 43)
def mvL : List ((Nat × Str) × Nat) → List Mv
  | [] => []
  | p :: l => if isPl p.1.2 = true then (p.1.1, tailS p.1.2, p.2) :: mvL l else mvL l
def mvT (m : Mv) : D := .tup [.int (m.1 : Int), .str m.2.1, .int (m.2.2 : Int)]
def mvD (ms : List Mv) : List D := ms.map mvT
theorem pl_plus (q : Str) : isPl (plusS q) = true ∧ tailS (plusS q) = q := by
  have e : (plusS q).cps.toList = 43 :: q.cps.toList := by unfold plusS; rw [str_app, plus_tl]; rfl
  refine ⟨by unfold isPl; rw [e]; rfl, str_ext ?_⟩
  unfold tailS
  rw [show (1 : Int) = ((1 : Nat) : Int) from rfl, cutS_from, e]; rfl
theorem pl_minus (q : Str) : isPl (minusS q) = false := by
  have e : (minusS q).cps.toList = 45 :: q.cps.toList := by unfold minusS; rw [str_app, minus_tl]; rfl
  unfold isPl
  rw [e]; rfl
theorem mv_mem {l : List ((Nat × Str) × Nat)} {n : Nat} {ps : List Str} (h : LeaOk n ps l) {a b : Nat} {q : Str} : (a, q, b) ∈ mvL l ↔ ((a, plusS q), b) ∈ l := by
  have go : ∀ m : List ((Nat × Str) × Nat), (∀ p ∈ m, ∃ q, p.1.2 = plusS q ∨ p.1.2 = minusS q) → ((a, q, b) ∈ mvL m ↔ ((a, plusS q), b) ∈ m) := fun m => by
    induction m with
    | nil => exact fun _ => ⟨(fun h => by cases h), (fun h => by cases h)⟩
    | cons p m ih =>
      intro hm
      have ih := ih fun p hp => hm p (List.mem_cons_of_mem _ hp)
      obtain ⟨⟨x, s⟩, y⟩ := p
      obtain ⟨u, hu⟩ := hm _ (List.mem_cons_self ..)
      show (a, q, b) ∈ (if isPl s = true then (x, tailS s, y) :: mvL m else mvL m) ↔ _
      rcases hu with hu | hu
      · have hu : s = plusS u := hu
        subst hu
        rw [if_pos (pl_plus u).1, (pl_plus u).2, List.mem_cons, List.mem_cons, ih]
        constructor
        · rintro (e | e)
          · cases e; exact .inl rfl
          · exact .inr e
        · rintro (e | e)
          · obtain ⟨e1, e2⟩ := Prod.mk.inj e
            obtain ⟨e3, e4⟩ := Prod.mk.inj e1
            rw [e3, e2, plus_inj e4]; exact .inl rfl
          · exact .inr e
      · have hu : s = minusS u := hu
        subst hu
        rw [if_neg (by rw [pl_minus]; exact Bool.false_ne_true), ih, List.mem_cons]
        exact ⟨.inr, fun e => e.resolve_left fun z => plus_minus _ _ (Prod.mk.inj (Prod.mk.inj z).1).2⟩
  exact go l fun p hp => by obtain ⟨_, _, q, _, e⟩ := h.lea p hp; exact ⟨q, e⟩
theorem look_of_mem {α : Type} [DecidableEq α] {k : α} {v : Nat} : ∀ {l : List (α × Nat)}, (l.map (·.1)).Nodup → (k, v) ∈ l → look1 l k = some v
  | [], _, h => by cases h
  | p :: l, n, h => by
    rw [List.map_cons, List.nodup_cons] at n
    rw [look_cons]
    rcases List.mem_cons.mp h with e | h
    · rw [← e, if_pos rfl]
    · rw [if_neg (fun e => n.1 (by rw [e]; exact List.mem_map_of_mem (f := (·.1)) h)), look_of_mem n.2 h]
theorem mv_look {l : List ((Nat × Str) × Nat)} {n : Nat} {ps : List Str} (h : LeaOk n ps l) {a b : Nat} {q : Str} : (a, q, b) ∈ mvL l ↔ look1 l (a, plusS q) = some b := by
  rw [mv_mem h]
  exact ⟨look_of_mem h.nodup, look_mem⟩
structure MvOk (n : Nat) (ps : List Str) (ms : List Mv) : Prop where
  rng : ∀ m ∈ ms, m.1 < n ∧ m.2.2 < n ∧ m.2.1 ∈ ps
  fwd : ms.Pairwise fun x y => ¬ (x.1 = y.1 ∧ x.2.1 = y.2.1)
  bwd : ms.Pairwise fun x y => ¬ (x.2.2 = y.2.2 ∧ x.2.1 = y.2.1)
theorem mvL_ok {l : List ((Nat × Str) × Nat)} {n : Nat} {ps : List Str} (h : LeaOk n ps l) : MvOk n ps (mvL l) where
  rng := fun m hm => by
    obtain ⟨a, q, b⟩ := m
    have := (mv_mem h).mp hm
    obtain ⟨h1, h2, p, hp, e⟩ := h.lea _ this
    refine ⟨h1, h2, ?_⟩
    rcases e with e | e
    · rw [plus_inj e]; exact hp
    · exact absurd e (plus_minus _ _)
  fwd := by
    have go : ∀ m : List ((Nat × Str) × Nat), (m.map (·.1)).Nodup → (∀ p ∈ m, ∃ q, p.1.2 = plusS q ∨ p.1.2 = minusS q) → (mvL m).Pairwise (fun x y => ¬ (x.1 = y.1 ∧ x.2.1 = y.2.1)) ∧ ∀ x ∈ mvL m, (x.1, plusS x.2.1) ∈ m.map (·.1) := fun m => by
      induction m with
      | nil => exact fun _ _ => ⟨List.Pairwise.nil, fun _ h => by cases h⟩
      | cons p m ih =>
        intro hn hm
        rw [List.map_cons, List.nodup_cons] at hn
        obtain ⟨i1, i2⟩ := ih hn.2 fun p hp => hm p (List.mem_cons_of_mem _ hp)
        obtain ⟨⟨x, s⟩, y⟩ := p
        obtain ⟨u, hu⟩ := hm _ (List.mem_cons_self ..)
        show (if isPl s = true then (x, tailS s, y) :: mvL m else mvL m).Pairwise _ ∧ ∀ z ∈ (if isPl s = true then (x, tailS s, y) :: mvL m else mvL m), _
        rcases hu with hu | hu
        · have hu : s = plusS u := hu
          subst hu
          rw [if_pos (pl_plus u).1, (pl_plus u).2]
          refine ⟨List.Pairwise.cons (fun z hz e => hn.1 ?_) i1, fun z hz => ?_⟩
          · have := i2 z hz
            rw [← e.1, ← e.2] at this
            exact this
          · rcases List.mem_cons.mp hz with rfl | hz
            · exact List.mem_cons_self ..
            · exact List.mem_cons_of_mem _ (i2 z hz)
        · have hu : s = minusS u := hu
          subst hu
          rw [if_neg (by rw [pl_minus]; exact Bool.false_ne_true)]
          exact ⟨i1, fun z hz => List.mem_cons_of_mem _ (i2 z hz)⟩
    exact (go l h.nodup fun p hp => by obtain ⟨_, _, q, _, e⟩ := h.lea p hp; exact ⟨q, e⟩).1
  bwd := by
    have hf : ∀ x ∈ mvL l, ∀ y ∈ mvL l, x.2.2 = y.2.2 → x.2.1 = y.2.1 → x.1 = y.1 := fun x hx y hy e1 e2 => by
      obtain ⟨a, q, b⟩ := x
      obtain ⟨a', q', b'⟩ := y
      have e1 : b = b' := e1
      have e2 : q = q' := e2
      subst e1; subst e2
      have h1 := (h.pair a b q).mp ((mv_look h).mp hx)
      have h2 := (h.pair a' b q).mp ((mv_look h).mp hy)
      rw [h1] at h2
      exact Option.some.inj h2
    have fw : (mvL l).Pairwise fun x y => ¬ (x.1 = y.1 ∧ x.2.1 = y.2.1) := by
      have go : ∀ m : List ((Nat × Str) × Nat), (m.map (·.1)).Nodup → (∀ p ∈ m, ∃ q, p.1.2 = plusS q ∨ p.1.2 = minusS q) → (mvL m).Pairwise (fun x y => ¬ (x.1 = y.1 ∧ x.2.1 = y.2.1)) ∧ ∀ x ∈ mvL m, (x.1, plusS x.2.1) ∈ m.map (·.1) := fun m => by
        induction m with
        | nil => exact fun _ _ => ⟨List.Pairwise.nil, fun _ h => by cases h⟩
        | cons p m ih =>
          intro hn hm
          rw [List.map_cons, List.nodup_cons] at hn
          obtain ⟨i1, i2⟩ := ih hn.2 fun p hp => hm p (List.mem_cons_of_mem _ hp)
          obtain ⟨⟨x, s⟩, y⟩ := p
          obtain ⟨u, hu⟩ := hm _ (List.mem_cons_self ..)
          show (if isPl s = true then (x, tailS s, y) :: mvL m else mvL m).Pairwise _ ∧ ∀ z ∈ (if isPl s = true then (x, tailS s, y) :: mvL m else mvL m), _
          rcases hu with hu | hu
          · have hu : s = plusS u := hu
            subst hu
            rw [if_pos (pl_plus u).1, (pl_plus u).2]
            refine ⟨List.Pairwise.cons (fun z hz e => hn.1 ?_) i1, fun z hz => ?_⟩
            · have := i2 z hz
              rw [← e.1, ← e.2] at this
              exact this
            · rcases List.mem_cons.mp hz with rfl | hz
              · exact List.mem_cons_self ..
              · exact List.mem_cons_of_mem _ (i2 z hz)
          · have hu : s = minusS u := hu
            subst hu
            rw [if_neg (by rw [pl_minus]; exact Bool.false_ne_true)]
            exact ⟨i1, fun z hz => List.mem_cons_of_mem _ (i2 z hz)⟩
      exact (go l h.nodup fun p hp => by obtain ⟨_, _, q, _, e⟩ := h.lea p hp; exact ⟨q, e⟩).1
    refine fw.imp_of_mem fun {x y} hx hy hne e => hne ⟨hf x hx y hy e.1 e.2, e.2⟩
theorem mvL_len : ∀ l : List ((Nat × Str) × Nat), (mvL l).length ≤ l.length
  | [] => Nat.le_refl _
  | p :: l => by
    show (if isPl p.1.2 = true then (p.1.1, tailS p.1.2, p.2) :: mvL l else mvL l).length ≤ _
    have := mvL_len l
    by_cases c : isPl p.1.2 = true
    · rw [if_pos c, List.length_cons, List.length_cons]; omega
    · rw [if_neg c, List.length_cons]; omega
theorem Sat.quiet {P : Post} {r : SRes} (h : Sat { nx := P.nx, ct := P.ct, bk := P.bk, rt := P.rt } r) : Sat P (quiet r) := by
  cases r <;> first | exact h | exact h.elim

end
section
theorem law_moves_L (S : Sto) {n : Nat} {patches : List Str} (hlea : LeaOk n patches S.leads) (hlen : S.leads.length ≤ 20000) (hp : ∀ p ∈ patches, nameB p = true) : m__law_moves [stoD S] = .ok (.lst (mvD (mvL S.leads))) := by
  first | refine m_ok ?_ | refine o_ok ?_
  unfold b__law_moves
  have g2 := getS2 S
  have hk : (ixLE 0 2 [.sh (stoD S), .ow (.lst []), .no]).bind keysD = .ok ((leaD S.leads).map (·.1)) := by
    have g : seqGet [D.int (S.size : Int), .dic 0 (namD S.names), .dic 1 (leaD S.leads)] 2 = .ok (.dic 1 (leaD S.leads)) := @seqGet_of _ 2 _ rfl
    show (seqGet [D.int (S.size : Int), .dic 0 (namD S.names), .dic 1 (leaD S.leads)] 2).bind keysD = _
    rw [g]; rfl
  have key : (leaD S.leads).map (·.1) = S.leads.map fun p => leK p.1 := by
    unfold leaD
    rw [List.map_map]; rfl
  rw [key] at hk
  have go : ∀ (l done : List ((Nat × Str) × Nat)) (acc : List Mv) (x : Sl), S.leads = done ++ l → acc = mvL done → Sat { nx := fun e => ∃ x, e = [.sh (stoD S), .ow (.lst (mvD (mvL S.leads))), x] }
      (forL (gnG 2) (ifS (tE (op2 eqO (op2 getD (op2 getD (getP 2) (cE (.int 1))) (cE (.int 0))) (cE (.str "+")))) (appS 1 (aE tupD (consA (op2 getD (getP 2) (cE (.int 0))) (consA (slE (op2 getD (getP 2) (cE (.int 1))) (someO (cE (.int 1))) noO) (consA (op2 getD (op2 getD (getP 0) (cE (.int 2))) (getP 2)) nilA))))) nxS) (l.map fun p => leK p.1) [.sh (stoD S), .ow (.lst (mvD acc)), x]) := by
    intro l
    induction l with
    | nil =>
      intro done acc x e1 e2
      rw [List.append_nil] at e1
      subst e2
      rw [e1]
      exact ⟨x, rfl⟩
    | cons p l ih =>
      intro done acc x e1 e2
      obtain ⟨⟨a, s⟩, b⟩ := p
      have hm : ((a, s), b) ∈ S.leads := by rw [e1]; exact List.mem_append_right _ (List.mem_cons_self ..)
      obtain ⟨h1, h2, q, hq, hs⟩ := hlea.lea _ hm
      have hq12 : q.length ≤ 12 := by obtain ⟨_, _, _, _, _, z⟩ := name_parts (hp q hq); exact z
      have gl : getD (.dic 1 (leaD S.leads)) (leK (a, s)) = .ok (.int (b : Int)) := getL (look_of_mem hlea.nodup hm)
      have t3 : ∀ a b c : D, tupD [a, b, c] = .ok (.tup [a, b, c]) := fun a b c => tup_ok (le_line (show 3 ≤ 1000000 by decide))
      have gk0 : getD (leK (a, s)) (.int 0) = .ok (.int (a : Int)) := by
        show getD (D.tup [.int (a : Int), .str s]) (.int 0) = _
        rw [get_tup]
        exact @seqGet_of _ 0 _ rfl
      have gk1 : getD (leK (a, s)) (.int 1) = .ok (.str s) := by
        show getD (D.tup [.int (a : Int), .str s]) (.int 1) = _
        rw [get_tup]
        exact @seqGet_of _ 1 _ rfl
      have mvapp : ∀ (d : List ((Nat × Str) × Nat)) (p : (Nat × Str) × Nat), mvL (d ++ [p]) = mvL d ++ mvL [p] := fun d p => by
        induction d with
        | nil => rfl
        | cons y d ih2 =>
          show (if isPl y.1.2 = true then (y.1.1, tailS y.1.2, y.2) :: mvL (d ++ [p]) else mvL (d ++ [p])) = (if isPl y.1.2 = true then (y.1.1, tailS y.1.2, y.2) :: mvL d else mvL d) ++ mvL [p]
          rw [ih2]
          by_cases c : isPl y.1.2 = true
          · rw [if_pos c, if_pos c]; rfl
          · rw [if_neg c, if_neg c]
      have e1' : S.leads = (done ++ [((a, s), b)]) ++ l := by rw [e1, List.append_assoc]; rfl
      have hal : acc.length ≤ S.leads.length := by
        rw [e2, e1, List.length_append]
        have := mvL_len done
        omega
      have hlt : (mvD acc).length < sizeLine := by
        unfold mvD
        rw [List.length_map]
        exact Nat.lt_of_lt_of_le (show acc.length < 1000000 by omega) (le_line (Nat.le_refl _))
      show Sat _ (flowL _ _)
      rcases hs with hs | hs
      · have hs : s = plusS q := hs
        have hsl : s.length ≤ sizeLine := le_line (by rw [hs]; unfold plusS; rw [str_app_len, show ("+" : Str).length = 1 by decide +kernel]; omega)
        have sg : getD (.str s) (.int 0) = .ok (.str "+") := by
          have e : s.cps.toList = 43 :: q.cps.toList := by rw [hs]; unfold plusS; rw [str_app, plus_tl]; rfl
          obtain ⟨c, c1, c2⟩ := strGet_of (z := s) (i := 0) hsl (by rw [str_len, e, List.length_cons]; omega)
          rw [e] at c1
          cases c1
          exact c2
        have okp : okS "+" = true := by decide +kernel
        have := ih (done ++ [((a, s), b)]) (acc ++ [(a, q, b)]) (.sh (leK (a, s))) e1' (by
          rw [mvapp, e2]
          show mvL done ++ [(a, q, b)] = mvL done ++ (if isPl s = true then (a, tailS s, b) :: [] else [])
          rw [hs, if_pos (pl_plus q).1, (pl_plus q).2])
        have hsl2 : sliceD (.str s) (some 1) none = .ok (.str q) := by
          rw [sl_str hsl]
          have := (pl_plus q).2
          rw [← hs] at this
          exact congrArg (fun s => Res.ok (D.str s)) this
        simp_arith [gk0, gk1, sg, eqO_str okp okp, decide_true, g2, gl, hsl2, t3, if_pos hlt]
        rw [show mvD acc ++ [D.tup [.int (a : Int), .str q, .int (b : Int)]] = mvD (acc ++ [(a, q, b)]) by unfold mvD; rw [List.map_append]; rfl]
        exact this
      · have hs : s = minusS q := hs
        have hsl : s.length ≤ sizeLine := le_line (by rw [hs]; unfold minusS; rw [str_app_len, show ("-" : Str).length = 1 by decide +kernel]; omega)
        have sg : getD (.str s) (.int 0) = .ok (.str "-") := by
          have e : s.cps.toList = 45 :: q.cps.toList := by rw [hs]; unfold minusS; rw [str_app, minus_tl]; rfl
          obtain ⟨c, c1, c2⟩ := strGet_of (z := s) (i := 0) hsl (by rw [str_len, e, List.length_cons]; omega)
          rw [e] at c1
          cases c1
          exact c2
        have okp : okS "+" = true := by decide +kernel
        have okm : okS "-" = true := by decide +kernel
        have mp : decide (("-" : Str) = "+") = false := by decide +kernel
        have := ih (done ++ [((a, s), b)]) acc (.sh (leK (a, s))) e1' (by
          rw [mvapp, e2]
          show mvL done = mvL done ++ (if isPl s = true then (a, tailS s, b) :: [] else [])
          rw [hs, if_neg (by rw [pl_minus]; exact Bool.false_ne_true), List.append_nil])
        simp_arith [gk0, gk1, sg, eqO_str okm okp, mp]
        exact this
  rw [seq_eq]
  simp only [ownS_eq, aE_eq, nilA_eq, r1_ok, lst_nil, env0, List.map_cons, List.map_nil, List.cons_append, List.nil_append, List.length_cons, List.length_nil, List.replicate, Nat.reduceSub, Nat.reduceAdd, rOwn_ok, rSeq_nx, sz_, ss_]
  rw [seq_eq]
  refine Sat.rseq ?_
  unfold forDS
  rw [hk]
  refine Sat.quiet ((go S.leads [] [] .no rfl rfl).mono (fun e h => ?_) (fun _ h => h.elim) (fun _ h => h.elim) (fun _ h => h.elim) (fun _ _ _ h => h.elim) (fun _ h => h.elim))
  obtain ⟨x, rfl⟩ := h
  rw [thn_nx]
  first | (rw [retOS_ow rfl]; rfl) | simp_arith []
end
section
theorem is_name_true {s : Str} (h : nameB s = true) : m_is_name [.str s] = .ok (.bl true) := by
  obtain ⟨_, _, _, _, _, hl⟩ := name_parts h
  rw [is_name_ok s (le_line (by omega)), h]
def tkD (l : List (Nat × Str)) : List (D × D) := l.map fun k => (leK k, .bl true)
theorem lookD_tk (l : List (Nat × Str)) (k : Nat × Str) : (lookD (tkD l) (leK k)).isSome = decide (k ∈ l) := by
  unfold lookD tkD
  rw [Option.isSome_map]
  induction l with
  | nil => rfl
  | cons x l ih =>
    rw [List.map_cons]
    by_cases c : x = k
    · rw [List.find?_cons_of_pos (by show eqK (leK x) (leK k) = true; rw [eqK_l, decide_eq_true c])]
      rw [decide_eq_true (by rw [c]; exact List.mem_cons_self ..)]; rfl
    · rw [List.find?_cons_of_neg (by show ¬ eqK (leK x) (leK k) = true; rw [eqK_l, decide_eq_false c]; exact Bool.false_ne_true), ih]
      exact decide_eq_decide.mpr ⟨fun h => List.mem_cons_of_mem _ h, fun h => (List.mem_cons.mp h).resolve_left fun e => c e.symm⟩
theorem setD_tk {l : List (Nat × Str)} {k : Nat × Str} (h : k ∉ l) : setD (tkD l) (leK k) (.bl true) = tkD (l ++ [k]) := by
  unfold setD
  have : ((tkD l).any fun p => eqK p.1 (leK k)) = false := by
    unfold tkD
    rw [List.any_map, List.any_eq_false]
    intro x hx
    show ¬ eqK (leK x) (leK k) = true
    rw [eqK_l, decide_eq_false fun e => h (by rw [← e]; exact hx)]
    exact Bool.false_ne_true
  rw [if_neg (by rw [this]; exact Bool.false_ne_true)]
  unfold tkD
  rw [List.map_append]; rfl
def takenOf (ms : List Mv) : List (Nat × Str) := (ms.map fun m => [(m.1, plusS m.2.1), (m.2.2, minusS m.2.1)]).flatten
theorem taken_snoc (ms : List Mv) (m : Mv) : takenOf (ms ++ [m]) = takenOf ms ++ [(m.1, plusS m.2.1)] ++ [(m.2.2, minusS m.2.1)] := by
  unfold takenOf
  rw [List.map_append, List.flatten_append, List.append_assoc]; rfl
theorem taken_plus {ms : List Mv} {a : Nat} {q : Str} : (a, plusS q) ∈ takenOf ms ↔ ∃ m ∈ ms, m.1 = a ∧ m.2.1 = q := by
  unfold takenOf
  rw [List.mem_flatten]
  constructor
  · rintro ⟨l, hl, h⟩
    obtain ⟨m, hm, rfl⟩ := List.mem_map.mp hl
    rcases List.mem_cons.mp h with e | h
    · exact ⟨m, hm, (Prod.mk.inj e).1.symm, (plus_inj (Prod.mk.inj e).2).symm⟩
    · exact absurd (Prod.mk.inj (List.mem_singleton.mp h)).2 (plus_minus _ _)
  · rintro ⟨m, hm, rfl, rfl⟩
    exact ⟨_, List.mem_map_of_mem hm, List.mem_cons_self ..⟩
theorem taken_minus {ms : List Mv} {b : Nat} {q : Str} : (b, minusS q) ∈ takenOf ms ↔ ∃ m ∈ ms, m.2.2 = b ∧ m.2.1 = q := by
  unfold takenOf
  rw [List.mem_flatten]
  constructor
  · rintro ⟨l, hl, h⟩
    obtain ⟨m, hm, rfl⟩ := List.mem_map.mp hl
    rcases List.mem_cons.mp h with e | h
    · exact absurd (Prod.mk.inj e).2.symm (plus_minus _ _)
    · have e := List.mem_singleton.mp h
      exact ⟨m, hm, (Prod.mk.inj e).1.symm, (minus_inj (Prod.mk.inj e).2).symm⟩
  · rintro ⟨m, hm, rfl, rfl⟩
    exact ⟨_, List.mem_map_of_mem hm, List.mem_cons_of_mem _ (List.mem_cons_self ..)⟩
theorem mv_get (m : Mv) : getD (mvT m) (.int 0) = .ok (.int (m.1 : Int)) ∧ getD (mvT m) (.int 1) = .ok (.str m.2.1) ∧ getD (mvT m) (.int 2) = .ok (.int (m.2.2 : Int)) := by
  unfold mvT
  rw [get_tup, get_tup, get_tup]
  exact ⟨@seqGet_of _ 0 _ rfl, @seqGet_of _ 1 _ rfl, @seqGet_of _ 2 _ rfl⟩
theorem plus_ok {ps : List Str} (hp : ∀ p ∈ ps, nameB p = true) {q : Str} (hq : q ∈ ps) : addD (.str "+") (.str q) = .ok (.str (plusS q)) ∧ addD (.str "-") (.str q) = .ok (.str (minusS q)) := by
  obtain ⟨_, _, _, _, _, hl⟩ := name_parts (hp q hq)
  exact ⟨add_str (le_line (by rw [show ("+" : Str).length = 1 by decide +kernel]; omega)), add_str (le_line (by rw [show ("-" : Str).length = 1 by decide +kernel]; omega))⟩

end
section
theorem check_store_ok (n : Nat) (names : List (Str × Nat)) (ps : List Str) (ms : List Mv) (hn : ∀ p ∈ names, nameB p.1 = true ∧ p.2 < n) (hnd : (names.map (·.1)).Nodup) (hp : ∀ p ∈ ps, nameB p = true) (hm : MvOk n ps ms) (hl : ms.length ≤ 10000) :
    m_check_store [.int (n : Int), .dic 0 (namD names), .lst (mvD ms)] = .ok .non := by
  refine m_non ?_
  unfold b_check_store
  have hk : ((getP 1) [.sh (.int (n : Int)), .sh (.dic 0 (namD names)), .sh (.lst (mvD ms)), .no, .no, .no, .no, .no]).bind keysD = .ok (txts (names.map (·.1))) := by
    show Res.ok ((namD names).map (·.1)) = _
    unfold namD txts
    rw [List.map_map, List.map_map]; rfl
  have go1 : ∀ (l : List (Str × Nat)) (x : Sl), (∀ p ∈ l, p ∈ names) → Sat { nx := fun e => ∃ x, e = [.sh (.int (n : Int)), .sh (.dic 0 (namD names)), .sh (.lst (mvD ms)), x, .no, .no, .no, .no] }
      (forL (gnG 3) (ifS (orT (notT (tE (aE m_is_name (consA (getP 3) nilA)))) (notT (tE (chE leD ltD (cE (.int 0)) (op2 getD (getP 1) (getP 3)) (getP 0))))) badS nxS) (txts (l.map (·.1))) [.sh (.int (n : Int)), .sh (.dic 0 (namD names)), .sh (.lst (mvD ms)), x, .no, .no, .no, .no]) := by
    intro l
    induction l with
    | nil => exact fun x _ => ⟨x, rfl⟩
    | cons p l ih =>
      intro x h
      have hpn := hn p (h p (List.mem_cons_self ..))
      have gl : getD (.dic 0 (namD names)) (.str p.1) = .ok (.int (p.2 : Int)) := getD_fit (fit_n p.1) (by rw [lookD_n, look_of_mem hnd (h p (List.mem_cons_self ..))]; rfl)
      have := ih (.sh (.str p.1)) fun q hq => h q (List.mem_cons_of_mem _ hq)
      show Sat _ (flowL _ _)
      have c1 : decide ((0 : Int) ≤ (p.2 : Int)) = true := decide_eq_true (by omega)
      have c2 : decide ((p.2 : Int) < (n : Int)) = true := decide_eq_true (by have := hpn.2; omega)
      simp_arith [is_name_true hpn.1, gl, c1, c2]
      exact this
  have go2 : ∀ (l done : List Mv) (x y z w : Sl), ms = done ++ l → Sat { nx := fun _ => True, rt := fun x => x = D.non }
      (forL (tupG 3 (consG (gnG 5) (consG (gnG 6) (consG (gnG 7) nilG)))) (seqS (ifS (orT (notT (tE (aE m_is_name (consA (getP 6) nilA)))) (orT (notT (tE (chE leD ltD (cE (.int 0)) (getP 5) (getP 0)))) (notT (tE (chE leD ltD (cE (.int 0)) (getP 7) (getP 0)))))) badS nxS)
  (seqS (ifS (orT (tE (op2 inX (aE tupD (consA (getP 5) (consA (op2 addD (cE (.str "+")) (getP 6)) nilA))) (getB 4))) (tE (op2 inX (aE tupD (consA (getP 7) (consA (op2 addD (cE (.str "-")) (getP 6)) nilA))) (getB 4)))) badS nxS)
  (seqS (putS 4 (aE tupD (consA (getP 5) (consA (op2 addD (cE (.str "+")) (getP 6)) nilA))) (cE (.bl true)))
  (putS 4 (aE tupD (consA (getP 7) (consA (op2 addD (cE (.str "-")) (getP 6)) nilA))) (cE (.bl true)))))) (mvD l) [.sh (.int (n : Int)), .sh (.dic 0 (namD names)), .sh (.lst (mvD ms)), x, .ow (.dic 1 (tkD (takenOf done))), y, z, w]) := by
    intro l
    induction l with
    | nil => exact fun done x y z w _ => trivial
    | cons m l ih =>
      intro done x y z w e
      obtain ⟨a, q, b⟩ := m
      have hmm : (a, q, b) ∈ ms := by rw [e]; exact List.mem_append_right _ (List.mem_cons_self ..)
      obtain ⟨ha, hb, hq⟩ := hm.rng _ hmm
      have ha : a < n := ha
      have hb : b < n := hb
      have hq : q ∈ ps := hq
      obtain ⟨p1, p2⟩ := plus_ok hp hq
      have t2 : ∀ a b : D, tupD [a, b] = .ok (.tup [a, b]) := fun a b => tup_ok (le_line (show 2 ≤ 1000000 by decide))
      have fw : (a, plusS q) ∉ takenOf done := fun h => by
        obtain ⟨m', hm', e1, e2⟩ := taken_plus.mp h
        have := hm.fwd
        rw [e] at this
        exact (List.pairwise_append.mp this).2.2 m' hm' (a, q, b) (List.mem_cons_self ..) ⟨e1, e2⟩
      have bw : (b, minusS q) ∉ takenOf done := fun h => by
        obtain ⟨m', hm', e1, e2⟩ := taken_minus.mp h
        have := hm.bwd
        rw [e] at this
        exact (List.pairwise_append.mp this).2.2 m' hm' (a, q, b) (List.mem_cons_self ..) ⟨e1, e2⟩
      have bw2 : (b, minusS q) ∉ takenOf done ++ [(a, plusS q)] := fun h => by
        rcases List.mem_append.mp h with h | h
        · exact bw h
        · exact plus_minus _ _ (Prod.mk.inj (List.mem_singleton.mp h)).2.symm
      have ix : ∀ k, k ∉ takenOf done → inX (leK k) (.dic 1 (tkD (takenOf done))) = .ok (.bl false) := fun k hk => by
        show (if keyFit 1 (leK k) = true then Res.ok (D.bl (lookD (tkD (takenOf done)) (leK k)).isSome) else .bad) = _
        rw [if_pos (fit_l k), lookD_tk, decide_eq_false hk]
      have hdl : done.length ≤ ms.length := by rw [e, List.length_append]; omega
      have tl : ∀ d : List Mv, (takenOf d).length = 2 * d.length := fun d => by
        induction d with
        | nil => rfl
        | cons m d ih2 =>
          have : takenOf (m :: d) = [(m.1, plusS m.2.1), (m.2.2, minusS m.2.1)] ++ takenOf d := rfl
          rw [this]
          simp only [List.length_append, List.length_cons, List.length_nil, ih2]
          omega
      have l1 : (tkD (takenOf done)).length < sizeLine := by
        unfold tkD
        rw [List.length_map, tl]
        exact Nat.lt_of_lt_of_le (show 2 * done.length < 1000000 by omega) (le_line (Nat.le_refl _))
      have l2 : (tkD (takenOf done ++ [(a, plusS q)])).length < sizeLine := by
        unfold tkD
        rw [List.length_map, List.length_append, tl]
        exact Nat.lt_of_lt_of_le (show 2 * done.length + 1 < 1000000 by omega) (le_line (Nat.le_refl _))
      have := ih (done ++ [(a, q, b)]) x (.sh (.int (a : Int))) (.sh (.str q)) (.sh (.int (b : Int))) (by rw [e, List.append_assoc]; rfl)
      rw [taken_snoc] at this
      show Sat _ (flowL _ _)
      have c1 : decide ((0 : Int) ≤ (a : Int)) = true := decide_eq_true (by omega)
      have c2 : decide ((a : Int) < (n : Int)) = true := decide_eq_true (by omega)
      have c3 : decide ((0 : Int) ≤ (b : Int)) = true := decide_eq_true (by omega)
      have c4 : decide ((b : Int) < (n : Int)) = true := decide_eq_true (by omega)
      simp_arith [is_name_true (hp q hq), c1, c2, c3, c4, p1, p2, t2, leK_of, ix _ fw, ix _ bw, fit_l, l1, true_and, setD_tk fw, l2, setD_tk bw2]
      exact this
  rw [seq_eq]
  refine Sat.rseq ?_
  unfold forDS
  have env : env0 8 [.int (n : Int), .dic 0 (namD names), .lst (mvD ms)] = [.sh (.int (n : Int)), .sh (.dic 0 (namD names)), .sh (.lst (mvD ms)), .no, .no, .no, .no, .no] := rfl
  rw [env, hk]
  refine Sat.quiet ((go1 names .no fun _ h => h).mono (fun e h => ?_) (fun _ h => h.elim) (fun _ h => h.elim) (fun _ h => h.elim) (fun _ _ _ h => h.elim) (fun _ h => h.elim))
  obtain ⟨x, rfl⟩ := h
  rw [thn_nx, seq_eq]
  simp only [ownS_eq, cE_eq, rOwn_ok, rSeq_nx, sz_, ss_]
  unfold VL.forS
  simp_arith []
  exact go2 ms [] x .no .no .no rfl

end
section
theorem Sat.runD {α σ : Type} {P : Post} {γ : D → Env → Option Env} {ψ : Env → SRes} {φ : Env → Res D} {env : Env} (xs : List α) (f : α → D) (step : σ → α → σ ⊕ Res D) (R : σ → Env → Prop) (s : σ) (hi : (φ env).bind keysD = .ok (xs.map f)) (h0 : R s env)
    (h : ∀ s a env, a ∈ xs → R s env → ∃ env1, γ (f a) env = some env1 ∧ Sat (stepP R (step s a)) (ψ env1)) (hk : endK { P with ro := fun _ => False, xc := fun _ _ _ => False } R (VL.runL step s xs)) : Sat P (forDS γ φ ψ env) := by
  unfold forDS
  rw [hi]
  have := Sat.runL (P := { P with ro := fun _ => False, xc := fun _ _ _ => False }) h h0 hk
  show Sat P (VL.quiet (forL γ ψ (xs.map f) env))
  cases q : forL γ ψ (xs.map f) env <;> rw [q] at this <;> first | exact this | exact this.elim
theorem runL_fold {α σ : Type} (g : σ → α → σ) : ∀ (xs : List α) (s : σ), runL (fun s a => .inl (g s a)) s xs = .inl (xs.foldl g s)
  | [], s => rfl
  | a :: xs, s => runL_fold g xs (g s a)

end
section
def insD (n : Nat) (N : List (Str × Nat)) (L : List ((Nat × Str) × Nat)) : D := .ins "Store" [("content_count", .int (n : Int)), ("start_contents", .dic 0 (namD N)), ("leads", .dic 1 (leaD L))]
def sortN (names : List (Str × Nat)) : List (Str × Nat) := (sortT (names.map (·.1))).foldl (fun acc s => put1 acc s ((look1 names s).getD 0)) []
def leadsF (ms : List Mv) (acc : List ((Nat × Str) × Nat)) : List ((Nat × Str) × Nat) := ms.foldl (fun acc m => put1 (put1 acc (m.1, plusS m.2.1) m.2.2) (m.2.2, minusS m.2.1) m.1) acc
theorem k_ok {c : Str} {n : Nat} {b : Env → SRes} {x : Addr} {ds : List D} {d : D} (h : Sat { nx := fun e => outI0 x e[0]? = .ok d } (b (envI x c n ds))) : defK c n b x ds = .ok d := by
  unfold defK
  cases q : b (envI x c n ds) <;> rw [q] at h <;> first | exact h.elim | exact h
theorem setfS_eq {i : Nat} {c f : Str} {φ : Env → Res D} {env : Env} : setfS i c f φ env = rSetf i c f env[i]? (φ env) env := rfl
theorem look_fold (names : List (Str × Nat)) : ∀ (l : List Str) (acc : List (Str × Nat)) (s : Str), look1 (l.foldl (fun acc s => put1 acc s ((look1 names s).getD 0)) acc) s = if s ∈ l then some ((look1 names s).getD 0) else look1 acc s
  | [], acc, s => by simp
  | t :: l, acc, s => by
    rw [List.foldl_cons, look_fold names l]
    by_cases c : s ∈ l
    · rw [if_pos c, if_pos (List.mem_cons_of_mem _ c)]
    · rw [if_neg c, look_put]
      by_cases c2 : s = t
      · rw [if_pos c2, if_pos (by rw [c2]; exact List.mem_cons_self ..), c2]
      · rw [if_neg c2, if_neg (fun h => (List.mem_cons.mp h).elim c2 c)]
theorem look_sortN (names : List (Str × Nat)) (s : Str) : look1 (sortN names) s = look1 names s := by
  unfold sortN
  rw [look_fold]
  have hm : s ∈ sortT (names.map (·.1)) ↔ s ∈ names.map (·.1) := (sortT_perm _).mem_iff
  by_cases c : s ∈ sortT (names.map (·.1))
  · rw [if_pos c]
    cases q : look1 names s with
    | none => exact absurd (hm.mp c) (look_none.mp q)
    | some a => rfl
  · rw [if_neg c, look_nil]
    exact (look_none.mpr fun h => c (hm.mpr h)).symm
theorem look_leads : ∀ (ms : List Mv) (acc : List ((Nat × Str) × Nat)) (k : Nat × Str) (v : Nat), (ms.Pairwise fun x y => ¬ (x.1 = y.1 ∧ x.2.1 = y.2.1)) → (ms.Pairwise fun x y => ¬ (x.2.2 = y.2.2 ∧ x.2.1 = y.2.1)) →
    (look1 (leadsF ms acc) k = some v ↔ (∃ m ∈ ms, (k = (m.1, plusS m.2.1) ∧ v = m.2.2) ∨ (k = (m.2.2, minusS m.2.1) ∧ v = m.1)) ∨ ((∀ m ∈ ms, k ≠ (m.1, plusS m.2.1) ∧ k ≠ (m.2.2, minusS m.2.1)) ∧ look1 acc k = some v))
  | [], acc, k, v, _, _ => by simp [leadsF]
  | m :: ms, acc, k, v, h1, h2 => by
    obtain ⟨a1, a2⟩ := List.pairwise_cons.mp h1
    obtain ⟨b1, b2⟩ := List.pairwise_cons.mp h2
    have e : leadsF (m :: ms) acc = leadsF ms (put1 (put1 acc (m.1, plusS m.2.1) m.2.2) (m.2.2, minusS m.2.1) m.1) := rfl
    rw [e, look_leads ms _ k v a2 b2, look_put, look_put]
    constructor
    · rintro (⟨y, hy, h⟩ | ⟨hn, h⟩)
      · exact .inl ⟨y, List.mem_cons_of_mem _ hy, h⟩
      · by_cases c1 : k = (m.2.2, minusS m.2.1)
        · rw [if_pos c1] at h
          exact .inl ⟨m, List.mem_cons_self .., .inr ⟨c1, (Option.some.inj h).symm⟩⟩
        · rw [if_neg c1] at h
          by_cases c2 : k = (m.1, plusS m.2.1)
          · rw [if_pos c2] at h
            exact .inl ⟨m, List.mem_cons_self .., .inl ⟨c2, (Option.some.inj h).symm⟩⟩
          · rw [if_neg c2] at h
            refine .inr ⟨fun y hy => ?_, h⟩
            rcases List.mem_cons.mp hy with rfl | hy
            · exact ⟨c2, c1⟩
            · exact hn y hy
    · rintro (⟨y, hy, h⟩ | ⟨hn, h⟩)
      · rcases List.mem_cons.mp hy with rfl | hy
        · refine .inr ⟨fun z hz => ?_, ?_⟩
          · rcases h with ⟨e1, _⟩ | ⟨e1, _⟩
            · refine ⟨fun e2 => ?_, fun e2 => ?_⟩
              · rw [e1] at e2
                obtain ⟨q1, q2⟩ := Prod.mk.inj e2
                exact a1 z hz ⟨q1, plus_inj q2⟩
              · rw [e1] at e2
                exact plus_minus _ _ (Prod.mk.inj e2).2
            · refine ⟨fun e2 => ?_, fun e2 => ?_⟩
              · rw [e1] at e2
                exact plus_minus _ _ (Prod.mk.inj e2).2.symm
              · rw [e1] at e2
                obtain ⟨q1, q2⟩ := Prod.mk.inj e2
                exact b1 z hz ⟨q1, minus_inj q2⟩
          · rcases h with ⟨e1, e2⟩ | ⟨e1, e2⟩
            · rw [if_neg (fun e3 => plus_minus _ _ (by rw [e1] at e3; exact (Prod.mk.inj e3).2)), if_pos e1, e2]
            · rw [if_pos e1, e2]
        · exact .inl ⟨y, hy, h⟩
      · refine .inr ⟨fun z hz => hn z (List.mem_cons_of_mem _ hz), ?_⟩
        obtain ⟨n1, n2⟩ := hn m (List.mem_cons_self ..)
        rw [if_neg n2, if_neg n1]
        exact h
theorem look_leads_of {l : List ((Nat × Str) × Nat)} {n : Nat} {ps : List Str} (h : LeaOk n ps l) (k : Nat × Str) : look1 (leadsF (mvL l) []) k = look1 l k := by
  have hm := mvL_ok h
  refine Option.ext fun v => ?_
  rw [look_leads _ _ _ _ hm.fwd hm.bwd]
  constructor
  · rintro (⟨⟨a, q, b⟩, hmm, ⟨rfl, rfl⟩ | ⟨rfl, rfl⟩⟩ | ⟨_, h⟩)
    · exact (mv_look h).mp hmm
    · exact (h.pair _ _ _).mp ((mv_look h).mp hmm)
    · cases h
  · intro hv
    have := look_mem hv
    obtain ⟨_, _, q, _, e⟩ := h.lea _ this
    obtain ⟨a, s⟩ := k
    rcases e with e | e
    · have e : s = plusS q := e
      subst e
      exact .inl ⟨(a, q, v), (mv_look h).mpr hv, .inl ⟨rfl, rfl⟩⟩
    · have e : s = minusS q := e
      subst e
      exact .inl ⟨(v, q, a), (mv_look h).mpr ((h.pair _ _ _).mpr hv), .inr ⟨rfl, rfl⟩⟩
theorem init_ok (n : Nat) (names : List (Str × Nat)) (ps : List Str) (ms : List Mv) (hn : ∀ p ∈ names, nameB p.1 = true ∧ p.2 < n) (hnd : (names.map (·.1)).Nodup) (hnl : names.length < 64) (hp : ∀ p ∈ ps, nameB p = true) (hm : MvOk n ps ms) (hl : ms.length ≤ 10000) (x : Addr) :
    m_Store___init__ x [.int (n : Int), .dic 0 (namD names), .lst (mvD ms)] = .ok (insD n (sortN names) (leadsF ms [])) := by
  refine k_ok ?_
  unfold b_Store___init__
  have hc := check_store_ok n names ps ms hn hnd hp hm hl
  have env : envI x "Store" 9 [.int (n : Int), .dic 0 (namD names), .lst (mvD ms)] = [.ow (.sel x "Store" []), .sh (.int (n : Int)), .sh (.dic 0 (namD names)), .sh (.lst (mvD ms)), .no, .no, .no, .no, .no] := rfl
  rw [env]
  have s0 : ([] : List (Str × D)).length < 100 := by decide
  have s1 : ∀ a : Str × D, [a].length < 100 := fun _ => by simp
  have s2 : ∀ a b : Str × D, [a, b].length < 100 := fun _ _ => by simp
  have pg1 : ∀ d, putG [] "content_count" d = [(("content_count" : Str), d)] := fun _ => rfl
  have pg2 : ∀ a d, putG [(("content_count" : Str), a)] "start_contents" d = [(("content_count" : Str), a), ("start_contents", d)] := fun a d => by
    show (if ("content_count" : Str) = "start_contents" then _ else _) = _
    rw [if_neg (by decide +kernel)]; rfl
  have pg3 : ∀ a b d, putG [(("content_count" : Str), a), ("start_contents", b)] "leads" d = [(("content_count" : Str), a), ("start_contents", b), ("leads", d)] := fun a b d => by
    show (if ("content_count" : Str) = "leads" then _ else _ :: (if ("start_contents" : Str) = "leads" then _ else _)) = _
    rw [if_neg (by decide +kernel), if_neg (by decide +kernel)]; rfl
  rw [seq_eq]
  simp only [dropS_eq, aE_eq, consA_eq, nilA_eq, getP_eq, gz_, gs_, rGet_ok, rC_ok, r1_ok, hc, rDrop_ok, rSeq_nx]
  rw [seq_eq]
  simp only [setfS_eq, getP_eq, gz_, gs_, rGet_ok, rSetf_ok, if_pos s0, pg1, rSeq_nx, sz_]
  -- the names, sorted
  have lcd : lcDE [8] (gnG 8) (getP 2) yesT (aE strF (consA (getP 8) nilA)) [.ow (.sel x "Store" [("content_count", .int (n : Int))]), .sh (.int (n : Int)), .sh (.dic 0 (namD names)), .sh (.lst (mvD ms)), .no, .no, .no, .no, .no] = .ok (.lst (txts (names.map (·.1)))) := by
    have hk : ((getP 2) [.ow (.sel x "Store" [("content_count", .int (n : Int))]), .sh (.int (n : Int)), .sh (.dic 0 (namD names)), .sh (.lst (mvD ms)), .no, .no, .no, .no, .no]).bind keysD = .ok (txts (names.map (·.1))) := by
      show Res.ok ((namD names).map (·.1)) = _
      unfold namD txts
      rw [List.map_map, List.map_map]; rfl
    unfold lcDE
    rw [hk]
    refine (lcE_map (mapS id) rfl (by rw [txts_len, List.length_map]; exact le_line (by omega)) fun d hd => ?_).trans (by rw [map_txts, List.map_id])
    obtain ⟨s, _, rfl⟩ := List.mem_map.mp hd
    refine ⟨_, rfl, ?_⟩
    simp_arith [wipeE, List.foldl_cons, List.foldl_nil]
    rfl
  have hso : sortedF [.lst (txts (names.map (·.1)))] = .ok (.lst (txts (sortT (names.map (·.1))))) := sorted_txts (by rw [List.length_map]; exact hnl)
  have dgo : ∀ (l : List Str) (acc : List (Str × Nat)), (∀ s ∈ l, (look1 names s).isSome = true) → acc.length + l.length ≤ 1000 → dcompL (gnG 8) (getP 8) (op2 getD (getP 2) (getP 8)) [.ow (.sel x "Store" [("content_count", .int (n : Int))]), .sh (.int (n : Int)), .sh (.dic 0 (namD names)), .sh (.lst (mvD ms)), .no, .no, .no, .no, .no] (txts l) (namD acc) = .ok (.dic 0 (namD (l.foldl (fun acc s => put1 acc s ((look1 names s).getD 0)) acc))) := fun l => by
    induction l with
    | nil => exact fun acc _ _ => rfl
    | cons s l ih =>
      intro acc h hlen
      rw [List.length_cons] at hlen
      obtain ⟨a, ha⟩ := Option.isSome_iff_exists.mp (h s (List.mem_cons_self ..))
      have gl : getD (.dic 0 (namD names)) (.str s) = .ok (.int (a : Int)) := getD_fit (fit_n s) (by rw [lookD_n, ha]; rfl)
      have hlt : (namD acc).length < sizeLine := by
        rw [namD_len]
        exact Nat.lt_of_lt_of_le (show acc.length < 1000000 by omega) (le_line (Nat.le_refl _))
      have ih := ih (put1 acc s a) (fun t ht => h t (List.mem_cons_of_mem _ ht)) (by have := put_len (l := acc) (key := s) (v := a); omega)
      show dcompL _ _ _ _ (.str s :: txts l) _ = _
      unfold dcompL
      simp only [gnG_eq, getP_eq, op2_eq, gz_, gs_, sz_, ss_, rGet_ok, r2_ok, gl, fit_n, hlt, and_self, if_true, setD_n]
      rw [List.foldl_cons, ha]
      exact ih
  have dce : dcE [8] (gnG 8) (iE (aE sortedF (consA (lcDE [8] (gnG 8) (getP 2) yesT (aE strF (consA (getP 8) nilA))) nilA))) (getP 8) (op2 getD (getP 2) (getP 8)) [.ow (.sel x "Store" [("content_count", .int (n : Int))]), .sh (.int (n : Int)), .sh (.dic 0 (namD names)), .sh (.lst (mvD ms)), .no, .no, .no, .no, .no] = .ok (.dic 0 (namD (sortN names))) := by
    unfold dcE
    rw [show (iE (aE sortedF (consA (lcDE [8] (gnG 8) (getP 2) yesT (aE strF (consA (getP 8) nilA))) nilA))) [.ow (.sel x "Store" [("content_count", .int (n : Int))]), .sh (.int (n : Int)), .sh (.dic 0 (namD names)), .sh (.lst (mvD ms)), .no, .no, .no, .no, .no] = .ok (txts (sortT (names.map (·.1)))) by simp_arith [lcd, hso]]
    refine dgo _ [] (fun s hs => ?_) ?_
    · cases q : look1 names s with
      | none => exact absurd ((sortT_perm _).mem_iff.mp hs) (look_none.mp q)
      | some a => rfl
    · rw [(sortT_perm _).length_eq, List.length_map, List.length_nil]; omega
  rw [seq_eq]
  simp only [setfS_eq, dce, gz_, rSetf_ok, if_pos (s1 _), pg2, rSeq_nx, sz_]
  rw [seq_eq]
  simp only [ownS_eq, cE_eq, rOwn_ok, rSeq_nx, sz_, ss_]
  rw [seq_eq]
  refine Sat.rseq ?_
  have go : ∀ (l : List Mv) (acc : List ((Nat × Str) × Nat)) (y z w : Sl), (∀ m ∈ l, m ∈ ms) → acc.length + 2 * l.length ≤ 100000 → Sat { nx := fun e => ∃ y z w, e = [.ow (.sel x "Store" [("content_count", .int (n : Int)), ("start_contents", .dic 0 (namD (sortN names)))]), .sh (.int (n : Int)), .sh (.dic 0 (namD names)), .sh (.lst (mvD ms)), .ow (.dic 1 (leaD (leadsF l acc))), y, z, w, .no] }
      (forL (tupG 3 (consG (gnG 5) (consG (gnG 6) (consG (gnG 7) nilG)))) (seqS (putS 4 (aE tupD (consA (getP 5) (consA (op2 addD (cE (.str "+")) (getP 6)) nilA))) (getP 7))
  (putS 4 (aE tupD (consA (getP 7) (consA (op2 addD (cE (.str "-")) (getP 6)) nilA))) (getP 5))) (mvD l) [.ow (.sel x "Store" [("content_count", .int (n : Int)), ("start_contents", .dic 0 (namD (sortN names)))]), .sh (.int (n : Int)), .sh (.dic 0 (namD names)), .sh (.lst (mvD ms)), .ow (.dic 1 (leaD acc)), y, z, w, .no]) := fun l => by
    induction l with
    | nil => exact fun acc y z w _ _ => ⟨y, z, w, rfl⟩
    | cons m l ih =>
      intro acc y z w h hlen
      rw [List.length_cons] at hlen
      obtain ⟨a, q, b⟩ := m
      obtain ⟨_, _, hq⟩ := hm.rng _ (h _ (List.mem_cons_self ..))
      have hq : q ∈ ps := hq
      obtain ⟨p1, p2⟩ := plus_ok hp hq
      have t2 : ∀ a b : D, tupD [a, b] = .ok (.tup [a, b]) := fun a b => tup_ok (le_line (show 2 ≤ 1000000 by decide))
      have a1 := put_len (l := acc) (key := (a, plusS q)) (v := b)
      have a2 := put_len (l := put1 acc (a, plusS q) b) (key := (b, minusS q)) (v := a)
      have l1 : (leaD acc).length < sizeLine := by
        rw [leaD_len]
        exact Nat.lt_of_lt_of_le (show acc.length < 1000000 by omega) (le_line (Nat.le_refl _))
      have l2 : (leaD (put1 acc (a, plusS q) b)).length < sizeLine := by
        rw [leaD_len]
        exact Nat.lt_of_lt_of_le (show (put1 acc (a, plusS q) b).length < 1000000 by omega) (le_line (Nat.le_refl _))
      have := ih (put1 (put1 acc (a, plusS q) b) (b, minusS q) a) (.sh (.int (a : Int))) (.sh (.str q)) (.sh (.int (b : Int))) (fun m hm => h m (List.mem_cons_of_mem _ hm)) (by omega)
      show Sat _ (flowL _ _)
      simp_arith [p1, p2, t2, leK_of, fit_l, l1, true_and, setD_l, l2]
      exact this
  unfold VL.forS
  simp_arith []
  refine (go ms [] .no .no .no (fun _ h => h) (by rw [List.length_nil]; omega)).mono (fun e h => ?_) (fun _ h => h.elim) (fun _ h => h.elim) (fun _ h => h.elim) (fun _ _ _ h => h.elim) (fun _ h => h.elim)
  obtain ⟨y, z, w, rfl⟩ := h
  rw [thn_nx]
  simp_arith [setfS_eq, rSetf_ok, if_pos (s2 _ _), pg3]
  show (if x = x then _ else _) = _
  rw [if_pos rfl]; rfl

end
section
theorem ins_fld (n : Nat) (N : List (Str × Nat)) (L : List ((Nat × Str) × Nat)) : fldI "Store" "content_count" (insD n N L) = .ok (.int (n : Int)) ∧ fldI "Store" "start_contents" (insD n N L) = .ok (.dic 0 (namD N)) ∧ fldI "Store" "leads" (insD n N L) = .ok (.dic 1 (leaD L)) := by
  have a1 : (("start_contents" : Str) == "content_count") = false := by decide +kernel
  have a2 : (("leads" : Str) == "content_count") = false := by decide +kernel
  have a3 : (("leads" : Str) == "start_contents") = false := by decide +kernel
  refine ⟨?_, ?_, ?_⟩
  · unfold insD
    rw [fldI_ins, List.lookup_cons_self]
  · unfold insD
    rw [fldI_ins, List.lookup_cons, a1, List.lookup_cons_self]
  · unfold insD
    rw [fldI_ins, List.lookup_cons, a2, List.lookup_cons, a3, List.lookup_cons_self]
end
section
theorem nodup_len {α : Type} [DecidableEq α] : ∀ {l m : List α}, l.Nodup → (∀ x ∈ l, x ∈ m) → l.length ≤ m.length
  | [], m, _, _ => Nat.zero_le _
  | x :: l, m, hn, hs => by
    rw [List.nodup_cons] at hn
    have hx := hs x (List.mem_cons_self ..)
    have h1 := nodup_len (l := l) (m := m.erase x) hn.2 (fun y hy => (List.mem_erase_of_ne (fun e => hn.1 (by rw [← e]; exact hy))).mpr (hs y (List.mem_cons_of_mem _ hy)))
    rw [List.length_erase_of_mem hx] at h1
    have h2 := List.length_pos_of_mem hx
    rw [List.length_cons]; omega
def ltS (a b : Str) : Prop := a.cps.toList < b.cps.toList
theorem leT_iff {a b : Str} : leT a b = true ↔ ¬ ltS b a := ⟨fun h => List.not_lt.mpr (of_decide_eq_true h), fun h => decide_eq_true (List.not_lt.mp h)⟩
theorem ltS_ne {a b : Str} (h : ltS a b) : a ≠ b := fun e => by subst e; exact List.lt_irrefl _ h
theorem ltS_of {a b : Str} (h : leT a b = true) (hn : a ≠ b) : ltS a b := by
  refine Classical.byContradiction fun c => hn ?_
  exact leT_anti h (leT_iff.mpr c)
theorem leStr_ff {s t : Str} (h : ltS t s) : leStr s t = false := by
  unfold leStr
  rw [decide_eq_true (show t.cps.toList < s.cps.toList from h)]; rfl
theorem sort_strict {l : List Str} (h : l.Nodup) : (sortT l).Pairwise ltS := by
  have h1 := sortT_sorted l
  have h2 : (sortT l).Nodup := (sortT_perm l).nodup_iff.mpr h
  exact (h1.and h2).imp fun ⟨a, b⟩ => ltS_of a b
def tailG (acc : List Str) (p : (Nat × Str) × Nat) : List Str := if tailS p.1.2 ∈ acc then acc else acc ++ [tailS p.1.2]
def tailsF (l : List ((Nat × Str) × Nat)) : List Str := l.foldl tailG []
def tnD (l : List Str) : List (D × D) := l.map fun s => (.str s, .bl true)
theorem setD_tn (l : List Str) (s : Str) : setD (tnD l) (.str s) (.bl true) = tnD (if s ∈ l then l else l ++ [s]) := by
  unfold setD
  have ea : ((tnD l).any fun p => eqK p.1 (.str s)) = decide (s ∈ l) := by
    unfold tnD
    rw [List.any_map]
    induction l with
    | nil => rfl
    | cons x l ih =>
      rw [List.any_cons, ih]
      show (eqK (.str x) (.str s) || _) = _
      rw [eqK_s]
      by_cases c : x = s
      · rw [decide_eq_true c, decide_eq_true (show s ∈ x :: l by rw [c]; exact List.mem_cons_self ..)]; rfl
      · rw [decide_eq_false c, Bool.false_or]
        exact decide_eq_decide.mpr ⟨fun h => List.mem_cons_of_mem _ h, fun h => (List.mem_cons.mp h).resolve_left fun e => c e.symm⟩
  rw [ea]
  by_cases c : s ∈ l
  · rw [if_pos (decide_eq_true c), if_pos c]
    unfold tnD
    rw [List.map_map]
    refine List.map_congr_left fun x _ => ?_
    show (if eqK (.str x) (.str s) = true then ((D.str x, D.bl true) : D × D) else (D.str x, .bl true)) = (D.str x, .bl true)
    by_cases c2 : eqK (.str x) (.str s) = true
    · rw [if_pos c2]
    · rw [if_neg c2]
  · rw [if_neg (by rw [decide_eq_false c]; exact Bool.false_ne_true), if_neg c]
    unfold tnD
    rw [List.map_append]; rfl
theorem tail_mem {acc : List Str} {p : (Nat × Str) × Nat} {q : Str} : q ∈ tailG acc p ↔ q ∈ acc ∨ q = tailS p.1.2 := by
  unfold tailG
  by_cases c : tailS p.1.2 ∈ acc
  · rw [if_pos c]
    exact ⟨.inl, fun h => h.elim id fun e => e ▸ c⟩
  · rw [if_neg c, List.mem_append, List.mem_singleton]
theorem tail_nodup {acc : List Str} {p : (Nat × Str) × Nat} (h : acc.Nodup) : (tailG acc p).Nodup := by
  unfold tailG
  by_cases c : tailS p.1.2 ∈ acc
  · rw [if_pos c]; exact h
  · rw [if_neg c]
    exact List.nodup_append.mpr ⟨h, List.pairwise_singleton .., fun a ha b hb e => c (by rw [← List.mem_singleton.mp hb, ← e]; exact ha)⟩
theorem tails_mem : ∀ {l : List ((Nat × Str) × Nat)} {acc : List Str} {q : Str}, q ∈ l.foldl tailG acc ↔ q ∈ acc ∨ ∃ p ∈ l, q = tailS p.1.2
  | [], acc, q => by simp
  | p :: l, acc, q => by
    rw [List.foldl_cons, tails_mem (l := l), tail_mem]
    constructor
    · rintro ((h | h) | ⟨p', hp, h⟩)
      · exact .inl h
      · exact .inr ⟨p, List.mem_cons_self .., h⟩
      · exact .inr ⟨p', List.mem_cons_of_mem _ hp, h⟩
    · rintro (h | ⟨p', hp, h⟩)
      · exact .inl (.inl h)
      · rcases List.mem_cons.mp hp with rfl | hp
        · exact .inl (.inr h)
        · exact .inr ⟨p', hp, h⟩
theorem tails_nodup : ∀ {l : List ((Nat × Str) × Nat)} {acc : List Str}, acc.Nodup → (l.foldl tailG acc).Nodup
  | [], _, h => h
  | p :: l, _, h => tails_nodup (l := l) (tail_nodup h)
structure Made (n : Nat) (N : List (Str × Nat)) (L : List ((Nat × Str) × Nat)) (ps : List Str) : Prop where
  le : n ≤ 3000
  nl : N.length < 64
  ll : L.length ≤ 10000
  pl : ps.length < 64
  nn : ∀ p ∈ N, nameB p.1 = true ∧ p.2 < n
  ns : (N.map (·.1)).Pairwise ltS
  hp : ∀ p ∈ ps, nameB p = true
  lea : LeaOk n ps L
def namesL (L : List ((Nat × Str) × Nat)) : List Str := sortT (tailsF L)
def rowM (L : List ((Nat × Str) × Nat)) (a : Nat) (qs : List Str) : List Mv := qs.filterMap fun q => (look1 L (a, plusS q)).map fun b => (a, q, b)
def movesS (n : Nat) (L : List ((Nat × Str) × Nat)) : List Mv := (List.range n).flatMap fun a => rowM L a (namesL L)
theorem tail_of {s : Str} {q : Str} (h : s = plusS q ∨ s = minusS q) : tailS s = q := by
  rcases h with rfl | rfl
  · exact (pl_plus q).2
  · have e : (minusS q).cps.toList = 45 :: q.cps.toList := by unfold minusS; rw [str_app, minus_tl]; rfl
    refine str_ext ?_
    unfold tailS
    rw [show (1 : Int) = ((1 : Nat) : Int) from rfl, cutS_from, e]; rfl
section
variable {n : Nat} {N : List (Str × Nat)} {L : List ((Nat × Str) × Nat)} {ps : List Str}
theorem Made.tailp (h : Made n N L ps) : ∀ p ∈ L, tailS p.1.2 ∈ ps ∧ (p.1.2 = plusS (tailS p.1.2) ∨ p.1.2 = minusS (tailS p.1.2)) := fun p hp => by
  obtain ⟨_, _, q, hq, e⟩ := h.lea.lea p hp
  rw [tail_of e]
  exact ⟨hq, e⟩
theorem Made.namesp (h : Made n N L ps) : ∀ q ∈ namesL L, q ∈ ps := fun q hq => by
  have hq := (sortT_perm _).mem_iff.mp hq
  rcases tails_mem.mp hq with hq | ⟨p, hp, e⟩
  · cases hq
  · rw [e]; exact (h.tailp p hp).1
theorem Made.namesn (h : Made n N L ps) : (namesL L).Nodup ∧ (namesL L).length < 64 := by
  have hn : (namesL L).Nodup := (sortT_perm _).nodup_iff.mpr (tails_nodup List.nodup_nil)
  exact ⟨hn, Nat.lt_of_le_of_lt (nodup_len hn h.namesp) h.pl⟩
end

end
section
section
variable {n : Nat} {N : List (Str × Nat)} {L : List ((Nat × Str) × Nat)} {ps : List Str}
theorem contents_ok : m_Store_contents [insD n N L] = .ok (.int (n : Int)) := by
  refine m_ok ?_
  unfold b_Store_contents
  have f1 := (ins_fld n N L).1
  generalize insD n N L = I at *
  simp_all_arith [f1]
theorem starts_ok (hn : (N.map (·.1)).Nodup) (hl : N.length < 1000) : m_Store_starts [insD n N L] = .ok (.dic 0 (namD N)) := by
  first | refine m_ok ?_ | refine o_ok ?_
  unfold b_Store_starts
  have f2 := (ins_fld n N L).2.1
  generalize insD n N L = I at *
  have hk : ((fldLE "Store" "start_contents" 0) [.sh I, .no]).bind keysD = .ok (txts (N.map (·.1))) := by
    show (fldI "Store" "start_contents" I).bind keysD = _
    rw [f2]
    show Res.ok ((namD N).map (·.1)) = _
    unfold namD txts
    rw [List.map_map, List.map_map]; rfl
  have go : ∀ (l done : List (Str × Nat)), N = done ++ l → dcompL (gnG 1) (getP 1) (op2 getD (fldIE "Store" "start_contents" (getP 0)) (getP 1)) [.sh I, .no] (txts (l.map (·.1))) (namD done) = .ok (.dic 0 (namD N)) := fun l => by
    induction l with
    | nil =>
      intro done e
      rw [List.append_nil] at e
      rw [e]; rfl
    | cons p l ih =>
      intro done e
      have hm : p ∈ N := by rw [e]; exact List.mem_append_right _ (List.mem_cons_self ..)
      have gl : getD (.dic 0 (namD N)) (.str p.1) = .ok (.int (p.2 : Int)) := getD_fit (fit_n p.1) (by rw [lookD_n, look_of_mem hn hm]; rfl)
      have hdl : done.length ≤ N.length := by rw [e, List.length_append]; omega
      have hlt : (namD done).length < sizeLine := by
        rw [namD_len]
        exact Nat.lt_of_lt_of_le (show done.length < 1000000 by omega) (le_line (Nat.le_refl _))
      have hnone : look1 done p.1 = none := by
        refine look_none.mpr fun h => ?_
        rw [e, List.map_append, List.map_cons] at hn
        exact (List.nodup_append.mp hn).2.2 _ h _ (List.mem_cons_self ..) rfl
      have hput : put1 done p.1 p.2 = done ++ [p] := by
        unfold put1
        rw [any_look, hnone, if_neg (by exact Bool.false_ne_true)]
      have ih := ih (done ++ [p]) (by rw [e, List.append_assoc]; rfl)
      show dcompL _ _ _ _ (.str p.1 :: txts (l.map (·.1))) _ = _
      unfold dcompL
      simp only [gnG_eq, getP_eq, op2_eq, fldIE_eqR, gz_, gs_, sz_, ss_, rGet_ok, r1_ok, f2, r2_ok, gl, fit_n, hlt, and_self, if_true, setD_n, hput]
      exact ih
  have e : dcDE [1] (gnG 1) (fldLE "Store" "start_contents" 0) (getP 1) (op2 getD (fldIE "Store" "start_contents" (getP 0)) (getP 1)) (env0 2 [I]) = .ok (.dic 0 (namD N)) := by
    unfold dcDE
    rw [show env0 2 [I] = [.sh I, .no] from rfl, hk]
    exact go N [] rfl
  first | (rw [retS_eq, e]; exact Sat_rt ▸ rfl) | (unfold retFS; rw [e]; rfl)
end

end
section
theorem mvD_app (a b : List Mv) : mvD (a ++ b) = mvD a ++ mvD b := by unfold mvD; rw [List.map_append]
def rowP (L : List ((Nat × Str) × Nat)) (a : Nat) : D → Bool
  | .str q => (look1 L (a, plusS q)).isSome
  | _ => false
def rowD (L : List ((Nat × Str) × Nat)) (a : Nat) : D → D
  | .str q => mvT (a, q, (look1 L (a, plusS q)).getD 0)
  | _ => .non
theorem row_txts (L : List ((Nat × Str) × Nat)) (a : Nat) : ∀ qs : List Str, ((txts qs).filter (rowP L a)).map (rowD L a) = mvD (rowM L a qs)
  | [] => rfl
  | q :: qs => by
    have ih := row_txts L a qs
    show ((D.str q :: txts qs).filter (rowP L a)).map (rowD L a) = _
    unfold rowM
    cases z : look1 L (a, plusS q) with
    | none =>
      rw [List.filter_cons_of_neg (by show ¬ (look1 L (a, plusS q)).isSome = true; rw [z]; exact Bool.false_ne_true), ih, List.filterMap_cons_none (by rw [z]; rfl)]; rfl
    | some b =>
      rw [List.filter_cons_of_pos (by show (look1 L (a, plusS q)).isSome = true; rw [z]; rfl), List.map_cons, ih, List.filterMap_cons_some (b := (a, q, b)) (by rw [z]; rfl)]
      show mvT (a, q, (look1 L (a, plusS q)).getD 0) :: _ = _
      rw [z]; rfl
theorem row_len (L : List ((Nat × Str) × Nat)) (a : Nat) (qs : List Str) : (rowM L a qs).length ≤ qs.length := List.length_filterMap_le ..
section
variable {n : Nat} {N : List (Str × Nat)} {L : List ((Nat × Str) × Nat)} {ps : List Str}
theorem store_moves_ok (h : Made n N L ps) : m_Store_moves [insD n N L] = .ok (.lst (mvD (movesS n L))) := by
  first | refine m_ok ?_ | refine o_ok ?_
  unfold b_Store_moves
  obtain ⟨f1, _, f3⟩ := ins_fld n N L
  generalize insD n N L = I at *
  have hle := h.le
  have t2 : ∀ a b : D, tupD [a, b] = .ok (.tup [a, b]) := fun a b => tup_ok (le_line (show 2 ≤ 1000000 by decide))
  have t3 : ∀ a b c : D, tupD [a, b, c] = .ok (.tup [a, b, c]) := fun a b c => tup_ok (le_line (show 3 ≤ 1000000 by decide))
  have env : env0 6 [I] = [.sh I, .no, .no, .no, .no, .no] := rfl
  rw [env, seq_eq]
  simp only [ownS_eq, cE_eq, rOwn_ok, rSeq_nx, sz_, ss_]
  rw [seq_eq]
  refine Sat.rseq (Sat.runD L (fun p => leK p.1) (fun acc p => .inl (tailG acc p)) (fun acc env => (acc.Nodup ∧ ∀ q ∈ acc, q ∈ ps) ∧ ∃ x, env = [.sh I, .ow (.dic 0 (tnD acc)), x, .no, .no, .no]) [] ?_ ⟨⟨List.nodup_nil, fun _ h => nomatch h⟩, _, rfl⟩ ?_ ?_)
  · show (fldI "Store" "leads" I).bind keysD = _
    rw [f3]
    show Res.ok ((leaD L).map (·.1)) = _
    unfold leaD
    rw [List.map_map]; rfl
  · rintro acc p env hp ⟨⟨a1, a2⟩, x, rfl⟩
    refine ⟨_, rfl, ?_⟩
    obtain ⟨⟨a, s⟩, b⟩ := p
    obtain ⟨k1, k2⟩ := h.tailp _ hp
    have k1 : tailS s ∈ ps := k1
    have k2 : s = plusS (tailS s) ∨ s = minusS (tailS s) := k2
    have gk1 : getD (leK (a, s)) (.int 1) = .ok (.str s) := by
      show getD (D.tup [.int (a : Int), .str s]) (.int 1) = _
      rw [get_tup]
      exact @seqGet_of _ 1 _ rfl
    have hq12 : (tailS s).length ≤ 12 := by obtain ⟨_, _, _, _, _, z⟩ := name_parts (h.hp _ k1); exact z
    have hsl : s.length ≤ sizeLine := by
      have el : s.length = 1 + (tailS s).length := by
        rcases k2 with e | e
        · exact (congrArg Str.length e).trans (by unfold plusS; rw [str_app_len, show ("+" : Str).length = 1 by decide +kernel])
        · exact (congrArg Str.length e).trans (by unfold minusS; rw [str_app_len, show ("-" : Str).length = 1 by decide +kernel])
      exact le_line (by omega)
    have hsl2 : sliceD (.str s) (some 1) none = .ok (.str (tailS s)) := sl_str hsl
    have hlt : (tnD acc).length < sizeLine := by
      unfold tnD
      rw [List.length_map]
      have := nodup_len a1 a2
      have := h.pl
      exact Nat.lt_of_lt_of_le (show acc.length < 1000000 by omega) (le_line (Nat.le_refl _))
    have e : (if tailS s ∈ acc then acc else acc ++ [tailS s]) = tailG acc ((a, s), b) := rfl
    simp_arith [gk1, hsl2, fit_n, hlt, true_and, setD_tn, e]
    refine ⟨⟨tail_nodup a1, fun q hq => ?_⟩, _, rfl⟩
    rcases tail_mem.mp hq with hq | hq
    · exact a2 q hq
    · rw [hq]; exact k1
  · rw [runL_fold]
    rintro env ⟨_, x, rfl⟩
    obtain ⟨n1, n2⟩ := h.namesn
    have hso : sortedF [.lst (txts (tailsF L))] = .ok (.lst (txts (namesL L))) := sorted_txts (by rw [← (sortT_perm _).length_eq]; exact n2)
    have lck : lcKE 1 [5] (gnG 5) yesT (aE strF (consA (getP 5) nilA)) [.sh I, .ow (.dic 0 (tnD (tailsF L))), x, .no, .no, .no] = .ok (.lst (txts (tailsF L))) := by
      have hk : (tnD (tailsF L)).map (·.1) = txts (tailsF L) := by
        unfold tnD txts
        rw [List.map_map]; rfl
      show lcE [5] (gnG 5) (fun _ => .ok ((tnD (tailsF L)).map (·.1))) yesT (aE strF (consA (getP 5) nilA)) [.sh I, .no, x, .no, .no, .no] = _
      rw [hk]
      refine (lcE_map (mapS id) rfl (by rw [txts_len, ← (sortT_perm _).length_eq]; exact le_line (by have : (namesL L).length < 64 := n2; unfold namesL at this; omega)) fun d hd => ?_).trans (by rw [map_txts, List.map_id])
      obtain ⟨s, _, rfl⟩ := List.mem_map.mp hd
      refine ⟨_, rfl, ?_⟩
      simp_arith [wipeE, List.foldl_cons, List.foldl_nil]
      rfl
    rw [thn_nx, seq_eq]
    show Sat _ (rSeq (setS 3 _ [.sh I, .ow (.dic 0 (tnD (tailsF L))), x, .no, .no, .no]) _)
    simp only [setS_eq, aE_eq, consA_eq, nilA_eq, lck, rC_ok, r1_ok, hso, rSet_ok, rSeq_nx, sz_, ss_]
    generalize tnD (tailsF L) = T
    have go : ∀ (as : List Nat) (acc : List Mv), (∀ a ∈ as, a < n) → acc.length + as.length * (namesL L).length ≤ 200000 →
        comp2 (gnG 4) yesT (iE (getP 3)) [5] (gnG 5) (tE (op2 inZ (aE tupD (consA (getP 4) (consA (op2 addD (cE (.str "+")) (getP 5)) nilA))) (fldIE "Store" "leads" (getP 0)))) (aE tupD (consA (getP 4) (consA (getP 5) (consA (op2 getD (fldIE "Store" "leads" (getP 0)) (aE tupD (consA (getP 4) (consA (op2 addD (cE (.str "+")) (getP 5)) nilA)))) nilA)))) [.sh I, .ow (.dic 0 T), x, .sh (.lst (txts (namesL L))), .no, .no] (as.map fun a : Nat => D.int (a : Int)) (mvD acc) = .ok (.lst (mvD (acc ++ as.flatMap fun a => rowM L a (namesL L)))) := fun as => by
      induction as with
      | nil =>
        intro acc _ _
        rw [List.flatMap_nil, List.append_nil]; rfl
      | cons a as ih =>
        intro acc ha hl
        rw [List.length_cons, Nat.succ_mul] at hl
        have rl := row_len L a (namesL L)
        have ih := ih (acc ++ rowM L a (namesL L)) (fun a h => ha a (List.mem_cons_of_mem _ h)) (by rw [List.length_append]; omega)
        have hin : compL (gnG 5) (tE (op2 inZ (aE tupD (consA (getP 4) (consA (op2 addD (cE (.str "+")) (getP 5)) nilA))) (fldIE "Store" "leads" (getP 0)))) (aE tupD (consA (getP 4) (consA (getP 5) (consA (op2 getD (fldIE "Store" "leads" (getP 0)) (aE tupD (consA (getP 4) (consA (op2 addD (cE (.str "+")) (getP 5)) nilA)))) nilA)))) [.sh I, .ow (.dic 0 T), x, .sh (.lst (txts (namesL L))), .sh (.int (a : Int)), .no] (txts (namesL L)) (mvD acc) = .ok (.lst (mvD acc ++ mvD (rowM L a (namesL L)))) := by
          refine (compL_fil (rowP L a) (rowD L a) (txts (namesL L)) (mvD acc) (fun d hd => ?_) ?_).trans (by rw [row_txts])
          · obtain ⟨q, hq, rfl⟩ := List.mem_map.mp hd
            refine ⟨_, rfl, ?_, ?_⟩
            · obtain ⟨p1, _⟩ := plus_ok h.hp (h.namesp q hq)
              have iz : inZ (leK (a, plusS q)) (.dic 1 (leaD L)) = .ok (.bl (look1 L (a, plusS q)).isSome) := by
                have := inZ_o L (some a) (plusS q)
                exact this
              simp_all_arith [p1, t2, leK_of, f3, iz]
              rfl
            · intro hp
              have hp : (look1 L (a, plusS q)).isSome = true := hp
              obtain ⟨b, hb⟩ := Option.isSome_iff_exists.mp hp
              obtain ⟨p1, _⟩ := plus_ok h.hp (h.namesp q hq)
              have gl : getD (.dic 1 (leaD L)) (leK (a, plusS q)) = .ok (.int (b : Int)) := getL (S := ⟨n, N, L⟩) hb
              simp_all_arith [p1, t2, leK_of, f3, gl, t3]
              show Res.ok (D.tup [.int (a : Int), .str q, .int (b : Int)]) = .ok (mvT (a, q, (look1 L (a, plusS q)).getD 0))
              rw [hb]; rfl
          · unfold mvD
            rw [List.length_map, txts_len]
            exact le_line (by omega)
        rw [List.map_cons]
        unfold comp2
        have w5 : wipeE [.sh I, .ow (.dic 0 T), x, .sh (.lst (txts (namesL L))), .sh (.int (a : Int)), .no] [5] = [.sh I, .ow (.dic 0 T), x, .sh (.lst (txts (namesL L))), .sh (.int (a : Int)), .no] := rfl
        have i3 : iE (getP 3) [.sh I, .ow (.dic 0 T), x, .sh (.lst (txts (namesL L))), .sh (.int (a : Int)), .no] = .ok (txts (namesL L)) := rfl
        have g4 : gnG 4 (D.int (a : Int)) [.sh I, .ow (.dic 0 T), x, .sh (.lst (txts (namesL L))), .no, .no] = some [.sh I, .ow (.dic 0 T), x, .sh (.lst (txts (namesL L))), .sh (.int (a : Int)), .no] := rfl
        simp only [g4, yesT, i3, w5, hin]
        rw [← mvD_app, ih, List.flatMap_cons, List.append_assoc]
    have hr : range1 [.int (n : Int)] = .ok ((List.range n).map fun a : Nat => D.int (a : Int)) := by
      rw [range1_nat (by omega)]
      unfold rangeD
      refine congrArg Res.ok (List.map_congr_left fun a _ => ?_)
      rw [Int.zero_add]
    have g := go (List.range n) [] (fun a ha => List.mem_range.mp ha) (by rw [List.length_range]; exact Nat.le_trans (Nat.add_le_add_left (Nat.mul_le_mul hle (Nat.le_of_lt n2)) _) (by decide))
    have e : lc2E [4, 5] [5] (gnG 4) (aI range1 (consA (fldIE "Store" "content_count" (getP 0)) nilA)) yesT (gnG 5) (iE (getP 3)) (tE (op2 inZ (aE tupD (consA (getP 4) (consA (op2 addD (cE (.str "+")) (getP 5)) nilA))) (fldIE "Store" "leads" (getP 0)))) (aE tupD (consA (getP 4) (consA (getP 5) (consA (op2 getD (fldIE "Store" "leads" (getP 0)) (aE tupD (consA (getP 4) (consA (op2 addD (cE (.str "+")) (getP 5)) nilA)))) nilA)))) [.sh I, .ow (.dic 0 T), x, .sh (.lst (txts (namesL L))), .no, .no] = .ok (.lst (mvD (movesS n L))) := by
      unfold lc2E
      rw [show (aI range1 (consA (fldIE "Store" "content_count" (getP 0)) nilA)) [.sh I, .ow (.dic 0 T), x, .sh (.lst (txts (namesL L))), .no, .no] = .ok ((List.range n).map fun a : Nat => D.int (a : Int)) by simp_all_arith [f1, hr]]
      exact g
    first | (rw [retS_eq, e]; rfl) | (unfold retFS; rw [e]; rfl)
end

end
section
theorem isCE_eqR {c : Str} {φ : Env → Res D} {env : Env} : isCE c φ env = r1 (isC c) (φ env) := by
  unfold isCE
  cases φ env <;> rfl
def ltMM (x y : Mv) : Prop := x.1 < y.1 ∨ (x.1 = y.1 ∧ ltS x.2.1 y.2.1)
theorem row_mem {L : List ((Nat × Str) × Nat)} {a : Nat} {qs : List Str} {m : Mv} : m ∈ rowM L a qs ↔ m.1 = a ∧ m.2.1 ∈ qs ∧ look1 L (a, plusS m.2.1) = some m.2.2 := by
  unfold rowM
  rw [List.mem_filterMap]
  constructor
  · rintro ⟨q, hq, e⟩
    cases z : look1 L (a, plusS q) with
    | none => rw [z] at e; cases e
    | some b =>
      rw [z] at e
      have e : (a, q, b) = m := Option.some.inj e
      subst e
      exact ⟨rfl, hq, z⟩
  · rintro ⟨h1, h2, h3⟩
    refine ⟨m.2.1, h2, ?_⟩
    rw [h3, ← h1]; rfl
section
variable {n : Nat} {N : List (Str × Nat)} {L : List ((Nat × Str) × Nat)} {ps : List Str}
theorem Made.mvmem (h : Made n N L ps) {m : Mv} : m ∈ movesS n L ↔ look1 L (m.1, plusS m.2.1) = some m.2.2 := by
  unfold movesS
  rw [List.mem_flatMap]
  constructor
  · rintro ⟨a, _, hm⟩
    obtain ⟨h1, _, h3⟩ := row_mem.mp hm
    rw [h1]; exact h3
  · intro hl
    have hm := look_mem hl
    obtain ⟨h1, _, q, _, e⟩ := h.lea.lea _ hm
    refine ⟨m.1, List.mem_range.mpr h1, row_mem.mpr ⟨rfl, ?_, hl⟩⟩
    refine (sortT_perm _).mem_iff.mpr (tails_mem.mpr (.inr ⟨_, hm, ?_⟩))
    exact (tail_of (.inl rfl)).symm
theorem Made.sorted (h : Made n N L ps) : (movesS n L).Pairwise ltMM := by
  unfold movesS
  rw [List.pairwise_flatMap]
  refine ⟨fun a _ => ?_, ?_⟩
  · unfold rowM
    rw [List.pairwise_filterMap]
    refine (show (namesL L).Pairwise ltS from sort_strict (tails_nodup List.nodup_nil)).imp fun {q q'} hq x hx y hy => ?_
    obtain ⟨b, _, rfl⟩ := Option.map_eq_some_iff.mp hx
    obtain ⟨b', _, rfl⟩ := Option.map_eq_some_iff.mp hy
    exact .inr ⟨rfl, hq⟩
  · refine List.pairwise_lt_range.imp fun {a b} hab x hx y hy => ?_
    have h1 := (row_mem.mp hx).1
    have h2 := (row_mem.mp hy).1
    exact .inl (by rw [h1, h2]; exact hab)
theorem Made.mvok (h : Made n N L ps) : MvOk n ps (movesS n L) where
  rng := fun m hm => by
    have hl := look_mem (h.mvmem.mp hm)
    obtain ⟨h1, h2, q, hq, e⟩ := h.lea.lea _ hl
    refine ⟨h1, h2, ?_⟩
    rcases e with e | e
    · rw [plus_inj e]; exact hq
    · exact absurd e (plus_minus _ _)
  fwd := h.sorted.imp fun {x y} hr e => by
    rcases hr with hr | hr
    · omega
    · exact ltS_ne hr.2 e.2
  bwd := h.sorted.imp_of_mem fun {x y} hx hy hr e => by
    have h1 := (h.lea.pair _ _ _).mp (h.mvmem.mp hx)
    have h2 := (h.lea.pair _ _ _).mp (h.mvmem.mp hy)
    rw [e.1, e.2, h2] at h1
    have e1 : y.1 = x.1 := Option.some.inj h1
    rcases hr with hr | hr
    · omega
    · exact ltS_ne hr.2 e.2
theorem Made.look (h : Made n N L ps) (k : Nat × Str) : look1 (leadsF (movesS n L) []) k = look1 L k := by
  have hm := h.mvok
  refine Option.ext fun v => ?_
  rw [look_leads _ _ _ _ hm.fwd hm.bwd]
  constructor
  · rintro (⟨⟨a, q, b⟩, hmm, ⟨rfl, rfl⟩ | ⟨rfl, rfl⟩⟩ | ⟨_, h⟩)
    · exact h.mvmem.mp hmm
    · exact (h.lea.pair _ _ _).mp (h.mvmem.mp hmm)
    · cases h
  · intro hv
    have := look_mem hv
    obtain ⟨_, _, q, _, e⟩ := h.lea.lea _ this
    obtain ⟨a, s⟩ := k
    rcases e with e | e
    · have e : s = plusS q := e
      subst e
      exact .inl ⟨(a, q, v), h.mvmem.mpr hv, .inl ⟨rfl, rfl⟩⟩
    · have e : s = minusS q := e
      subst e
      exact .inl ⟨(v, q, a), h.mvmem.mpr ((h.lea.pair _ _ _).mpr hv), .inr ⟨rfl, rfl⟩⟩
theorem Made.mvlen (h : Made n N L ps) : (movesS n L).length ≤ 10000 := by
  have hn : ((movesS n L).map fun m => (m.1, plusS m.2.1)).Nodup := by
    rw [List.nodup_iff_pairwise_ne, List.pairwise_map]
    exact h.mvok.fwd.imp fun {x y} hr e => hr ⟨(Prod.mk.inj e).1, plus_inj (Prod.mk.inj e).2⟩
  have := nodup_len hn (m := L.map (·.1)) fun x hx => by
    obtain ⟨m, hm, rfl⟩ := List.mem_map.mp hx
    exact List.mem_map_of_mem (f := (·.1)) (look_mem (h.mvmem.mp hm))
  rw [List.length_map, List.length_map] at this
  exact Nat.le_trans this h.ll
end

end
section
section
variable {n : Nat} {N : List (Str × Nat)} {L : List ((Nat × Str) × Nat)} {ps : List Str}
theorem content_ok {a n : Nat} (h : a < n) : m__law_is_content [.int (a : Int), .int (n : Int)] = .ok (.bl true) := by
  refine m_ok ?_
  unfold b__law_is_content
  have c1 : decide ((0 : Int) ≤ (a : Int)) = true := decide_eq_true (by omega)
  have c2 : decide ((a : Int) < (n : Int)) = true := decide_eq_true (by omega)
  have t1 : isT "int" (.int (a : Int)) = .ok (.bl true) := rfl
  have t2 : isT "bool" (.int (a : Int)) = .ok (.bl false) := rfl
  simp_all_arith [t1, t2, c1, c2]
theorem nil_lt {s : Str} (h : nameB s = true) : ltS "" s := by
  obtain ⟨c, r, e, _⟩ := name_parts h
  unfold ltS
  rw [e]
  exact List.nil_lt_cons ..
theorem law_table_ok (h : Made n N L ps) : m__law_table [insD n N L] = .ok (.lst [.int (n : Int), .dic 0 (namD N), .dic 1 (leaD (leadsF (movesS n L) []))]) := by
  refine m_ok ?_
  unfold b__law_table
  have hnd : (N.map (·.1)).Nodup := h.ns.imp fun {x y} hr => ltS_ne hr
  have h1 : m_Store_contents [insD n N L] = .ok (.int (n : Int)) := contents_ok
  have h2 : m_Store_starts [insD n N L] = .ok (.dic 0 (namD N)) := starts_ok hnd (by have := h.nl; omega)
  have h3 := store_moves_ok h
  have hic : isC "Store" (insD n N L) = .ok (.bl true) := by
    show (if ("Store" : Str) = "Store" then Res.ok (D.bl true) else .bad) = _
    rw [if_pos rfl]
  have hcl : isCls "Store" (insD n N L) = true := by
    unfold isCls insD
    simp
  have hii : m__law_is_integer [.int (n : Int)] = .ok (.bl true) := rfl
  have d1 : isT "dict" (.dic 0 (namD N)) = .ok (.bl true) := rfl
  have d2 : isT "list" (.lst (mvD (movesS n L))) = .ok (.bl true) := rfl
  have n0 : decide ((n : Int) < 0) = false := decide_eq_false (by omega)
  have hle := h.le
  have hml := h.mvlen
  have hmk := h.mvok
  generalize insD n N L = I at *
  have go1 : ∀ (l : List (Str × Nat)) (last : Str) (x : Sl), (∀ p ∈ l, p ∈ N) → (last :: l.map (·.1)).Pairwise ltS → Sat { nx := fun e => ∃ y x, e = [.sh I, .sh (.int (n : Int)), .sh (.dic 0 (namD N)), .sh (.lst (mvD (movesS n L))), y, x, .no, .no, .no] }
      (forL (gnG 5) (seqS (ifS (orT (notT (tE (isTE "str" (getP 5)))) (orT (tE (op2 leX (getP 5) (getP 4))) (notT (tE (aE m__law_is_content (consA (op2 getD (getP 2) (getP 5)) (consA (getP 1) nilA))))))) (retS (cE .non)) nxS)
  (setS 4 (getP 5))) (l.map fun p => .str p.1) [.sh I, .sh (.int (n : Int)), .sh (.dic 0 (namD N)), .sh (.lst (mvD (movesS n L))), .sh (.str last), x, .no, .no, .no]) := by
    intro l
    induction l with
    | nil => exact fun last x _ _ => ⟨_, _, rfl⟩
    | cons p l ih =>
      intro last x hp hpw
      obtain ⟨q1, q2⟩ := List.pairwise_cons.mp hpw
      have hm := hp p (List.mem_cons_self ..)
      have gl : getD (.dic 0 (namD N)) (.str p.1) = .ok (.int (p.2 : Int)) := getD_fit (fit_n p.1) (by rw [lookD_n, look_of_mem hnd hm]; rfl)
      have hc := content_ok (h.nn p hm).2
      have tS : isT "str" (.str p.1) = .ok (.bl true) := rfl
      have lx : leX (.str p.1) (.str last) = .ok (.bl false) := by
        show Res.ok (D.bl (leStr p.1 last)) = _
        rw [leStr_ff (q1 _ (List.mem_cons_self ..))]
      have := ih p.1 (.sh (.str p.1)) (fun q hq => hp q (List.mem_cons_of_mem _ hq)) q2
      show Sat _ (flowL _ _)
      simp_all_arith [tS, lx, gl, hc]
      exact this
  have go2 : ∀ (y0 x0 : Sl) (l : List Mv) (acc : List ((Nat × Str) × Nat)) (i : Int) (s : Str) (w : Sl), (∀ m ∈ l, m ∈ movesS n L) → (∀ m ∈ l, i < (m.1 : Int) ∨ (i = (m.1 : Int) ∧ ltS s m.2.1)) → l.Pairwise ltMM → (l.Pairwise fun x y => ¬ (x.2.2 = y.2.2 ∧ x.2.1 = y.2.1)) → (∀ m ∈ l, look1 acc (m.2.2, minusS m.2.1) = none) → acc.length + 2 * l.length ≤ 100000 →
      Sat { nx := fun e => ∃ t w, e = [.sh I, .sh (.int (n : Int)), .sh (.dic 0 (namD N)), .sh (.lst (mvD (movesS n L))), y0, x0, .ow (.dic 1 (leaD (leadsF l acc))), t, w] }
      (forL (gnG 8) (seqS (ifS (orT (notT (tE (isTE "tuple" (getP 8)))) (orT (tE (op2 neO (aE lenF (consA (getP 8) nilA)) (cE (.int 3)))) (notT (tE (isTE "str" (op2 getD (getP 8) (cE (.int 1)))))))) (retS (cE .non)) nxS)
  (seqS (ifS (orT (notT (tE (aE m__law_is_content (consA (op2 getD (getP 8) (cE (.int 0))) (consA (getP 1) nilA))))) (orT (notT (tE (aE m__law_is_content (consA (op2 getD (getP 8) (cE (.int 2))) (consA (getP 1) nilA))))) (tE (op2 leX (aE tupD (consA (op2 getD (getP 8) (cE (.int 0))) (consA (op2 getD (getP 8) (cE (.int 1))) nilA))) (getP 7))))) (retS (cE .non)) nxS)
  (seqS (ifS (tE (op2 inX (aE tupD (consA (op2 getD (getP 8) (cE (.int 2))) (consA (op2 addD (cE (.str "-")) (op2 getD (getP 8) (cE (.int 1)))) nilA))) (getB 6))) (retS (cE .non)) nxS)
  (seqS (putS 6 (aE tupD (consA (op2 getD (getP 8) (cE (.int 0))) (consA (op2 addD (cE (.str "+")) (op2 getD (getP 8) (cE (.int 1)))) nilA))) (op2 getD (getP 8) (cE (.int 2))))
  (seqS (putS 6 (aE tupD (consA (op2 getD (getP 8) (cE (.int 2))) (consA (op2 addD (cE (.str "-")) (op2 getD (getP 8) (cE (.int 1)))) nilA))) (op2 getD (getP 8) (cE (.int 0))))
  (setS 7 (aE tupD (consA (op2 getD (getP 8) (cE (.int 0))) (consA (op2 getD (getP 8) (cE (.int 1))) nilA)))))))) ) (mvD l) [.sh I, .sh (.int (n : Int)), .sh (.dic 0 (namD N)), .sh (.lst (mvD (movesS n L))), y0, x0, .ow (.dic 1 (leaD acc)), .sh (.tup [.int i, .str s]), w]) := by
    intro y0 x0 l
    induction l with
    | nil => exact fun acc i s w _ _ _ _ _ _ => ⟨_, _, rfl⟩
    | cons m l ih =>
      intro acc i s w hp hf hs hb hn hlen
      rw [List.length_cons] at hlen
      have hmm := hp m (List.mem_cons_self ..)
      have hfm := hf m (List.mem_cons_self ..)
      have hnm := hn m (List.mem_cons_self ..)
      obtain ⟨hs1, hs2⟩ := List.pairwise_cons.mp hs
      obtain ⟨hb1, hb2⟩ := List.pairwise_cons.mp hb
      obtain ⟨r1, r2, r3⟩ := hmk.rng m hmm
      obtain ⟨g0, g1, g2⟩ := mv_get m
      have tT : isT "tuple" (mvT m) = .ok (.bl true) := rfl
      have l3 : lenF [mvT m] = .ok (.int 3) := rfl
      obtain ⟨a, q, b⟩ := m
      have hq : nameB q = true := h.hp _ r3
      obtain ⟨p1, p2⟩ := plus_ok h.hp (show q ∈ ps from r3)
      have ca := content_ok (show a < n from r1)
      have cb := content_ok (show b < n from r2)
      have t2 : ∀ a b : D, tupD [a, b] = .ok (.tup [a, b]) := fun a b => tup_ok (le_line (show 2 ≤ 1000000 by decide))
      have lx : leX (leK (a, q)) (.tup [.int i, .str s]) = .ok (.bl false) := by
        show Res.ok (D.bl (lePair (a : Int) q i s)) = _
        unfold lePair
        rcases hfm with hi | ⟨hi, hst⟩
        · have hi : i < (a : Int) := hi
          rw [if_neg (by omega), decide_eq_false (by omega)]
        · have hi : i = (a : Int) := hi
          have hst : ltS s q := hst
          rw [if_pos hi.symm, if_neg (fun e => ltS_ne hst e.symm), leStr_ff hst]
      have ix : inX (leK (b, minusS q)) (.dic 1 (leaD acc)) = .ok (.bl false) := by
        show (if keyFit 1 (leK (b, minusS q)) = true then Res.ok (D.bl (lookD (leaD acc) (leK (b, minusS q))).isSome) else .bad) = _
        have hnm : look1 acc (b, minusS q) = none := hnm
        rw [if_pos (fit_l _), lookD_l, hnm]; rfl
      have a1 := put_len (l := acc) (key := (a, plusS q)) (v := b)
      have a2 := put_len (l := put1 acc (a, plusS q) b) (key := (b, minusS q)) (v := a)
      have l1 : (leaD acc).length < sizeLine := by
        rw [leaD_len]
        exact Nat.lt_of_lt_of_le (show acc.length < 1000000 by omega) (le_line (Nat.le_refl _))
      have l2 : (leaD (put1 acc (a, plusS q) b)).length < sizeLine := by
        rw [leaD_len]
        exact Nat.lt_of_lt_of_le (show (put1 acc (a, plusS q) b).length < 1000000 by omega) (le_line (Nat.le_refl _))
      have := ih (put1 (put1 acc (a, plusS q) b) (b, minusS q) a) (a : Int) q (.sh (mvT (a, q, b))) (fun m hm => hp m (List.mem_cons_of_mem _ hm)) (fun m hm => by
          rcases hs1 m hm with hr | hr
          · exact .inl (by have hr : a < m.1 := hr; omega)
          · exact .inr ⟨by have hr : a = m.1 := hr.1; omega, hr.2⟩) hs2 hb2 (fun m hm => by
          rw [look_put, look_put, if_neg, if_neg]
          · exact hn m (List.mem_cons_of_mem _ hm)
          · exact fun e => plus_minus _ _ (Prod.mk.inj e).2.symm
          · exact fun e => hb1 m hm ⟨(Prod.mk.inj e).1.symm, (minus_inj (Prod.mk.inj e).2).symm⟩) (by omega)
      have tq : isT "str" (.str q) = .ok (.bl true) := rfl
      have g0 : getD (mvT (a, q, b)) (.int 0) = .ok (.int (a : Int)) := g0
      have g1 : getD (mvT (a, q, b)) (.int 1) = .ok (.str q) := g1
      have g2 : getD (mvT (a, q, b)) (.int 2) = .ok (.int (b : Int)) := g2
      show Sat _ (flowL _ _)
      generalize mvT (a, q, b) = M at *
      simp_all_arith [tT, l3, g0, g1, g2, tq, ca, cb, lx, p1, p2, t2, leK_of, ix, fit_l, l1, true_and, setD_l, l2, decide_true]
      exact this
  simp_all_arith [isCE_eqR, hic, hcl, h1, h2, h3, hii, n0, d1, d2]
  refine Sat.rseq ?_
  unfold forDS
  have hk : ((getP 2) [.sh I, .sh (.int (n : Int)), .sh (.dic 0 (namD N)), .sh (.lst (mvD (movesS n L))), .sh (.str ""), .no, .no, .no, .no]).bind keysD = .ok (N.map fun p => .str p.1) := by
    show Res.ok ((namD N).map (·.1)) = _
    unfold namD
    rw [List.map_map]; rfl
  rw [hk]
  have hp0 : (("" : Str) :: N.map (·.1)).Pairwise ltS := List.Pairwise.cons (fun s hs => by
    obtain ⟨p, hp, rfl⟩ := List.mem_map.mp hs
    exact nil_lt (h.nn p hp).1) h.ns
  refine Sat.quiet ((go1 N "" .no (fun _ h => h) hp0).mono (fun e h => ?_) (fun _ h => h.elim) (fun _ h => h.elim) (fun _ h => h.elim) (fun _ _ _ h => h.elim) (fun _ h => h.elim))
  obtain ⟨y, x, rfl⟩ := h
  have t2 : ∀ a b : D, tupD [a, b] = .ok (.tup [a, b]) := fun a b => tup_ok (le_line (show 2 ≤ 1000000 by decide))
  have l3 : ∀ a b c : D, lstD [a, b, c] = .ok (.lst [a, b, c]) := fun a b c => lst_ok (le_line (show 3 ≤ 1000000 by decide))
  rw [thn_nx, seq_eq]
  simp only [ownS_eq, cE_eq, rOwn_ok, rSeq_nx, sz_, ss_]
  rw [seq_eq]
  simp only [setS_eq, aE_eq, consA_eq, nilA_eq, negE_eq, cE_eq, r1_ok, neg_int, rC_ok, t2, rSet_ok, rSeq_nx, sz_, ss_]
  rw [seq_eq]
  refine Sat.rseq ?_
  unfold VL.forS
  simp only [iE_eq, getP_eq, gz_, gs_, rGet_ok, r1_ok]
  have hs := h.sorted
  refine (go2 y x (movesS n L) [] (-1) "" .no (fun _ h => h) (fun m _ => .inl (by omega)) hs hmk.bwd (fun _ _ => rfl) (by rw [List.length_nil]; omega)).mono (fun e h => ?_) (fun _ h => h.elim) (fun _ h => h.elim) (fun _ h => h.elim) (fun _ _ _ h => h.elim) (fun _ h => h.elim)
  obtain ⟨t, w, rfl⟩ := h
  rw [thn_nx]
  simp_all_arith [l3]
end

end
section
theorem dicEq_of {α : Type} [DecidableEq α] {f : α → D} (hk : ∀ a b, eqK (f a) (f b) = decide (a = b)) {l m : List (α × Nat)} (nl : (l.map (·.1)).Nodup) (nm : (m.map (·.1)).Nodup) (h : ∀ k, look1 l k = look1 m k) :
    dicEq (l.map fun p => (f p.1, .int (p.2 : Int))) (m.map fun p => (f p.1, .int (p.2 : Int))) = true := by
  have sub : ∀ {l m : List (α × Nat)}, (l.map (·.1)).Nodup → (∀ k, look1 l k = look1 m k) → l.length ≤ m.length := fun {l m} nl h => by
    have := nodup_len nl (m := m.map (·.1)) fun k hk => Classical.byContradiction fun c => by
      have e := look_none.mpr c
      rw [← h k] at e
      exact look_none.mp e hk
    rw [List.length_map, List.length_map] at this
    exact this
  unfold dicEq
  refine Bool.and_eq_true_iff.mpr ⟨?_, ?_⟩
  · rw [List.length_map, List.length_map]
    exact beq_iff_eq.mpr (Nat.le_antisymm (sub nl h) (sub nm fun k => (h k).symm))
  · unfold sameD
    rw [List.all_map]
    refine List.all_eq_true.mpr fun p hp => ?_
    have e : lookD (m.map fun p => (f p.1, D.int (p.2 : Int))) (f p.1) = some (.int (p.2 : Int)) := by
      rw [lookD_map (fun a => hk a p.1), ← h, look_of_mem nl hp]; rfl
    show (match D.int (p.2 : Int), lookD (m.map fun p => (f p.1, D.int (p.2 : Int))) (f p.1) with
      | .int i, some (.int j) => decide (i = j)
      | _, _ => false) = true
    rw [e]
    exact decide_eq_true rfl
theorem ints_of {α : Type} {f : α → D} (l : List (α × Nat)) : intsD (l.map fun p => (f p.1, .int (p.2 : Int))) = true := by
  unfold intsD
  rw [List.all_map]
  exact List.all_eq_true.mpr fun _ _ => rfl
theorem neZ_n {l m : List (Str × Nat)} (nl : (l.map (·.1)).Nodup) (nm : (m.map (·.1)).Nodup) (h : ∀ k, look1 l k = look1 m k) : neZ (.dic 0 (namD l)) (.dic 0 (namD m)) = .ok (.bl false) := by
  show (if intsD (namD l) = true ∧ intsD (namD m) = true then Res.ok (D.bl (!dicEq (namD l) (namD m))) else .bad) = _
  rw [if_pos ⟨ints_of (f := D.str) l, ints_of (f := D.str) m⟩, show dicEq (namD l) (namD m) = true from dicEq_of eqK_s nl nm h]; rfl
theorem neZ_l {l m : List ((Nat × Str) × Nat)} (nl : (l.map (·.1)).Nodup) (nm : (m.map (·.1)).Nodup) (h : ∀ k, look1 l k = look1 m k) : neZ (.dic 1 (leaD l)) (.dic 1 (leaD m)) = .ok (.bl false) := by
  show (if intsD (leaD l) = true ∧ intsD (leaD m) = true then Res.ok (D.bl (!dicEq (leaD l) (leaD m))) else .bad) = _
  rw [if_pos ⟨ints_of (f := leK) l, ints_of (f := leK) m⟩, show dicEq (leaD l) (leaD m) = true from dicEq_of eqK_l nl nm h]; rfl
theorem leadsF_nodup : ∀ {ms : List Mv} {acc : List ((Nat × Str) × Nat)}, (acc.map (·.1)).Nodup → ((leadsF ms acc).map (·.1)).Nodup
  | [], _, h => h
  | m :: ms, _, h => leadsF_nodup (ms := ms) (put_nodup (put_nodup h))
theorem leadsF_len : ∀ {ms : List Mv} {acc : List ((Nat × Str) × Nat)}, (leadsF ms acc).length ≤ acc.length + 2 * ms.length
  | [], _ => Nat.le_refl _
  | m :: ms, acc => by
    have h := leadsF_len (ms := ms) (acc := put1 (put1 acc (m.1, plusS m.2.1) m.2.2) (m.2.2, minusS m.2.1) m.1)
    have a1 := put_len (l := acc) (key := (m.1, plusS m.2.1)) (v := m.2.2)
    have a2 := put_len (l := put1 acc (m.1, plusS m.2.1) m.2.2) (key := (m.2.2, minusS m.2.1)) (v := m.1)
    show (leadsF ms (put1 (put1 acc (m.1, plusS m.2.1) m.2.2) (m.2.2, minusS m.2.1) m.1)).length ≤ _
    rw [List.length_cons]; omega
theorem leadsF_ok {n : Nat} {ps : List Str} : ∀ {ms : List Mv} {acc : List ((Nat × Str) × Nat)}, (∀ m ∈ ms, m.1 < n ∧ m.2.2 < n ∧ m.2.1 ∈ ps) → (ms.Pairwise fun x y => ¬ (x.1 = y.1 ∧ x.2.1 = y.2.1)) → (ms.Pairwise fun x y => ¬ (x.2.2 = y.2.2 ∧ x.2.1 = y.2.1)) → LeaOk n ps acc →
    (∀ m ∈ ms, look1 acc (m.1, plusS m.2.1) = none ∧ look1 acc (m.2.2, minusS m.2.1) = none) → LeaOk n ps (leadsF ms acc)
  | [], _, _, _, _, h, _ => h
  | m :: ms, acc, hr, hf, hb, h, hn => by
    obtain ⟨f1, f2⟩ := List.pairwise_cons.mp hf
    obtain ⟨b1, b2⟩ := List.pairwise_cons.mp hb
    obtain ⟨r1, r2, r3⟩ := hr m (List.mem_cons_self ..)
    obtain ⟨n1, n2⟩ := hn m (List.mem_cons_self ..)
    refine leadsF_ok (ms := ms) (fun m hm => hr m (List.mem_cons_of_mem _ hm)) f2 b2 (h.add r1 r2 r3 n1 n2) fun y hy => ?_
    obtain ⟨k1, k2⟩ := hn y (List.mem_cons_of_mem _ hy)
    rw [look_put, look_put, look_put, look_put]
    refine ⟨?_, ?_⟩
    · rw [if_neg fun e => plus_minus _ _ (Prod.mk.inj e).2, if_neg fun e => f1 y hy ⟨(Prod.mk.inj e).1.symm, (plus_inj (Prod.mk.inj e).2).symm⟩]
      exact k1
    · rw [if_neg fun e => b1 y hy ⟨(Prod.mk.inj e).1.symm, (minus_inj (Prod.mk.inj e).2).symm⟩, if_neg fun e => plus_minus _ _ (Prod.mk.inj e).2.symm]
      exact k2
theorem put_new {α : Type} [DecidableEq α] {l : List (α × Nat)} {k : α} {v : Nat} (h : look1 l k = none) : put1 l k v = l ++ [(k, v)] := by
  unfold put1
  rw [any_look, h, if_neg (by exact Bool.false_ne_true)]
theorem put_fold (g : Str → Nat) : ∀ (l : List Str) (acc : List (Str × Nat)), l.Nodup → (∀ s ∈ l, look1 acc s = none) → l.foldl (fun acc s => put1 acc s (g s)) acc = acc ++ l.map fun s => (s, g s)
  | [], acc, _, _ => by simp
  | s :: l, acc, hn, h => by
    rw [List.nodup_cons] at hn
    rw [List.foldl_cons, put_new (h s (List.mem_cons_self ..)), put_fold g l _ hn.2 fun t ht => ?_, List.append_assoc]
    · rfl
    · rw [look_app, h t (List.mem_cons_of_mem _ ht), look_cons, if_neg (fun e => hn.1 (by have e : s = t := e; rw [e]; exact ht)), look_nil]; rfl
theorem sortN_eq {N : List (Str × Nat)} (h : (N.map (·.1)).Nodup) : sortN N = (sortT (N.map (·.1))).map fun s => (s, (look1 N s).getD 0) := by
  unfold sortN
  rw [put_fold (fun s => (look1 N s).getD 0) _ [] ((sortT_perm _).nodup_iff.mpr h) fun _ _ => look_nil]; rfl
theorem sortN_keys {N : List (Str × Nat)} (h : (N.map (·.1)).Nodup) : (sortN N).map (·.1) = sortT (N.map (·.1)) := by
  rw [sortN_eq h, List.map_map]
  exact List.map_id _
theorem sortN_mem {N : List (Str × Nat)} (h : (N.map (·.1)).Nodup) {p : Str × Nat} (hp : p ∈ sortN N) : p ∈ N := by
  rw [sortN_eq h] at hp
  obtain ⟨s, hs, rfl⟩ := List.mem_map.mp hp
  have hs := (sortT_perm _).mem_iff.mp hs
  cases z : look1 N s with
  | none => exact absurd hs (look_none.mp z)
  | some a => exact look_mem z
theorem made_of {n : Nat} {N : List (Str × Nat)} {ms : List Mv} {ps : List Str} (h1 : n ≤ 3000) (h2 : N.length < 64) (h3 : ms.length ≤ 5000) (h4 : ps.length < 64) (hn : ∀ p ∈ N, nameB p.1 = true ∧ p.2 < n) (hnd : (N.map (·.1)).Nodup) (hp : ∀ p ∈ ps, nameB p = true) (hm : MvOk n ps ms) : Made n (sortN N) (leadsF ms []) ps where
  le := h1
  nl := by
    have := congrArg List.length (sortN_keys hnd)
    rw [List.length_map, (sortT_perm _).length_eq, List.length_map] at this
    omega
  ll := by
    have := leadsF_len (ms := ms) (acc := [])
    rw [List.length_nil] at this
    omega
  pl := h4
  nn := fun p hp => hn p (sortN_mem hnd hp)
  ns := by
    rw [sortN_keys hnd]
    exact sort_strict hnd
  hp := hp
  lea := leadsF_ok hm.rng hm.fwd hm.bwd (LeaOk.nil n ps) fun _ _ => ⟨look_nil, look_nil⟩

end
section
theorem flat_len {β : Type} {f : Nat → List β} {c : Nat} (h : ∀ a, (f a).length = c) : ∀ l : List Nat, (l.flatMap f).length = l.length * c
  | [] => by simp
  | a :: l => by
    rw [List.flatMap_cons, List.length_append, h, flat_len h l, List.length_cons, Nat.succ_mul]; omega
theorem LeaOk.len {n : Nat} {ps : List Str} {l : List ((Nat × Str) × Nat)} (h : LeaOk n ps l) : l.length ≤ n * (2 * ps.length) := by
  have key := nodup_len (l := l.map (·.1)) (m := (List.range n).flatMap fun a => (ps.map fun p => (a, plusS p)) ++ ps.map fun p => (a, minusS p)) h.nodup fun k hk => by
    obtain ⟨p, hp, rfl⟩ := List.mem_map.mp hk
    obtain ⟨h1, _, q, hq, e⟩ := h.lea p hp
    refine List.mem_flatMap.mpr ⟨p.1.1, List.mem_range.mpr h1, List.mem_append.mpr ?_⟩
    rcases e with e | e
    · exact .inl (List.mem_map.mpr ⟨q, hq, by rw [← e]⟩)
    · exact .inr (List.mem_map.mpr ⟨q, hq, by rw [← e]⟩)
  rw [List.length_map, flat_len (c := 2 * ps.length) (fun a => by rw [List.length_append, List.length_map, List.length_map]; omega), List.length_range] at key
  exact key
structure NmsOk (n : Nat) (N : List (Str × Nat)) (c : Nat) : Prop where
  nn : ∀ p ∈ N, nameB p.1 = true ∧ p.2 < n
  nd : (N.map (·.1)).Nodup
  nl : N.length ≤ c
theorem NmsOk.put {n c : Nat} {N : List (Str × Nat)} {s : Str} {v : Nat} (h : NmsOk n N c) (hs : nameB s = true) (hv : v < n) : NmsOk n (put1 N s v) (c + 1) where
  nn := fun p hp => by
    rcases mem_put hp with hp | rfl
    · exact h.nn p hp
    · exact ⟨hs, hv⟩
  nd := put_nodup h.nd
  nl := Nat.le_trans put_len (Nat.succ_le_succ h.nl)
section
variable {α : Type} [DecidableEq α] {f : α → D} {k : D} {key : α}
end
structure Ch (S : Sto) (ps : List Str) : Prop where
  le : S.size ≤ 61
  nms : NmsOk S.size S.names 63
  hp : ∀ p ∈ ps, nameB p = true
  pl : ps.length ≤ 7
  lea : LeaOk S.size ps S.leads
section
variable {S : Sto} {ps : List Str}
theorem Ch.ll (h : Ch S ps) : S.leads.length ≤ 61 * (2 * 7) := Nat.le_trans h.lea.len (Nat.mul_le_mul h.le (Nat.mul_le_mul_left 2 h.pl))
theorem Ch.moves (h : Ch S ps) : m__law_moves [stoD S] = .ok (.lst (mvD (mvL S.leads))) := law_moves_L S h.lea (Nat.le_trans h.ll (by decide)) h.hp
theorem Ch.ml (h : Ch S ps) : (mvL S.leads).length ≤ 10000 := Nat.le_trans (mvL_len _) (Nat.le_trans h.ll (by decide))
end

end
section
theorem kb_ok {c : Str} {n j : Nat} {b : Env → SRes} {x : Addr} {d r : D} {ds : List D} (h : Sat { nx := fun e => outKB x j (.nx e) = .ok r } (b (envIB x c n j d ds))) : defKB c n j b x d ds = .ok r := by
  unfold defKB
  cases q : b (envIB x c n j d ds) <;> rw [q] at h <;> first | exact h.elim | exact h
theorem initB_ok (n : Nat) (names : List (Str × Nat)) (ps : List Str) (ms : List Mv) (hn : ∀ p ∈ names, nameB p.1 = true ∧ p.2 < n) (hnd : (names.map (·.1)).Nodup) (hnl : names.length < 64) (hp : ∀ p ∈ ps, nameB p = true) (hm : MvOk n ps ms) (hl : ms.length ≤ 10000) (x : Addr) :
    m_Store___init__B x (.dic 0 (namD names)) [.int (n : Int), .non, .lst (mvD ms)] = .ok (.tup [insD n (sortN names) (leadsF ms []), .dic 0 (namD names)]) := by
  refine kb_ok ?_
  unfold b_Store___init__B
  have hc := check_store_ok n names ps ms hn hnd hp hm hl
  have hg : guardX (m_check_store [.int (n : Int), .dic 0 (namD names), .lst (mvD ms)]) = .ok .non := by rw [hc]; rfl
  have env : envIB x "Store" 9 1 (.dic 0 (namD names)) [.int (n : Int), .non, .lst (mvD ms)] = [.ow (.sel x "Store" []), .sh (.int (n : Int)), .ow (.dic 0 (namD names)), .sh (.lst (mvD ms)), .no, .no, .no, .no, .no] := rfl
  rw [env]
  have s0 : ([] : List (Str × D)).length < 100 := by decide
  have s1 : ∀ a : Str × D, [a].length < 100 := fun _ => by simp
  have s2 : ∀ a b : Str × D, [a, b].length < 100 := fun _ _ => by simp
  have pg1 : ∀ d, putG [] "content_count" d = [(("content_count" : Str), d)] := fun _ => rfl
  have pg2 : ∀ a d, putG [(("content_count" : Str), a)] "start_contents" d = [(("content_count" : Str), a), ("start_contents", d)] := fun a d => by
    show (if ("content_count" : Str) = "start_contents" then _ else _) = _
    rw [if_neg (by decide +kernel)]; rfl
  have pg3 : ∀ a b d, putG [(("content_count" : Str), a), ("start_contents", b)] "leads" d = [(("content_count" : Str), a), ("start_contents", b), ("leads", d)] := fun a b d => by
    show (if ("content_count" : Str) = "leads" then _ else _ :: (if ("start_contents" : Str) = "leads" then _ else _)) = _
    rw [if_neg (by decide +kernel), if_neg (by decide +kernel)]; rfl
  rw [seq_eq]
  simp only [dropS_eq, aE_eq, consA_eq, nilA_eq, getP_eq, getB_eq, gz_, gs_, rGet_ok, rGetB_ow, rC_ok, r1_ok, hg, rDrop_ok, rSeq_nx]
  rw [seq_eq]
  simp only [setfS_eq, getP_eq, gz_, gs_, rGet_ok, rSetf_ok, if_pos s0, pg1, rSeq_nx, sz_]
  -- the names, sorted
  have lcd : lcKE 2 [8] (gnG 8) yesT (aE strF (consA (getP 8) nilA)) [.ow (.sel x "Store" [("content_count", .int (n : Int))]), .sh (.int (n : Int)), .ow (.dic 0 (namD names)), .sh (.lst (mvD ms)), .no, .no, .no, .no, .no] = .ok (.lst (txts (names.map (·.1)))) := by
    have hk : (namD names).map (·.1) = txts (names.map (·.1)) := by
      unfold namD txts
      rw [List.map_map, List.map_map]; rfl
    show lcE [8] (gnG 8) (fun _ => .ok ((namD names).map (·.1))) yesT (aE strF (consA (getP 8) nilA)) [.ow (.sel x "Store" [("content_count", .int (n : Int))]), .sh (.int (n : Int)), .no, .sh (.lst (mvD ms)), .no, .no, .no, .no, .no] = _
    rw [hk]
    refine (lcE_map (mapS id) rfl (by rw [txts_len, List.length_map]; exact le_line (by omega)) fun d hd => ?_).trans (by rw [map_txts, List.map_id])
    obtain ⟨s, _, rfl⟩ := List.mem_map.mp hd
    refine ⟨_, rfl, ?_⟩
    simp_arith [wipeE, List.foldl_cons, List.foldl_nil]
    rfl
  have hso : sortedF [.lst (txts (names.map (·.1)))] = .ok (.lst (txts (sortT (names.map (·.1))))) := sorted_txts (by rw [List.length_map]; exact hnl)
  have dgo : ∀ (l : List Str) (acc : List (Str × Nat)), (∀ s ∈ l, (look1 names s).isSome = true) → acc.length + l.length ≤ 1000 → dcompL (gnG 8) (getP 8) (op2 getD (getB 2) (getP 8)) [.ow (.sel x "Store" [("content_count", .int (n : Int))]), .sh (.int (n : Int)), .ow (.dic 0 (namD names)), .sh (.lst (mvD ms)), .no, .no, .no, .no, .no] (txts l) (namD acc) = .ok (.dic 0 (namD (l.foldl (fun acc s => put1 acc s ((look1 names s).getD 0)) acc))) := fun l => by
    induction l with
    | nil => exact fun acc _ _ => rfl
    | cons s l ih =>
      intro acc h hlen
      rw [List.length_cons] at hlen
      obtain ⟨a, ha⟩ := Option.isSome_iff_exists.mp (h s (List.mem_cons_self ..))
      have gl : getD (.dic 0 (namD names)) (.str s) = .ok (.int (a : Int)) := getD_fit (fit_n s) (by rw [lookD_n, ha]; rfl)
      have hlt : (namD acc).length < sizeLine := by
        rw [namD_len]
        exact Nat.lt_of_lt_of_le (show acc.length < 1000000 by omega) (le_line (Nat.le_refl _))
      have ih := ih (put1 acc s a) (fun t ht => h t (List.mem_cons_of_mem _ ht)) (by have := put_len (l := acc) (key := s) (v := a); omega)
      show dcompL _ _ _ _ (.str s :: txts l) _ = _
      unfold dcompL
      simp only [gnG_eq, getP_eq, getB_eq, op2_eq, gz_, gs_, sz_, ss_, rGet_ok, rGetB_ow, r2_ok, gl, fit_n, hlt, and_self, if_true, setD_n]
      rw [List.foldl_cons, ha]
      exact ih
  have dce : dcE [8] (gnG 8) (iE (aE sortedF (consA (lcKE 2 [8] (gnG 8) yesT (aE strF (consA (getP 8) nilA))) nilA))) (getP 8) (op2 getD (getB 2) (getP 8)) [.ow (.sel x "Store" [("content_count", .int (n : Int))]), .sh (.int (n : Int)), .ow (.dic 0 (namD names)), .sh (.lst (mvD ms)), .no, .no, .no, .no, .no] = .ok (.dic 0 (namD (sortN names))) := by
    unfold dcE
    rw [show (iE (aE sortedF (consA (lcKE 2 [8] (gnG 8) yesT (aE strF (consA (getP 8) nilA))) nilA))) [.ow (.sel x "Store" [("content_count", .int (n : Int))]), .sh (.int (n : Int)), .ow (.dic 0 (namD names)), .sh (.lst (mvD ms)), .no, .no, .no, .no, .no] = .ok (txts (sortT (names.map (·.1)))) by simp_arith [lcd, hso]]
    refine dgo _ [] (fun s hs => ?_) ?_
    · cases q : look1 names s with
      | none => exact absurd ((sortT_perm _).mem_iff.mp hs) (look_none.mp q)
      | some a => rfl
    · rw [(sortT_perm _).length_eq, List.length_map, List.length_nil]; omega
  rw [seq_eq]
  simp only [setfS_eq, dce, gz_, rSetf_ok, if_pos (s1 _), pg2, rSeq_nx, sz_]
  rw [seq_eq]
  simp only [ownS_eq, cE_eq, rOwn_ok, rSeq_nx, sz_, ss_]
  rw [seq_eq]
  refine Sat.rseq ?_
  have go : ∀ (l : List Mv) (acc : List ((Nat × Str) × Nat)) (y z w : Sl), (∀ m ∈ l, m ∈ ms) → acc.length + 2 * l.length ≤ 100000 → Sat { nx := fun e => ∃ y z w, e = [.ow (.sel x "Store" [("content_count", .int (n : Int)), ("start_contents", .dic 0 (namD (sortN names)))]), .sh (.int (n : Int)), .ow (.dic 0 (namD names)), .sh (.lst (mvD ms)), .ow (.dic 1 (leaD (leadsF l acc))), y, z, w, .no] }
      (forL (tupG 3 (consG (gnG 5) (consG (gnG 6) (consG (gnG 7) nilG)))) (seqS (putS 4 (aE tupD (consA (getP 5) (consA (op2 addD (cE (.str "+")) (getP 6)) nilA))) (getP 7))
  (putS 4 (aE tupD (consA (getP 7) (consA (op2 addD (cE (.str "-")) (getP 6)) nilA))) (getP 5))) (mvD l) [.ow (.sel x "Store" [("content_count", .int (n : Int)), ("start_contents", .dic 0 (namD (sortN names)))]), .sh (.int (n : Int)), .ow (.dic 0 (namD names)), .sh (.lst (mvD ms)), .ow (.dic 1 (leaD acc)), y, z, w, .no]) := fun l => by
    induction l with
    | nil => exact fun acc y z w _ _ => ⟨y, z, w, rfl⟩
    | cons m l ih =>
      intro acc y z w h hlen
      rw [List.length_cons] at hlen
      obtain ⟨a, q, b⟩ := m
      obtain ⟨_, _, hq⟩ := hm.rng _ (h _ (List.mem_cons_self ..))
      have hq : q ∈ ps := hq
      obtain ⟨p1, p2⟩ := plus_ok hp hq
      have t2 : ∀ a b : D, tupD [a, b] = .ok (.tup [a, b]) := fun a b => tup_ok (le_line (show 2 ≤ 1000000 by decide))
      have a1 := put_len (l := acc) (key := (a, plusS q)) (v := b)
      have a2 := put_len (l := put1 acc (a, plusS q) b) (key := (b, minusS q)) (v := a)
      have l1 : (leaD acc).length < sizeLine := by
        rw [leaD_len]
        exact Nat.lt_of_lt_of_le (show acc.length < 1000000 by omega) (le_line (Nat.le_refl _))
      have l2 : (leaD (put1 acc (a, plusS q) b)).length < sizeLine := by
        rw [leaD_len]
        exact Nat.lt_of_lt_of_le (show (put1 acc (a, plusS q) b).length < 1000000 by omega) (le_line (Nat.le_refl _))
      have := ih (put1 (put1 acc (a, plusS q) b) (b, minusS q) a) (.sh (.int (a : Int))) (.sh (.str q)) (.sh (.int (b : Int))) (fun m hm => h m (List.mem_cons_of_mem _ hm)) (by omega)
      show Sat _ (flowL _ _)
      simp_arith [p1, p2, t2, leK_of, fit_l, l1, true_and, setD_l, l2]
      exact this
  unfold VL.forS
  simp_arith []
  refine (go ms [] .no .no .no (fun _ h => h) (by rw [List.length_nil]; omega)).mono (fun e h => ?_) (fun _ h => h.elim) (fun _ h => h.elim) (fun _ h => h.elim) (fun _ _ _ h => h.elim) (fun _ h => h.elim)
  obtain ⟨y, z, w, rfl⟩ := h
  rw [thn_nx]
  simp_arith [setfS_eq, rSetf_ok, if_pos (s2 _ _), pg3]
  show (if x = x then _ else _) = _
  rw [if_pos rfl]; rfl

end
section
theorem asked10_ok {n : Nat} {N N' : List (Str × Nat)} {L L' : List ((Nat × Str) × Nat)} {ps : List Str} (h : Made n N L ps) (hN : (N'.map (·.1)).Nodup) (hL : (L'.map (·.1)).Nodup) (eN : ∀ k, look1 N k = look1 N' k) (eL : ∀ k, look1 L k = look1 L' k) :
    m__law_asked [insD n N L, .lst [.int (n : Int), .dic 0 (namD N'), .dic 1 (leaD L')]] = .ok (.bl true) := by
  refine m_ok ?_
  unfold b__law_asked
  have hnd : (N.map (·.1)).Nodup := h.ns.imp fun {x y} hr => ltS_ne hr
  have h2 : m_Store_starts [insD n N L] = .ok (.dic 0 (namD N)) := starts_ok hnd (by have := h.nl; omega)
  have h3 := store_moves_ok h
  have ht := law_table_ok h
  have hcl : isCls "Store" (insD n N L) = true := by
    unfold isCls insD
    simp
  have z1 : neZ (.dic 0 (namD N)) (.dic 0 (namD N')) = .ok (.bl false) := neZ_n hnd hN eN
  have z2 : neZ (.dic 1 (leaD (leadsF (movesS n L) []))) (.dic 1 (leaD L')) = .ok (.bl false) := neZ_l (leadsF_nodup List.nodup_nil) hL fun k => (h.look k).trans (eL k)
  have hlt : (namD N).length < sizeLine := by
    rw [namD_len]
    have := h.nl
    exact Nat.lt_of_lt_of_le (show N.length < 1000000 by omega) (le_line (Nat.le_refl _))
  generalize insD n N L = I at *
  have hput : ∀ env : Env, env[4]? = some (.ow (.dic 0 (namD N))) → putS 4 (cE (.str "q")) (cE (.int 0)) env = .nx (env.set 4 (.ow (.dic 0 (setD (namD N) (.str "q") (.int 0))))) := fun env he => by
    unfold putS
    rw [he]
    show (if keyFit 0 (.str "q") = true ∧ (namD N).length < sizeLine then SRes.nx _ else .bad) = _
    rw [if_pos ⟨fit_n _, hlt⟩]
  generalize D.dic 0 (namD N) = T1 at *
  generalize D.dic 1 (leaD (leadsF (movesS n L) [])) = T2 at *
  generalize D.dic 0 (namD N') = U1 at *
  generalize D.dic 1 (leaD L') = U2 at *
  generalize mvD (movesS n L) = Ms at *
  have g0 : seqGet [D.int (n : Int), T1, T2] 0 = .ok (.int (n : Int)) := @seqGet_of _ 0 _ rfl
  have g1 : seqGet [D.int (n : Int), T1, T2] 1 = .ok T1 := @seqGet_of _ 1 _ rfl
  have g2 : seqGet [D.int (n : Int), T1, T2] 2 = .ok T2 := @seqGet_of _ 2 _ rfl
  have k0 : seqGet [D.int (n : Int), U1, U2] 0 = .ok (.int (n : Int)) := @seqGet_of _ 0 _ rfl
  have k1 : seqGet [D.int (n : Int), U1, U2] 1 = .ok U1 := @seqGet_of _ 1 _ rfl
  have k2 : seqGet [D.int (n : Int), U1, U2] 2 = .ok U2 := @seqGet_of _ 2 _ rfl
  have nn : isNon (.lst [D.int (n : Int), T1, T2]) = false := rfl
  rw [seq_eq]
  simp only [setS_eq, aE_eq, consA_eq, nilA_eq, getP_eq, gz_, gs_, rGet_ok, rC_ok, r1_ok, ht, rSet_ok, rSeq_nx, env0, List.map_cons, List.map_nil, List.cons_append, List.nil_append, List.length_cons, List.length_nil, List.replicate, Nat.reduceSub, Nat.reduceAdd, sz_, ss_]
  rw [seq_eq]
  have hif : ∀ x y z w : Sl, ifS (orT (tE (op2 isNO (getP 2) (cE .non))) (orT (tE (op2 neO (op2 getD (getP 2) (cE (.int 0))) (op2 getD (getP 1) (cE (.int 0))))) (orT (tE (op2 neZ (op2 getD (getP 2) (cE (.int 1))) (op2 getD (getP 1) (cE (.int 1))))) (tE (op2 neZ (op2 getD (getP 2) (cE (.int 2))) (op2 getD (getP 1) (cE (.int 2)))))))) (retS (cE (.bl false))) nxS [x, .sh (.lst [D.int (n : Int), U1, U2]), .sh (.lst [D.int (n : Int), T1, T2]), z, w] = .nx [x, .sh (.lst [D.int (n : Int), U1, U2]), .sh (.lst [D.int (n : Int), T1, T2]), z, w] := fun x y z w => by
    simp_arith [g0, g1, g2, k0, k1, k2, z1, z2, nn, decide_true]
  rw [hif _ .no, rSeq_nx, seq_eq]
  simp only [ownS_eq, propE_eq, getP_eq, gz_, gs_, rGet_ok, rProp_ok, hcl, h3, rOwn_ok, rSeq_nx, sz_, ss_, if_true]
  rw [seq_eq, clearS_ow (ds := Ms) rfl, rSeq_nx, seq_eq]
  simp only [ownS_eq, propE_eq, getP_eq, gz_, gs_, rGet_ok, rProp_ok, hcl, h2, rOwn_ok, rSeq_nx, sz_, ss_, if_true]
  rw [seq_eq, hput _ rfl, rSeq_nx]
  rfl

end
section
theorem look_perm {α : Type} [DecidableEq α] {l m : List (α × Nat)} (h : (l.map (·.1)).Nodup) (p : m.Perm l) (k : α) : look1 m k = look1 l k := by
  have h' : (m.map (·.1)).Nodup := (p.map _).nodup_iff.mpr h
  exact Option.ext fun v => ⟨fun e => look_of_mem h (p.mem_iff.mp (look_mem e)), fun e => look_of_mem h' (p.mem_iff.mpr (look_mem e))⟩
theorem MvOk.perm {n : Nat} {ps : List Str} {ms m' : List Mv} (h : MvOk n ps ms) (p : m'.Perm ms) : MvOk n ps m' where
  rng := fun m hm => h.rng m (p.mem_iff.mp hm)
  fwd := (p.pairwise_iff (fun {x y} hr e => hr ⟨e.1.symm, e.2.symm⟩)).mpr h.fwd
  bwd := (p.pairwise_iff (fun {x y} hr e => hr ⟨e.1.symm, e.2.symm⟩)).mpr h.bwd
theorem leads_perm {n : Nat} {ps : List Str} {ms m' : List Mv} (h : MvOk n ps ms) (p : m'.Perm ms) (k : Nat × Str) : look1 (leadsF m' []) k = look1 (leadsF ms []) k := by
  refine Option.ext fun v => ?_
  have h' := h.perm p
  rw [look_leads _ _ _ _ h.fwd h.bwd, look_leads _ _ _ _ h'.fwd h'.bwd]
  simp only [p.mem_iff]
theorem imm_mvD : ∀ ms : List Mv, immut.immuts (mvD ms) = true
  | [] => rfl
  | m :: ms => by
    show (immut (mvT m) && immut.immuts (mvD ms)) = true
    rw [imm_mvD ms]; rfl
theorem imm_vals {α : Type} {f : α → D} : ∀ l : List (α × Nat), immut.immuts ((l.map fun p => (f p.1, D.int (p.2 : Int))).map (·.2)) = true
  | [] => rfl
  | p :: l => by
    show (immut (D.int (p.2 : Int)) && immut.immuts ((l.map fun p => (f p.1, D.int (p.2 : Int))).map (·.2))) = true
    rw [imm_vals l]; rfl
theorem tree_mvD {ms : List Mv} (h : ∀ m ∈ ms, okS m.2.1 = true) : treeB 3 (.lst (mvD ms)) = true := by
  show (mvD ms).all (treeB 2) = true
  refine List.all_eq_true.mpr fun d hd => ?_
  obtain ⟨m, hm, rfl⟩ := List.mem_map.mp hd
  show [D.int (m.1 : Int), .str m.2.1, .int (m.2.2 : Int)].all (treeB 1) = true
  simp [treeB, h m hm]
theorem ne2_same {N : List (Str × Nat)} {ms : List Mv} (hn : (N.map (·.1)).Nodup) (h : ∀ m ∈ ms, okS m.2.1 = true) : ne2D (.lst [.dic 0 (namD N), .lst (mvD ms)]) (.lst [.dic 0 (namD N), .lst (mvD ms)]) = .ok (.bl false) := by
  have t := tree_mvD h
  have c := tree_cmp t (by decide)
  have e : eqD (.lst (mvD ms)) (.lst (mvD ms)) = true := (tree_eqv 3 _ _ t t).mpr rfl
  have d : dicEq (namD N) (namD N) = true := dicEq_of eqK_s hn hn fun _ => rfl
  have s : sameD (namD N) (namD N) = true := (Bool.and_eq_true_iff.mp d).2
  show (if (intsD (namD N) = true ∧ intsD (namD N) = true) ∧ (cmpOk (.lst (mvD ms)) = true ∧ cmpOk (.lst (mvD ms)) = true) then (if sameD (namD N) (namD N) = true then Res.ok (D.bl (!(dicEq (namD N) (namD N) && eqD (.lst (mvD ms)) (.lst (mvD ms))))) else .bad) else .bad) = _
  rw [if_pos ⟨⟨ints_of (f := D.str) N, ints_of (f := D.str) N⟩, c, c⟩, if_pos s, d, e]; rfl
theorem ch_of {S : Sto} {ss ps : List Str} (h : StoOk S ss ps) (hs : ∀ s ∈ ss, nameB s = true) (hp : ∀ p ∈ ps, nameB p = true) (pl : ps.length ≤ 7) (sl : ss.length ≤ 63) : Ch S ps where
  le := by have := h.le; omega
  nms := ⟨fun p hq => ⟨hs p.1 ((h.nkey p.1).mp (by rw [look_of_mem h.nodup (k := p.1) (v := p.2) hq]; rfl)), h.nval p hq⟩, h.nodup, by
    have := nodup_len h.nodup (m := ss) fun s hs => (h.nkey s).mp (by
      cases q : look1 S.names s with
      | none => exact absurd hs (look_none.mp q)
      | some a => rfl)
    rw [List.length_map] at this
    omega⟩
  hp := hp
  pl := pl
  lea := h.lea
theorem ch_nil {ps : List Str} (hp : ∀ p ∈ ps, nameB p = true) (pl : ps.length ≤ 7) : Ch ⟨0, [], []⟩ ps where
  le := Nat.zero_le _
  nms := ⟨(fun _ h => nomatch h), List.nodup_nil, Nat.zero_le _⟩
  hp := hp
  pl := pl
  lea := .nil 0 ps
theorem ok_name {s : Str} (h : nameB s = true) : okS s = true := by
  obtain ⟨_, _, _, _, h3, _⟩ := name_parts h
  refine okS_of fun c hc => ?_
  exact (h3 c hc).elim (low_lt c) (dig_lt c)
theorem m_law_ok : ∀ ns : List Int, ns.length ≤ 63 → (∀ z ∈ ns, Builtin.Int.intBits z ≤ 1048576) → m_law [.scr ns] = .ok (.bl true) := by
  intro ns _ _
  refine m_ok ?_
  unfold b_law
  obtain ⟨n1, e1, a1, b1⟩ := many_ex ns 0 (by decide)
  have e1' : m__law_many [.scr ns, .int 0] = .ok (.int (n1 : Int)) := e1
  obtain ⟨ps, hp1, hp2, hp3⟩ := names_ex ns 1 n1 (by decide) (by omega)
  have hp1' : m__law_names [.scr ns, .int 1, .int (n1 : Int)] = .ok (.lst (txts ps)) := hp1
  have d1 : m__law_draw [.scr ns, .int 0, .int 1] = .ok (.int (dr ns 0 1)) := draw_nn ns 0 1 (by decide) (by decide)
  have d2 : m__law_draw [.scr ns, .int 0, .int 2] = .ok (.int (dr ns 0 2)) := draw_nn ns 0 2 (by decide) (by decide)
  have d3 : m__law_draw [.scr ns, .int 0, .int 3] = .ok (.int (dr ns 0 3)) := draw_nn ns 0 3 (by decide) (by decide)
  have d4 : m__law_draw [.scr ns, .int 0, .int 4] = .ok (.int (dr ns 0 4)) := draw_nn ns 0 4 (by decide) (by decide)
  obtain ⟨n2, hn2, hn2l⟩ : ∃ n2 : Nat, (1 : Int) + dr ns 0 1 % 4 = (n2 : Int) ∧ n2 ≤ 4 := ⟨(1 + dr ns 0 1 % 4).toNat, by omega, by omega⟩
  obtain ⟨ss, hs1, hs2, hs3⟩ := names_ex ns 2 n2 (by decide) (by omega)
  have hs1' : m__law_names [.scr ns, .int 2, .int (n2 : Int)] = .ok (.lst (txts ss)) := hs1
  have pl7 : ps.length ≤ 7 := by omega
  have l3 : ∀ a b c : D, lstD [a, b, c] = .ok (.lst [a, b, c]) := fun a b c => lst_ok (le_line (show 3 ≤ 1000000 by decide))
  have l2 : ∀ a b : D, lstD [a, b] = .ok (.lst [a, b]) := fun a b => lst_ok (le_line (show 2 ≤ 1000000 by decide))
  have l1 : ∀ a : D, lstD [a] = .ok (.lst [a]) := fun a => lst_ok (le_line (show 1 ≤ 1000000 by decide))
  have t3 : ∀ a b c : D, tupD [a, b, c] = .ok (.tup [a, b, c]) := fun a b c => tup_ok (le_line (show 3 ≤ 1000000 by decide))
  have t2 : ∀ a b : D, tupD [a, b] = .ok (.tup [a, b]) := fun a b => tup_ok (le_line (show 2 ≤ 1000000 by decide))
  have env : env0 12 [.scr ns] = [.sh (.scr ns), .no, .no, .no, .no, .no, .no, .no, .no, .no, .no, .no] := rfl
  rw [env, seq_eq]
  simp only [setS_eq, op2_eq, aE_eq, consA_eq, nilA_eq, getP_eq, cE_eq, gz_, gs_, rGet_ok, rC_ok, r1_ok, r2_ok, e1', hp1', rSet_ok, rSeq_nx, sz_, ss_]
  rw [seq_eq]
  simp only [setS_eq, op2_eq, aE_eq, consA_eq, nilA_eq, getP_eq, cE_eq, gz_, gs_, rGet_ok, rC_ok, r1_ok, r2_ok, d1, mod_int (show (0 : Int) < 4 by decide), add_int, hn2, hs1', rSet_ok, rSeq_nx, sz_, ss_]
  rw [seq_eq]
  simp only [setS_eq, op2_eq, aE_eq, consA_eq, nilA_eq, getP_eq, cE_eq, gz_, gs_, rGet_ok, rC_ok, r1_ok, r2_ok, d2, mod_int (show (0 : Int) < 8 by decide), rSet_ok, rSeq_nx, sz_, ss_]
  generalize dr ns 0 2 % 8 = md
  rw [seq_eq]
  simp only [setS_eq, aE_eq, consA_eq, nilA_eq, cE_eq, rC_ok, r1_ok, l3, rSet_ok, rSeq_nx, sz_, ss_]
  -- the store
  have hst : ∃ S, Ch S ps ∧ ifS (tE (op2 gtD (getP 3) (cE (.int 0)))) (setS 4 (aE m__law_store (consA (getP 0) (consA (cE (.int 3)) (consA (getP 2) (consA (getP 1) nilA)))))) nxS [.sh (.scr ns), .sh (.lst (txts ps)), .sh (.lst (txts ss)), .sh (.int md), .sh (.lst [.int 0, .dic 0 [], .dic 1 []]), .no, .no, .no, .no, .no, .no, .no] = .nx [.sh (.scr ns), .sh (.lst (txts ps)), .sh (.lst (txts ss)), .sh (.int md), .sh (stoD S), .no, .no, .no, .no, .no, .no, .no] := by
    obtain ⟨S, hS1, hS, _⟩ := store_ex ns 3 (by decide) ss ps (by omega) (by omega) hp3
    have hS1' : m__law_store [.scr ns, .int 3, .lst (txts ss), .lst (txts ps)] = .ok (stoD S) := hS1
    by_cases c : 0 < md
    · refine ⟨S, ch_of hS hs3 hp3 pl7 (by omega), ?_⟩
      generalize stoD S = SD at *
      simp only [ifS_eq, tE_eq, op2_eq, getP_eq, cE_eq, gz_, gs_, rGet_ok, r2_ok, gt_int, decide_eq_true c, r1_ok, toB_ok, rIf_t, setS_eq, aE_eq, consA_eq, nilA_eq, rC_ok, hS1', rSet_ok, sz_, ss_]
    · refine ⟨⟨0, [], []⟩, ch_nil hp3 pl7, ?_⟩
      simp only [ifS_eq, tE_eq, op2_eq, getP_eq, cE_eq, gz_, gs_, rGet_ok, r2_ok, gt_int, decide_eq_false c, r1_ok, toB_ok, rIf_f, nxS_eq]
      rfl
  obtain ⟨S1, hc1, hst⟩ := hst
  rw [seq_eq, hst, rSeq_nx]
  have hst2 : ∃ S, Ch S ps ∧ ifS (tE (op2 gtD (getP 3) (cE (.int 5)))) (setS 4 (aE m__law_big_store (consA (getP 0) (consA (cE (.int 3)) (consA (getP 2) (consA (getP 1) nilA)))))) nxS [.sh (.scr ns), .sh (.lst (txts ps)), .sh (.lst (txts ss)), .sh (.int md), .sh (stoD S1), .no, .no, .no, .no, .no, .no, .no] = .nx [.sh (.scr ns), .sh (.lst (txts ps)), .sh (.lst (txts ss)), .sh (.int md), .sh (stoD S), .no, .no, .no, .no, .no, .no, .no] := by
    obtain ⟨S, hS1, hS⟩ := big_store_ex ns 3 (by decide) ss ps (by omega) (by omega) hp3
    have hS1' : m__law_big_store [.scr ns, .int 3, .lst (txts ss), .lst (txts ps)] = .ok (stoD S) := hS1
    by_cases c : 5 < md
    · refine ⟨S, ch_of hS hs3 hp3 pl7 (by omega), ?_⟩
      generalize stoD S = SD at *
      generalize stoD S1 = SD1 at *
      simp only [ifS_eq, tE_eq, op2_eq, getP_eq, cE_eq, gz_, gs_, rGet_ok, r2_ok, gt_int, decide_eq_true c, r1_ok, toB_ok, rIf_t, setS_eq, aE_eq, consA_eq, nilA_eq, rC_ok, hS1', rSet_ok, sz_, ss_]
    · refine ⟨S1, hc1, ?_⟩
      simp only [ifS_eq, tE_eq, op2_eq, getP_eq, cE_eq, gz_, gs_, rGet_ok, r2_ok, gt_int, decide_eq_false c, r1_ok, toB_ok, rIf_f, nxS_eq]
  obtain ⟨S, hc, hst2⟩ := hst2
  clear hst
  rw [seq_eq, hst2, rSeq_nx]
  clear hst2 hc1 S1
  have hmv := hc.moves
  have hml := hc.ml
  have hmo := mvL_ok hc.lea
  have g0 := getS0 S
  have g1 := getS1 S
  have hdn : dictF [.dic 0 (namD S.names)] = .ok (.dic 0 (namD S.names)) := rfl
  have hlm : lenF [.lst (mvD (mvL S.leads))] = .ok (.int ((mvL S.leads).length : Int)) := by
    rw [len_lst]
    unfold mvD
    rw [List.length_map]
  have q0 := Int.emod_nonneg (dr ns 0 3) (show ((mvL S.leads).length : Int) + 1 ≠ 0 by omega)
  obtain ⟨c, hcc⟩ : ∃ c : Nat, dr ns 0 3 % (((mvL S.leads).length : Int) + 1) = (c : Int) := ⟨(dr ns 0 3 % (((mvL S.leads).length : Int) + 1)).toNat, by omega⟩
  have p0 : ((mvL S.leads).drop c ++ (mvL S.leads).take c).Perm (mvL S.leads) := by
    refine (List.perm_append_comm).trans ?_
    rw [List.take_append_drop]
  have sa : sliceD (.lst (mvD (mvL S.leads))) (some (c : Int)) none = .ok (.lst (mvD ((mvL S.leads).drop c))) := by
    rw [sl_lst, cutD_from]
    unfold mvD
    rw [List.map_drop]
  have sb : sliceD (.lst (mvD (mvL S.leads))) none (some (c : Int)) = .ok (.lst (mvD ((mvL S.leads).take c))) := by
    rw [sl_lst, cutD_to]
    unfold mvD
    rw [List.map_take]
  have mapp : ∀ a b : List Mv, mvD a ++ mvD b = mvD (a ++ b) := fun a b => by unfold mvD; rw [List.map_append]
  have mlen : ∀ a : List Mv, (mvD a).length = a.length := fun a => List.length_map ..
  have sc : catI (.lst (mvD ((mvL S.leads).drop c))) (.lst (mvD ((mvL S.leads).take c))) = .ok (.lst (mvD ((mvL S.leads).drop c ++ (mvL S.leads).take c))) := by
    rw [catI_lst (imm_mvD _) (imm_mvD _) (by rw [mlen, mlen, List.length_drop, List.length_take]; exact le_line (by omega)), mapp]
  generalize hSD : stoD S = SD at *
  rw [seq_eq]
  simp only [ownS_eq, aE_eq, consA_eq, nilA_eq, getP_eq, gz_, gs_, rGet_ok, rC_ok, r1_ok, hmv, rOwn_ok, rSeq_nx, sz_, ss_]
  rw [seq_eq]
  simp only [setS_eq, op2_eq, aE_eq, consA_eq, nilA_eq, getP_eq, getB_eq, cE_eq, gz_, gs_, rGet_ok, rGetB_ow, rC_ok, r1_ok, r2_ok, d3, hlm, add_int, mod_int (show (0 : Int) < ((mvL S.leads).length : Int) + 1 by omega), hcc, rSet_ok, rSeq_nx, sz_, ss_]
  rw [seq_eq]
  simp only [ownS_eq, op2_eq, slE_eq, someO_eq, noO_eq, getP_eq, getB_eq, gz_, gs_, rGet_ok, rGetB_ow, r1_ok, toI_ok, rSl_ok, r2_ok, sa, sb, sc, rOwn_ok, rSeq_nx, sz_, ss_]
  rw [seq_eq]
  simp only [ownS_eq, op2_eq, aE_eq, consA_eq, nilA_eq, getP_eq, cE_eq, gz_, gs_, rGet_ok, rC_ok, r1_ok, r2_ok, g1, hdn, rOwn_ok, rSeq_nx, sz_, ss_]
  -- turned round
  have htr : ∃ (ms : List Mv) (N : List (Str × Nat)) (z : Sl), ms.Perm (mvL S.leads) ∧ N.Perm S.names ∧ ifS (tE (op2 eqO (op2 modD (aE m__law_draw (consA (getP 0) (consA (cE (.int 0)) (consA (cE (.int 4)) nilA)))) (cE (.int 2))) (cE (.int 1)))) (seqS (ownS 5 (revIE (getB 5)))
  (seqS (ownS 7 (cE (.dic 0 [])))
  (forS (gnG 11) (iE (revE (aE listX (consA (op2 getD (getP 4) (cE (.int 1))) nilA)))) (putS 7 (getP 11) (op2 getD (op2 getD (getP 4) (cE (.int 1))) (getP 11)))))) nxS [.sh (.scr ns), .sh (.lst (txts ps)), .sh (.lst (txts ss)), .sh (.int md), .sh SD, .ow (.lst (mvD ((mvL S.leads).drop c ++ (mvL S.leads).take c))), .sh (.int (c : Int)), .ow (.dic 0 (namD S.names)), .no, .no, .no, .no] = .nx [.sh (.scr ns), .sh (.lst (txts ps)), .sh (.lst (txts ss)), .sh (.int md), .sh SD, .ow (.lst (mvD ms)), .sh (.int (c : Int)), .ow (.dic 0 (namD N)), .no, .no, .no, z] := by
    generalize (mvL S.leads).drop c ++ (mvL S.leads).take c = ms0 at p0
    by_cases k : dr ns 0 4 % 2 = 1
    · have hrv : revI (.lst (mvD ms0)) = .ok (.lst (mvD ms0.reverse)) := by
        rw [revI_lst (imm_mvD _)]
        unfold mvD
        rw [List.map_reverse]
      have lx : listX [.dic 0 (namD S.names)] = .ok (.lst (txts (S.names.map (·.1)))) := listX_n _
      have rv : revD (.lst (txts (S.names.map (·.1)))) = .ok (.lst (txts (S.names.reverse.map (·.1)))) := by
        rw [rev_lst, List.map_reverse]
        unfold txts
        rw [List.map_reverse]
      have nd : (S.names.reverse.map (·.1)).Nodup := ((List.reverse_perm S.names).map _).nodup_iff.mpr hc.nms.nd
      have go : ∀ (l done : List (Str × Nat)) (z : Sl), S.names.reverse = done ++ l → ∃ z', forL (gnG 11) (putS 7 (getP 11) (op2 getD (op2 getD (getP 4) (cE (.int 1))) (getP 11))) (txts (l.map (·.1))) [.sh (.scr ns), .sh (.lst (txts ps)), .sh (.lst (txts ss)), .sh (.int md), .sh SD, .ow (.lst (mvD ms0.reverse)), .sh (.int (c : Int)), .ow (.dic 0 (namD done)), .no, .no, .no, z] = .nx [.sh (.scr ns), .sh (.lst (txts ps)), .sh (.lst (txts ss)), .sh (.int md), .sh SD, .ow (.lst (mvD ms0.reverse)), .sh (.int (c : Int)), .ow (.dic 0 (namD S.names.reverse)), .no, .no, .no, z'] := by
        intro l
        induction l with
        | nil =>
          intro done z e
          rw [List.append_nil] at e
          rw [e]
          exact ⟨z, rfl⟩
        | cons p l ih =>
          intro done z e
          have hm : p ∈ S.names := List.mem_reverse.mp (by rw [e]; exact List.mem_append_right _ (List.mem_cons_self ..))
          have gl : getD (.dic 0 (namD S.names)) (.str p.1) = .ok (.int (p.2 : Int)) := getD_fit (fit_n p.1) (by rw [lookD_n, look_of_mem hc.nms.nd hm]; rfl)
          have hdl : done.length ≤ 63 := by
            have := hc.nms.nl
            have h2 := congrArg List.length e
            rw [List.length_reverse, List.length_append] at h2
            omega
          have hlt : (namD done).length < sizeLine := by
            rw [namD_len]
            exact Nat.lt_of_lt_of_le (show done.length < 1000000 by omega) (le_line (Nat.le_refl _))
          have hnone : look1 done p.1 = none := by
            refine look_none.mpr fun h => ?_
            rw [e, List.map_append, List.map_cons] at nd
            exact (List.nodup_append.mp nd).2.2 _ h _ (List.mem_cons_self ..) rfl
          have hput : put1 done p.1 p.2 = done ++ [p] := put_new hnone
          obtain ⟨z', ih⟩ := ih (done ++ [p]) (.sh (.str p.1)) (by rw [e, List.append_assoc]; rfl)
          refine ⟨z', ?_⟩
          show flowL (putS 7 (getP 11) (op2 getD (op2 getD (getP 4) (cE (.int 1))) (getP 11)) _) _ = _
          simp only [putS_eq, op2_eq, getP_eq, cE_eq, gz_, gs_, sz_, ss_, rGet_ok, r2_ok, g1, gl, rPut_ok, fit_n, hlt, true_and, if_true, setD_n, hput]
          exact ih
      obtain ⟨z, go⟩ := go S.names.reverse [] .no rfl
      refine ⟨ms0.reverse, S.names.reverse, z, (List.reverse_perm _).trans p0, List.reverse_perm _, ?_⟩
      have hF : ∀ E : Env, forS (gnG 11) (iE (revE (aE listX (consA (op2 getD (getP 4) (cE (.int 1))) nilA)))) (putS 7 (getP 11) (op2 getD (op2 getD (getP 4) (cE (.int 1))) (getP 11))) E = ofA (iE (revE (aE listX (consA (op2 getD (getP 4) (cE (.int 1))) nilA))) E) E fun ds => forL (gnG 11) (putS 7 (getP 11) (op2 getD (op2 getD (getP 4) (cE (.int 1))) (getP 11))) ds E := fun _ => rfl
      have hA : ∀ (ds : List D) (E : Env) (k : List D → SRes), ofA (Res.ok ds) E k = k ds := fun _ _ _ => rfl
      have hR : ∀ (φ : Env → Res D) (E : Env), revIE φ E = r1 revI (φ E) := fun φ E => by
        unfold revIE
        cases φ E <;> rfl
      simp only [ifS_eq, tE_eq, op2_eq, aE_eq, consA_eq, nilA_eq, getP_eq, getB_eq, cE_eq, gz_, gs_, rGet_ok, rGetB_ow, rC_ok, r1_ok, r2_ok, d4, mod_int (show (0 : Int) < 2 by decide), eqO_int, decide_eq_true k, toB_ok, rIf_t, seq_eq, ownS_eq, hR, hrv, rOwn_ok, rSeq_nx, sz_, ss_, hF, iE_eq, revE_eq, g1, lx, rv, items_lst, hA]
      exact go
    · refine ⟨ms0, S.names, .no, p0, .refl _, ?_⟩
      simp only [ifS_eq, tE_eq, op2_eq, aE_eq, consA_eq, nilA_eq, getP_eq, cE_eq, gz_, gs_, rGet_ok, rC_ok, r1_ok, r2_ok, d4, mod_int (show (0 : Int) < 2 by decide), eqO_int, decide_eq_false k, toB_ok, rIf_f, nxS_eq]
  obtain ⟨ms, N, z, pm, pn, htr⟩ := htr
  rw [seq_eq, htr, rSeq_nx]
  clear htr
  have hok := hmo.perm pm
  have nnd : (N.map (·.1)).Nodup := (pn.map _).nodup_iff.mpr hc.nms.nd
  have nnn : ∀ p ∈ N, nameB p.1 = true ∧ p.2 < S.size := fun p hp => hc.nms.nn p (pn.mem_iff.mp hp)
  have nln : N.length < 64 := by rw [pn.length_eq]; exact Nat.lt_succ_of_le hc.nms.nl
  have mln : ms.length ≤ 10000 := by rw [pm.length_eq]; exact hml
  have mln5 : ms.length ≤ 5000 := by
    rw [pm.length_eq]
    exact Nat.le_trans (mvL_len _) (Nat.le_trans hc.ll (by decide))
  have hInit := initB_ok S.size N ps ms nnn nnd nln hc.hp hok mln
  have M := made_of (ps := ps) (Nat.le_trans hc.le (by decide)) nln mln5 (by omega) nnn nnd hc.hp hok
  have hask : m__law_asked [insD S.size (sortN N) (leadsF ms []), SD] = .ok (.bl true) := by
    rw [← hSD]
    exact asked10_ok M hc.nms.nd hc.lea.nodup (fun k => (look_sortN N k).trans (look_perm hc.nms.nd pn k)) fun k => (leads_perm hmo pm k).trans (look_leads_of hc.lea k)
  have hdi : dictI [.dic 0 (namD N)] = .ok (.dic 0 (namD N)) := dictI_dic (imm_vals (f := D.str) N)
  have hli : listI [.lst (mvD ms)] = .ok (.lst (mvD ms)) := listI_lst (imm_mvD _)
  rw [seq_eq]
  simp only [setS_eq, aE_eq, consA_eq, nilA_eq, getB_eq, gz_, gs_, rGetB_ow, rC_ok, r1_ok, hdi, hli, l2, rSet_ok, rSeq_nx, sz_, ss_]
  rw [seq_eq, mkBS_ok (t := 0) (t' := 0) (es := namD N) (es' := namD N) (ls := mvD ms) (d1 := .int (S.size : Int)) (c := "Store") (gs := [("content_count", .int (S.size : Int)), ("start_contents", .dic 0 (namD (sortN N))), ("leads", .dic 1 (leaD (leadsF ms [])))]) rfl rfl
    (by simp only [op2_eq, getP_eq, cE_eq, gz_, gs_, rGet_ok, r2_ok, g0]) hInit (by
      have h1 : flatG (.dic 0 (namD (sortN N))) = true := imm_vals (f := D.str) (sortN N)
      have h2 : flatG (.dic 1 (leaD (leadsF ms []))) = true := imm_vals (f := leK) (leadsF ms [])
      show (flatG (.int (S.size : Int)) && (flatG (.dic 0 (namD (sortN N))) && (flatG (.dic 1 (leaD (leadsF ms []))) && true))) = true
      rw [h1, h2]; rfl) (imm_vals (f := D.str) N), rSeq_nx]
  simp only [sz_, ss_]
  have eI : D.ins "Store" [("content_count", .int (S.size : Int)), ("start_contents", .dic 0 (namD (sortN N))), ("leads", .dic 1 (leaD (leadsF ms [])))] = insD S.size (sortN N) (leadsF ms []) := rfl
  rw [eI]
  generalize insD S.size (sortN N) (leadsF ms []) = I1 at *
  have hne2 := ne2_same (ms := ms) nnd fun m hm => ok_name (hc.hp _ (hok.rng m hm).2.2)
  have lx : listX [.dic 0 (namD N)] = .ok (.lst (txts (N.map (·.1)))) := listX_n _
  have neL : neO (.lst (txts (N.map (·.1)))) (.lst (txts (N.map (·.1)))) = .ok (.bl false) := neO_self (n := 2) (by
    show (txts (N.map (·.1))).all (treeB 1) = true
    refine List.all_eq_true.mpr fun d hd => ?_
    obtain ⟨s, hs, rfl⟩ := List.mem_map.mp hd
    obtain ⟨p, hp, rfl⟩ := List.mem_map.mp hs
    exact ok_name (nnn p hp).1) (by decide)
  have kept0 : getD (.lst [.dic 0 (namD N), .lst (mvD ms)]) (.int 0) = .ok (.dic 0 (namD N)) := by
    rw [get_lst]
    exact @seqGet_of _ 0 _ rfl
  have hltN : (namD N).length < sizeLine := by
    rw [namD_len]
    exact Nat.lt_of_lt_of_le (show N.length < 1000000 by omega) (le_line (Nat.le_refl _))
  have hput : ∀ E : Env, E[7]? = some (.ow (.dic 0 (namD N))) → putS 7 (cE (.str "q")) (cE (.int 0)) E = .nx (E.set 7 (.ow (.dic 0 (setD (namD N) (.str "q") (.int 0))))) := fun E he => by
    unfold putS
    rw [he]
    show (if keyFit 0 (.str "q") = true ∧ (namD N).length < sizeLine then SRes.nx _ else .bad) = _
    rw [if_pos ⟨fit_n _, hltN⟩]
  generalize D.dic 0 (namD N) = T at *
  generalize mvD ms = MS at *
  generalize D.lst (txts (N.map (·.1))) = TX at *
  have hck : ∀ z10 z11 : Sl, ifS (orT (lendT 5 (lendT 7 (tE (op2 ne2D (aE lstD (consA (getP 7) (consA (getP 5) nilA))) (getP 8))))) (lendT 7 (tE (op2 neO (aE listX (consA (getP 7) nilA)) (aE listX (consA (op2 getD (getP 8) (cE (.int 0))) nilA)))))) (retS (cE (.bl false))) nxS [.sh (.scr ns), .sh (.lst (txts ps)), .sh (.lst (txts ss)), .sh (.int md), .sh SD, .ow (.lst MS), .sh (.int (c : Int)), .ow T, .sh (.lst [T, .lst MS]), .sh I1, z10, z11] = .nx [.sh (.scr ns), .sh (.lst (txts ps)), .sh (.lst (txts ss)), .sh (.int md), .sh SD, .ow (.lst MS), .sh (.int (c : Int)), .ow T, .sh (.lst [T, .lst MS]), .sh I1, z10, z11] := fun z10 z11 => by
    have c1 : lendT 5 (lendT 7 (tE (op2 ne2D (aE lstD (consA (getP 7) (consA (getP 5) nilA))) (getP 8)))) [.sh (.scr ns), .sh (.lst (txts ps)), .sh (.lst (txts ss)), .sh (.int md), .sh SD, .ow (.lst MS), .sh (.int (c : Int)), .ow T, .sh (.lst [T, .lst MS]), .sh I1, z10, z11] = .ok false := by
      show noexT (noexT (tE (op2 ne2D (aE lstD (consA (getP 7) (consA (getP 5) nilA))) (getP 8)) [.sh (.scr ns), .sh (.lst (txts ps)), .sh (.lst (txts ss)), .sh (.int md), .sh SD, .sh (.lst MS), .sh (.int (c : Int)), .sh T, .sh (.lst [T, .lst MS]), .sh I1, z10, z11])) = _
      simp only [tE_eq, op2_eq, aE_eq, consA_eq, nilA_eq, getP_eq, gz_, gs_, rGet_ok, rC_ok, r1_ok, r2_ok, l2, hne2, toB_ok]
      rfl
    have c2 : lendT 7 (tE (op2 neO (aE listX (consA (getP 7) nilA)) (aE listX (consA (op2 getD (getP 8) (cE (.int 0))) nilA)))) [.sh (.scr ns), .sh (.lst (txts ps)), .sh (.lst (txts ss)), .sh (.int md), .sh SD, .ow (.lst MS), .sh (.int (c : Int)), .ow T, .sh (.lst [T, .lst MS]), .sh I1, z10, z11] = .ok false := by
      show noexT (tE (op2 neO (aE listX (consA (getP 7) nilA)) (aE listX (consA (op2 getD (getP 8) (cE (.int 0))) nilA))) [.sh (.scr ns), .sh (.lst (txts ps)), .sh (.lst (txts ss)), .sh (.int md), .sh SD, .ow (.lst MS), .sh (.int (c : Int)), .sh T, .sh (.lst [T, .lst MS]), .sh I1, z10, z11]) = _
      simp only [tE_eq, op2_eq, aE_eq, consA_eq, nilA_eq, getP_eq, cE_eq, gz_, gs_, rGet_ok, rC_ok, r1_ok, r2_ok, kept0, lx, neL, toB_ok]
      rfl
    simp only [ifS_eq, orT_eq, c1, c2, rOr_f, rOr_ok, Bool.or_false, rIf_f, nxS_eq]
  rw [seq_eq, hck, rSeq_nx]
  -- another store
  have dm : ∀ E : Env, dispE 0 (consP (cE (.str "m")) (cE (.int 0)) nilP) E = .ok (.dic 0 (namD [("m", 0)])) := fun E => by
    show putsD 0 [] [(D.str "m", D.int 0)] = _
    show (if keyFit 0 (.str "m") = true ∧ ([] : List (D × D)).length < sizeLine then putsD 0 (setD [] (.str "m") (.int 0)) [] else .bad) = _
    rw [if_pos ⟨rfl, Nat.lt_of_lt_of_le (show 0 < 1000000 by decide) (le_line (Nat.le_refl _))⟩]
    rfl
  have da : plusS "a" = "+a" ∧ minusS "a" = "-a" := by
    refine ⟨?_, ?_⟩ <;> decide +kernel
  have na : nameB "a" = true ∧ nameB "m" = true := by
    refine ⟨?_, ?_⟩ <;> decide +kernel
  have eL : leadsF [((0, "a", 0) : Mv)] [] = [((0, plusS "a"), 0), ((0, minusS "a"), 0)] := by decide +kernel
  have dl : ∀ E : Env, dispE 1 (consP (aE tupD (consA (cE (.int 0)) (consA (cE (.str "+a")) nilA))) (cE (.int 0)) (consP (aE tupD (consA (cE (.int 0)) (consA (cE (.str "-a")) nilA))) (cE (.int 0)) nilP)) E = .ok (.dic 1 (leaD (leadsF [((0, "a", 0) : Mv)] []))) := fun E => by
    have k1 : aE tupD (consA (cE (.int 0)) (consA (cE (.str "+a")) nilA)) E = .ok (leK (0, plusS "a")) := by
      simp only [aE_eq, consA_eq, nilA_eq, cE_eq, rC_ok, r1_ok, t2, da.1]
      rfl
    have k2 : aE tupD (consA (cE (.int 0)) (consA (cE (.str "-a")) nilA)) E = .ok (leK (0, minusS "a")) := by
      simp only [aE_eq, consA_eq, nilA_eq, cE_eq, rC_ok, r1_ok, t2, da.2]
      rfl
    unfold dispE consP
    rw [k1]
    show (match (match (match aE tupD (consA (cE (.int 0)) (consA (cE (.str "-a")) nilA)) E with | .ok k => (match (Res.ok (D.int 0) : Res D) with | .ok v => (match (Res.ok [] : Res (List (D × D))) with | .ok r => .ok ((k, v) :: r) | _ => .bad) | _ => .bad) | _ => .bad : Res (List (D × D))) with | .ok r => .ok ((leK (0, plusS "a"), D.int 0) :: r) | _ => .bad : Res (List (D × D))) with | .ok ps => putsD 1 [] ps | _ => .bad) = _
    rw [k2]
    show putsD 1 [] [(leK (0, plusS "a"), D.int 0), (leK (0, minusS "a"), D.int 0)] = _
    have s1 : setD [] (leK (0, plusS "a")) (.int 0) = leaD [((0, plusS "a"), 0)] := rfl
    have s2 : setD (leaD [((0, plusS "a"), 0)]) (leK (0, minusS "a")) (.int 0) = leaD (put1 [((0, plusS "a"), 0)] (0, minusS "a") 0) := setD_l _ _ 0
    have s3 : put1 [(((0, plusS "a") : Nat × Str), 0)] (0, minusS "a") 0 = [((0, plusS "a"), 0), ((0, minusS "a"), 0)] := by decide +kernel
    show (if keyFit 1 (leK (0, plusS "a")) = true ∧ ([] : List (D × D)).length < sizeLine then putsD 1 (setD [] (leK (0, plusS "a")) (.int 0)) [(leK (0, minusS "a"), D.int 0)] else .bad) = _
    rw [if_pos ⟨fit_l _, Nat.lt_of_lt_of_le (show 0 < 1000000 by decide) (le_line (Nat.le_refl _))⟩, s1]
    show (if keyFit 1 (leK (0, minusS "a")) = true ∧ (leaD [((0, plusS "a"), 0)]).length < sizeLine then putsD 1 (setD (leaD [((0, plusS "a"), 0)]) (leK (0, minusS "a")) (.int 0)) [] else .bad) = _
    rw [if_pos ⟨fit_l _, by rw [leaD_len]; exact Nat.lt_of_lt_of_le (show 1 < 1000000 by decide) (le_line (Nat.le_refl _))⟩, s2, s3, eL]
    rfl
  have mo : MvOk 1 ["a"] [((0, "a", 0) : Mv)] := ⟨fun m hm => by
      rw [List.mem_singleton.mp hm]
      exact ⟨by decide, by decide, List.mem_cons_self ..⟩, List.pairwise_singleton .., List.pairwise_singleton ..⟩
  have mn : ∀ p ∈ [(("m" : Str), 0)], nameB p.1 = true ∧ p.2 < 1 := fun p hp => by
    rw [List.mem_singleton.mp hp]
    exact ⟨na.2, by decide⟩
  have mp : ∀ p ∈ [("a" : Str)], nameB p = true := fun p hp => by
    rw [List.mem_singleton.mp hp]
    exact na.1
  have mnd : ([(("m" : Str), 0)].map (·.1)).Nodup := List.pairwise_singleton ..
  have hmk : mkF m_Store___init__ [.int 1, .dic 0 (namD [("m", 0)]), .lst [.tup [.int 0, .str "a", .int 0]]] = .ok (insD 1 (sortN [("m", 0)]) (leadsF [((0, "a", 0) : Mv)] [])) := mkF_ok fun x => init_ok 1 [("m", 0)] ["a"] [((0, "a", 0) : Mv)] mn mnd (by decide) mp mo (by decide) x
  have M2 := made_of (n := 1) (N := [(("m" : Str), 0)]) (ms := [((0, "a", 0) : Mv)]) (ps := ["a"]) (by decide) (by decide) (by decide) (by decide) mn mnd mp mo
  have hask2 : m__law_asked [insD 1 (sortN [("m", 0)]) (leadsF [((0, "a", 0) : Mv)] []), .lst [.int 1, .dic 0 (namD [("m", 0)]), .dic 1 (leaD (leadsF [((0, "a", 0) : Mv)] []))]] = .ok (.bl true) :=
    asked10_ok M2 mnd (leadsF_nodup List.nodup_nil) (fun k => look_sortN _ k) fun _ => rfl
  rw [seq_eq]
  generalize insD 1 (sortN [("m", 0)]) (leadsF [((0, "a", 0) : Mv)] []) = I2 at *
  generalize D.dic 0 (namD [("m", 0)]) = TM at *
  generalize D.dic 1 (leaD (leadsF [((0, "a", 0) : Mv)] [])) = TL at *
  simp only [setS_eq, aE_eq, consA_eq, nilA_eq, cE_eq, dm, rC_ok, r1_ok, t3, l1, hmk, rSet_ok, rSeq_nx, sz_, ss_]
  rw [seq_eq]
  simp only [ifS_eq, notT_eq, tE_eq, aE_eq, consA_eq, nilA_eq, getP_eq, gz_, gs_, rGet_ok, rC_ok, r1_ok, hask, toB_ok, rNot_ok, Bool.not_true, rIf_f, nxS_eq, rSeq_nx]
  rw [seq_eq, hput _ rfl, rSeq_nx]
  simp only [sz_, ss_]
  rw [seq_eq, clearS_ow (ds := MS) rfl, rSeq_nx]
  simp only [sz_, ss_]
  rw [seq_eq]
  have h0 : ([] : List D).length < sizeLine := Nat.lt_of_lt_of_le (show 0 < 1000000 by decide) (le_line (Nat.le_refl _))
  simp only [appS_eq, aE_eq, consA_eq, nilA_eq, cE_eq, gz_, gs_, rC_ok, r1_ok, t3, rApp_ok, if_pos h0, rSeq_nx, sz_, ss_]
  rw [seq_eq]
  simp only [ifS_eq, notT_eq, tE_eq, aE_eq, consA_eq, nilA_eq, getP_eq, cE_eq, dm, dl, l3, gz_, gs_, rGet_ok, rC_ok, r1_ok, hask2, toB_ok, rNot_ok, Bool.not_true, rIf_f, nxS_eq, rSeq_nx]
  simp only [retS_eq, aE_eq, consA_eq, nilA_eq, getP_eq, gz_, gs_, rGet_ok, rC_ok, r1_ok, hask, rRet_ok]
  rfl

end
end VL
namespace VL
open PySem L2
structure Blt (mg : Str → Option Value) : Prop where
  int : mg "int" = none
  len : mg "len" = none
  range : mg "range" = none
  str : mg "str" = none
  sorted : mg "sorted" = none
  isinstance : mg "isinstance" = none
  bool : mg "bool" = none
  dict : mg "dict" = none
  list : mg "list" = none
  tuple : mg "tuple" = none
section
variable {P : Program} {w : World} {K : PySem.W.Frag} {mg : Str → Option Value} {base : Heap}
abbrev N__law_draw : List Str := ["_law_script", "_law_k", "_law_j", "_law_cell", "_law_first", "_law_second", "_law_rest", "_law_turn"]
theorem sc__law_draw : FnScope N__law_draw ["_law_script", "_law_k", "_law_j"] (defScope s__law_draw) := ⟨rfl, rfl, rfl, by decide +kernel, rfl, by decide +kernel, by decide +kernel⟩
set_option maxHeartbeats 4000000 in
theorem v__law_draw (B : Blt mg) (R : Raw K mg "_law_draw" s__law_draw ["_law_script", "_law_k", "_law_j"]) : DefOk P w K mg base "_law_draw" 1 ["_law_script", "_law_k", "_law_j"] 3 m__law_draw := by
  have nd := sc__law_draw.nd
  refine def_v N__law_draw b__law_draw R sc__law_draw rfl rfl (fun f cdv A outer s H E hr tk po => ?_)
  exact (vb_cons (vs_if (vt_cmp (fla := true) (flb := true) (op_eqD hr.units) (nomark _) of_eq (ve_v 0) (ve_lst va_nil)) (vb_one (vs_ret ve_int)) vb_nil)
      (vb_cons (vs_set 3 nd (ve_ty (fla := true) call_int1 cf_int B.int (by decide +kernel) (va_cons (ve_ix (flb := true) (ru1 hr) (ve_v 0) (ve_op (fla := true) (flb := true) op_mod of_mod (ve_ty (fla := true) call_int1 cf_int B.int (by decide +kernel) (va_cons (ve_v 1) va_nil)) (ve_bi (fla := true) call_len cf_len B.len PySem.boot_len (va_cons (ve_v 0) va_nil)))) va_nil)))
      (vb_cons (vs_if (vt_w (vw_and (vt_cmp (fla := true) (flb := true) op_lt (nomark _) of_lt (ve_v 1) (ve_bi (fla := true) call_len cf_len B.len PySem.boot_len (va_cons (ve_v 0) va_nil))) (vw_and1 (vt_cmp (fla := true) (flb := true) op_ge (nomark _) of_ge (ve_v 3) (ve_op (fla := true) (flb := true) op_pow of_pow ve_int ve_int))))) (vb_cons (vs_set 6 nd (ve_v 3))
      (vb_cons (vs_for po rfl (vi_range1 (fl := true) B.range (va_cons (ve_v 2) va_nil)) (vg_n 7 nd) (vb_one (vs_set 6 nd (ve_op (fla := true) (flb := true) op_fdiv of_fdiv (ve_v 6) ve_int))))
      (vb_one (vs_if (vt_cmp (fla := true) (flb := true) op_gt (nomark _) of_gt (ve_v 6) ve_int) (vb_one (vs_ret (ve_op (fla := true) (flb := true) op_mod of_mod (ve_ty (fla := true) call_int1 cf_int B.int (by decide +kernel) (va_cons (ve_v 6) va_nil)) ve_int))) vb_nil)))) vb_nil)
      (vb_cons (vs_set 4 nd (ve_op (fla := true) (flb := true) op_mod of_mod (ve_ty (fla := true) call_int1 cf_int B.int (by decide +kernel) (va_cons (ve_op op_addA of_add (ve_op op_addA of_add (ve_op op_addA of_add (ve_op (flb := true) op_mulA of_mul (ve_op (fla := true) (flb := true) op_mod of_mod (ve_ty (fla := true) call_int1 cf_int B.int (by decide +kernel) (va_cons (ve_v 3) va_nil)) ve_int) ve_int) (ve_op (flb := true) op_mulA of_mul (ve_v 1) ve_int)) (ve_op (flb := true) op_mulA of_mul (ve_v 2) ve_int)) ve_int) va_nil)) ve_int))
      (vb_cons (vs_set 5 nd (ve_op (fla := true) (flb := true) op_mod of_mod (ve_ty (fla := true) call_int1 cf_int B.int (by decide +kernel) (va_cons (ve_op op_addA of_add (ve_op op_addA of_add (ve_op op_addA of_add (ve_op op_addA of_add (ve_op (flb := true) op_mulA of_mul (ve_op (fla := true) (flb := true) op_mod of_mod (ve_ty (fla := true) call_int1 cf_int B.int (by decide +kernel) (va_cons (ve_v 4) va_nil)) ve_int) ve_int) (ve_op (flb := true) op_mulA of_mul (ve_op (fla := true) (flb := true) op_fdiv of_fdiv (ve_v 4) ve_int) ve_int)) (ve_op (flb := true) op_mulA of_mul (ve_v 2) ve_int)) (ve_op (flb := true) op_mulA of_mul (ve_v 1) ve_int)) ve_int) va_nil)) ve_int))
      (vb_one (vs_ret (ve_op (fla := true) (flb := true) op_mod of_mod (ve_ty (fla := true) call_int1 cf_int B.int (by decide +kernel) (va_cons (ve_op (fla := true) (flb := true) op_fdiv of_fdiv (ve_v 5) ve_int) va_nil)) ve_int))))))))
abbrev N__law_names : List Str := ["_law_script", "_law_k", "_law_many_here", "_law_letters", "_law_mode", "_law_base", "_law_size", "_law_place", "_law_names_here", "_law_at", "_law_shift", "_law_name"]
theorem sc__law_names : FnScope N__law_names ["_law_script", "_law_k", "_law_many_here"] (defScope s__law_names) := ⟨rfl, rfl, rfl, by decide +kernel, rfl, by decide +kernel, by decide +kernel⟩
set_option maxHeartbeats 4000000 in
theorem v__law_names (B : Blt mg) (R : Raw K mg "_law_names" s__law_names ["_law_script", "_law_k", "_law_many_here"]) (d__law_draw : DefOk P w K mg base "_law_draw" 1 ["_law_script", "_law_k", "_law_j"] 3 m__law_draw) : DefOk P w K mg base "_law_names" 2 ["_law_script", "_law_k", "_law_many_here"] 3 m__law_names := by
  have nd := sc__law_names.nd
  refine def_v N__law_names b__law_names R sc__law_names rfl rfl (fun f cdv A outer s H E hr tk po => ?_)
  exact (vb_cons (vs_set 3 nd ve_str)
      (vb_cons (vs_set 4 nd (ve_op (fla := true) (flb := true) op_mod of_mod (ve_def d__law_draw tk (hr.mono (by decide)) (va_cons (ve_v 0) (va_cons (ve_v 1) (va_cons ve_int va_nil))) rfl (la_cons (la_cons (la_cons la_nil)))) ve_int))
      (vb_cons (vs_set 5 nd (ve_op op_addA of_add ve_str (ve_join (fla := true) (flb := true) ve_str (ve_new (vf_lc (own := [("_law_at", 9)]) rfl nd (vi_range1 (fl := true) B.range (va_cons ve_int va_nil)) (blkOk_by (N := N__law_names) (sc := defScope s__law_names) (by decide +kernel)) (fun _ _ _ _ _ => (vgc_n 9 (by decide) nd)) (fun _ _ _ _ _ => vts_nil) (fun _ _ _ _ _ => (ve_ix (flb := true) (ru1 hr) (ve_v 3) (ve_op (fla := true) (flb := true) op_mod of_mod (ve_def d__law_draw tkW0 (hr.mono (by decide)) (va_cons (ve_v 0) (va_cons (ve_v 1) (va_cons (ve_op op_addA of_add ve_int (ve_v 9)) va_nil))) rfl (la_cons (la_cons (la_cons la_nil)))) ve_int))))))))
      (vb_cons (vs_set 6 nd (ve_op op_addA of_add ve_int (ve_op (fla := true) (flb := true) op_mod of_mod (ve_def d__law_draw tk (hr.mono (by decide)) (va_cons (ve_v 0) (va_cons (ve_v 1) (va_cons ve_int va_nil))) rfl (la_cons (la_cons (la_cons la_nil)))) ve_int)))
      (vb_cons (vs_set 7 nd (ve_op (fla := true) (flb := true) op_mod of_mod (ve_def d__law_draw tk (hr.mono (by decide)) (va_cons (ve_v 0) (va_cons (ve_v 1) (va_cons ve_int va_nil))) rfl (la_cons (la_cons (la_cons la_nil)))) (ve_v 6)))
      (vb_cons (vs_own 8 nd (vf_lst va_nil))
      (vb_cons (vs_for po rfl (vi_range1 (fl := true) B.range (va_cons (ve_v 2) va_nil)) (vg_n 9 nd) (vb_cons (vs_set 10 nd (ve_def d__law_draw tk (hr.mono (by decide)) (va_cons (ve_v 0) (va_cons (ve_v 1) (va_cons (ve_op op_addA of_add ve_int (ve_v 9)) va_nil))) rfl (la_cons (la_cons (la_cons la_nil)))))
      (vb_cons (vs_set 11 nd (ve_op op_addA of_add (ve_ix (flb := true) (ru1 hr) (ve_v 3) (ve_op (fla := true) (flb := true) op_mod of_mod (ve_v 10) ve_int)) (ve_sl (ve_v 5) (vo_some (fl := true) ve_int) (vo_some (fl := true) (ve_op op_addA of_add ve_int (ve_op (fla := true) (flb := true) op_mod of_mod (ve_op (fla := true) (flb := true) op_fdiv of_fdiv (ve_v 10) ve_int) ve_int))))))
      (vb_cons (vs_if (vt_cmp (fla := true) (flb := true) (op_eqD hr.units) (nomark _) of_eq (ve_v 4) ve_int) (vb_one (vs_set 11 nd (ve_ix (flb := true) (ru1 hr) ve_str (ve_v 9)))) vb_nil)
      (vb_cons (vs_if (vt_cmp (fla := true) (flb := true) (op_eqD hr.units) (nomark _) of_eq (ve_v 4) ve_int) (vb_one (vs_set 11 nd (ve_op op_addA of_add (ve_op op_addA of_add (ve_sl (ve_v 5) vo_none (vo_some (fl := true) (ve_v 7))) (ve_ix (flb := true) (ru1 hr) (ve_v 3) (ve_op (fla := true) (flb := true) op_mod of_mod (ve_ty (fla := true) call_int1 cf_int B.int (by decide +kernel) (va_cons (ve_op op_addA of_add (ve_v 10) (ve_v 9)) va_nil)) ve_int))) (ve_sl (ve_v 5) (vo_some (fl := true) (ve_op op_addA of_add (ve_v 7) ve_int)) (vo_some (fl := true) (ve_v 6)))))) vb_nil)
      (vb_one (vs_app 8 (ve_v 11))))))))
      (vb_one (vs_give 8 (vs_ret (ve_v 8)))))))))))
abbrev N__law_moves : List Str := ["_law_store_here", "_law_moves_here", "_law_there"]
theorem sc__law_moves : FnScope N__law_moves ["_law_store_here"] (defScope s__law_moves) := ⟨rfl, rfl, rfl, by decide +kernel, rfl, by decide +kernel, by decide +kernel⟩
set_option maxHeartbeats 4000000 in
theorem v__law_moves (B : Blt mg) (R : Raw K mg "_law_moves" s__law_moves ["_law_store_here"]) : DefOkO P w K mg base "_law_moves" 1 ["_law_store_here"] 1 m__law_moves := by
  have nd := sc__law_moves.nd
  refine def_vo N__law_moves b__law_moves R sc__law_moves rfl rfl (fun f cdv A outer s H E hr tk po => ?_)
  exact (vb_cons (vs_own 1 nd (vf_lst va_nil))
      (vb_cons (vs_forD po rfl (vd_ix 0) (vg_n 2 nd) (vb_one (vs_if (vt_cmp (fla := true) (flb := true) (op_eqD hr.units) (nomark _) of_eq (ve_ix (flb := true) (ru1 hr) (ve_ix (flb := true) (ru1 hr) (ve_v 2) ve_int) ve_int) ve_str) (vb_one (vs_app 1 (ve_tup (va_cons (ve_ix (flb := true) (ru1 hr) (ve_v 2) ve_int) (va_cons (ve_sl (ve_ix (flb := true) (ru1 hr) (ve_v 2) ve_int) (vo_some (fl := true) ve_int) vo_none) (va_cons (ve_ix (flb := true) (ru1 hr) (ve_ix (flb := true) (ru1 hr) (ve_v 0) ve_int) (ve_v 2)) va_nil)))))) vb_nil)))
      (vb_one (vs_retO 1))))
abbrev N_is_name : List Str := ["text", "char"]
theorem sc_is_name : FnScope N_is_name ["text"] (defScope s_is_name) := ⟨rfl, rfl, rfl, by decide +kernel, rfl, by decide +kernel, by decide +kernel⟩
set_option maxHeartbeats 4000000 in
theorem v_is_name (B : Blt mg) (R : Raw K mg "is_name" s_is_name ["text"]) {t_LONGEST_NAME : Tok} (C_LONGEST_NAME : mg "LONGEST_NAME" = some (.int 12 t_LONGEST_NAME)) {t_LETTERS : Tok} (C_LETTERS : mg "LETTERS" = some (.str "abcdefghijklmnopqrstuvwxyz" t_LETTERS)) {t_DIGITS : Tok} (C_DIGITS : mg "DIGITS" = some (.str "0123456789" t_DIGITS)) : DefOk P w K mg base "is_name" 1 ["text"] 1 m_is_name := by
  have nd := sc_is_name.nd
  refine def_v N_is_name b_is_name R sc_is_name rfl rfl (fun f cdv A outer s H E hr tk po => ?_)
  exact (vb_cons (vs_if (vt_w (vw_or (vt_not (vt_chain (fla := true) (flb := true) (flc := true) op_le of_le op_le of_le ve_int (ve_bi (fla := true) call_len cf_len B.len PySem.boot_len (va_cons (ve_v 0) va_nil)) (ve_gInt C_LONGEST_NAME))) (vw_or1 (vt_cmp (fla := true) (flb := true) (op_notInA (ru65 hr)) (by rfl) of_notIn (ve_ix (flb := true) (ru1 hr) (ve_v 0) ve_int) (ve_gStr C_LETTERS))))) (vb_one (vs_ret ve_bl)) vb_nil)
      (vb_cons (vs_for po rfl (vi_seq (ve_v 0)) (vg_n 1 nd) (vb_one (vs_if (vt_w (vw_and (vt_cmp (fla := true) (flb := true) (op_notInA (ru65 hr)) (by rfl) of_notIn (ve_v 1) (ve_gStr C_LETTERS)) (vw_and1 (vt_cmp (fla := true) (flb := true) (op_notInA (ru65 hr)) (by rfl) of_notIn (ve_v 1) (ve_gStr C_DIGITS))))) (vb_one (vs_ret ve_bl)) vb_nil)))
      (vb_one (vs_ret ve_bl))))
abbrev N_check_store : List Str := ["contents", "starts", "moves", "name", "taken", "source", "patch", "target"]
theorem sc_check_store : FnScope N_check_store ["contents", "starts", "moves"] (defScope s_check_store) := ⟨rfl, rfl, rfl, by decide +kernel, rfl, by decide +kernel, by decide +kernel⟩
set_option maxHeartbeats 4000000 in
theorem v_check_store (B : Blt mg) (R : Raw K mg "check_store" s_check_store ["contents", "starts", "moves"]) (d_is_name : DefOk P w K mg base "is_name" 1 ["text"] 1 m_is_name) : DefOk P w K mg base "check_store" 2 ["contents", "starts", "moves"] 3 m_check_store := by
  have nd := sc_check_store.nd
  refine def_v N_check_store b_check_store R sc_check_store rfl rfl (fun f cdv A outer s H E hr tk po => ?_)
  exact (vb_cons (vs_forD po rfl (vd_v 1) (vg_n 3 nd) (vb_one (vs_if (vt_w (vw_or (vt_not (vt_val (fl := true) (ve_def d_is_name tk (hr.mono (by decide)) (va_cons (ve_v 3) va_nil) rfl (la_cons la_nil)))) (vw_or1 (vt_not (vt_chain (fla := true) (flb := true) (flc := true) op_le of_le op_lt of_lt ve_int (ve_ix (flb := true) (ru1 hr) (ve_v 1) (ve_v 3)) (ve_v 0)))))) (vb_one vs_bad) vb_nil)))
      (vb_cons (vs_own 4 nd vf_dic1)
      (vb_one (vs_for po rfl (vi_seq (ve_v 2)) (vg_tup rfl (vgs_cons (vg_n 5 nd) (vgs_cons (vg_n 6 nd) (vgs_cons (vg_n 7 nd) vgs_nil)))) (vb_cons (vs_if (vt_w (vw_or (vt_not (vt_val (fl := true) (ve_def d_is_name tk (hr.mono (by decide)) (va_cons (ve_v 6) va_nil) rfl (la_cons la_nil)))) (vw_or (vt_not (vt_chain (fla := true) (flb := true) (flc := true) op_le of_le op_lt of_lt ve_int (ve_v 5) (ve_v 0))) (vw_or1 (vt_not (vt_chain (fla := true) (flb := true) (flc := true) op_le of_le op_lt of_lt ve_int (ve_v 7) (ve_v 0))))))) (vb_one vs_bad) vb_nil)
      (vb_cons (vs_if (vt_w (vw_or (vt_cmp (fla := true) (flb := false) (op_inX (ru65 hr)) (by rfl) of_inX (ve_tup (va_cons (ve_v 5) (va_cons (ve_op op_addA of_add ve_str (ve_v 6)) va_nil))) (ve_b 4)) (vw_or1 (vt_cmp (fla := true) (flb := false) (op_inX (ru65 hr)) (by rfl) of_inX (ve_tup (va_cons (ve_v 7) (va_cons (ve_op op_addA of_add ve_str (ve_v 6)) va_nil))) (ve_b 4))))) (vb_one vs_bad) vb_nil)
      (vb_cons (vs_put 4 (fla := true) (ru1 hr) (ve_tup (va_cons (ve_v 5) (va_cons (ve_op op_addA of_add ve_str (ve_v 6)) va_nil))) ve_bl)
      (vb_one (vs_put 4 (fla := true) (ru1 hr) (ve_tup (va_cons (ve_v 7) (va_cons (ve_op op_addA of_add ve_str (ve_v 6)) va_nil))) ve_bl)))))))))
abbrev N_Store___init__ : List Str := ["self", "contents", "starts", "moves", "leads", "source", "patch", "target", "name"]
theorem sc_Store___init__ : FnScope N_Store___init__ ["self", "contents", "starts", "moves"] (defScope s_Store___init__) := ⟨rfl, rfl, rfl, by decide +kernel, rfl, by decide +kernel, by decide +kernel⟩
set_option maxHeartbeats 4000000 in
theorem v_Store___init__ (B : Blt mg) (R : RawK K mg "Store" "Store.__init__" s_Store___init__ ["self", "contents", "starts", "moves"]) (CL_Store : ClsOk K mg "Store" ["content_count", "start_contents", "leads"]) (d_check_store : DefOk P w K mg base "check_store" 2 ["contents", "starts", "moves"] 3 m_check_store) : InitOk P w K mg base "Store" 3 ["self", "contents", "starts", "moves"] 4 m_Store___init__ := by
  have nd := sc_Store___init__.nd
  refine init_v "self" ["contents", "starts", "moves", "leads", "source", "patch", "target", "name"] b_Store___init__ R sc_Store___init__ rfl rfl (fun f cdv A outer s H E hr tk po => ?_)
  exact (vb_cons (vs_expr (fl := true) (ve_def d_check_store tk (hr.mono (by decide)) (va_cons (ve_v 1) (va_cons (ve_v 2) (va_cons (ve_v 3) va_nil))) rfl (la_cons (la_cons (la_cons la_nil)))))
      (vb_cons (vs_setf 0 CL_Store (ve_v 1))
      (vb_cons (vs_setf 0 CL_Store (ve_new (vf_dc (own := [("name", 8)]) rfl nd (vi_seq (ve_new (vf_sorted (fla := true) B.sorted (va_cons (ve_new (vf_lcD (own := [("name", 8)]) rfl nd (vd_v 2) (blkOk_by (N := N_Store___init__) (sc := defScope s_Store___init__) (by decide +kernel)) (fun _ _ _ _ _ => (vgc_n 8 (by decide) nd)) (fun _ _ _ _ _ => vts_nil) (fun _ _ _ _ _ => (ve_ty (fla := true) SkE.call_str_str cf_str B.str (by decide +kernel) (va_cons (ve_v 8) va_nil))))) va_nil)))) (blkOk_by (N := N_Store___init__) (sc := defScope s_Store___init__) (by decide +kernel)) (fun _ _ _ _ _ => (vgc_n 8 (by decide) nd)) (fun _ _ _ _ _ => (ve_v 8)) (fun _ _ _ _ _ => (ve_ix (flb := true) (ru1 hr) (ve_v 2) (ve_v 8))))))
      (vb_cons (vs_own 4 nd vf_dic1)
      (vb_cons (vs_for po rfl (vi_seq (ve_v 3)) (vg_tup rfl (vgs_cons (vg_n 5 nd) (vgs_cons (vg_n 6 nd) (vgs_cons (vg_n 7 nd) vgs_nil)))) (vb_cons (vs_put 4 (fla := true) (ru1 hr) (ve_tup (va_cons (ve_v 5) (va_cons (ve_op op_addA of_add ve_str (ve_v 6)) va_nil))) (ve_v 7))
      (vb_one (vs_put 4 (fla := true) (ru1 hr) (ve_tup (va_cons (ve_v 7) (va_cons (ve_op op_addA of_add ve_str (ve_v 6)) va_nil))) (ve_v 5)))))
      (vb_one (vs_give 4 (vs_setf 0 CL_Store (ve_v 4)))))))))
abbrev N_Store___init__B : List Str := N_Store___init__
set_option maxHeartbeats 4000000 in
theorem v_Store___init__B (B : Blt mg) (R : RawK K mg "Store" "Store.__init__" s_Store___init__ ["self", "contents", "starts", "moves"]) (CL_Store : ClsOk K mg "Store" ["content_count", "start_contents", "leads"]) (d_check_store : DefOk P w K mg base "check_store" 2 ["contents", "starts", "moves"] 3 m_check_store) : InitOkB P w K mg base "Store" 3 ["self", "contents", "starts", "moves"] 4 1 m_Store___init__B := by
  have nd := sc_Store___init__.nd
  refine init_vB "self" ["contents", "starts", "moves", "leads", "source", "patch", "target", "name"] b_Store___init__B R sc_Store___init__ rfl (by decide) rfl (fun f cdv A outer s H E hr tk po => ?_)
  exact (vbk_cons (vsk_expr (fl := false) (ve_defb d_check_store tk (hr.mono (by decide)) (va_cons (ve_v 1) (va_cons (ve_b 2) (va_cons (ve_v 3) va_nil))) rfl (la_cons (la_cons (la_cons la_nil)))))
      (vbk_cons (vsk_setf 0 CL_Store (ve_v 1))
      (vbk_cons (vsk_setf 0 CL_Store (ve_new (vf_dc (own := [("name", 8)]) rfl nd (vi_seq (ve_new (vf_sorted (fla := true) B.sorted (va_cons (ve_new (vf_lcK (own := [("name", 8)]) 2 rfl nd (blkOk_by (N := N_Store___init__B) (sc := defScope s_Store___init__B) (by decide +kernel)) (fun _ _ _ _ _ => (vgc_n 8 (by decide) nd)) (fun _ _ _ _ _ => vts_nil) (fun _ _ _ _ _ => (ve_ty (fla := true) SkE.call_str_str cf_str B.str (by decide +kernel) (va_cons (ve_v 8) va_nil))))) va_nil)))) (blkOk_by (N := N_Store___init__B) (sc := defScope s_Store___init__B) (by decide +kernel)) (fun _ _ _ _ _ => (vgc_n 8 (by decide) nd)) (fun _ _ _ _ _ => (ve_v 8)) (fun _ _ _ _ _ => (ve_ixo 2 (flb := true) (ru1 hr) (ve_v 8))))))
      (vbk_cons (vsk_own 4 nd vf_dic1)
      (vbk_cons (vsk_forT po rfl (vi_seq (ve_v 3)) (vgk_tup rfl (vgsk_cons (vgk_n 5 nd) (vgsk_cons (vgk_n 6 nd) (vgsk_cons (vgk_n 7 nd) vgsk_nil)))) (vbk_cons (vsk_put 4 (fla := true) (ru1 hr) (ve_tup (va_cons (ve_v 5) (va_cons (ve_op op_addA of_add ve_str (ve_v 6)) va_nil))) (ve_v 7))
      (vbk_one (vsk_put 4 (fla := true) (ru1 hr) (ve_tup (va_cons (ve_v 7) (va_cons (ve_op op_addA of_add ve_str (ve_v 6)) va_nil))) (ve_v 5)))))
      (vbk_one (vsk_give 4 (vsk_setf 0 CL_Store (ve_v 4)))))))))
abbrev N_Store_contents : List Str := ["self"]
theorem sc_Store_contents : FnScope N_Store_contents ["self"] (defScope s_Store_contents) := ⟨rfl, rfl, rfl, by decide +kernel, rfl, by decide +kernel, by decide +kernel⟩
set_option maxHeartbeats 4000000 in
theorem v_Store_contents (B : Blt mg) (R : RawP K mg "Store" "contents" "Store.contents" s_Store_contents) (CL_Store : ClsOk K mg "Store" ["content_count", "start_contents", "leads"]) : PropOk P w K mg base "Store" "contents" 1 m_Store_contents := by
  have nd := sc_Store_contents.nd
  refine prop_v N_Store_contents b_Store_contents R sc_Store_contents rfl (fun f cdv A outer s H E hr tk po => ?_)
  exact (vb_one (vs_ret (ve_fld CL_Store (ve_v 0))))
abbrev N_Store_starts : List Str := ["self", "name"]
theorem sc_Store_starts : FnScope N_Store_starts ["self"] (defScope s_Store_starts) := ⟨rfl, rfl, rfl, by decide +kernel, rfl, by decide +kernel, by decide +kernel⟩
set_option maxHeartbeats 4000000 in
theorem v_Store_starts (B : Blt mg) (R : RawP K mg "Store" "starts" "Store.starts" s_Store_starts) (CL_Store : ClsOk K mg "Store" ["content_count", "start_contents", "leads"]) : PropOkO P w K mg base "Store" "starts" 1 m_Store_starts := by
  have nd := sc_Store_starts.nd
  refine prop_vO N_Store_starts b_Store_starts R sc_Store_starts rfl (fun f cdv A outer s H E hr tk po => ?_)
  exact (vb_one (vs_retF (vf_dcD (own := [("name", 1)]) rfl nd (vd_fld 0 CL_Store) (blkOk_by (N := N_Store_starts) (sc := defScope s_Store_starts) (by decide +kernel)) (fun _ _ _ _ _ => (vgc_n 1 (by decide) nd)) (fun _ _ _ _ _ => (ve_v 1)) (fun _ _ _ _ _ => (ve_ix (flb := true) (ru1 hr) (ve_fld CL_Store (ve_v 0)) (ve_v 1))))))
abbrev N_Store_moves : List Str := ["self", "patches", "key", "ordered", "source", "patch"]
theorem sc_Store_moves : FnScope N_Store_moves ["self"] (defScope s_Store_moves) := ⟨rfl, rfl, rfl, by decide +kernel, rfl, by decide +kernel, by decide +kernel⟩
set_option maxHeartbeats 4000000 in
theorem v_Store_moves (B : Blt mg) (R : RawP K mg "Store" "moves" "Store.moves" s_Store_moves) (CL_Store : ClsOk K mg "Store" ["content_count", "start_contents", "leads"]) : PropOkO P w K mg base "Store" "moves" 1 m_Store_moves := by
  have nd := sc_Store_moves.nd
  refine prop_vO N_Store_moves b_Store_moves R sc_Store_moves rfl (fun f cdv A outer s H E hr tk po => ?_)
  exact (vb_cons (vs_own 1 nd vf_dic0)
      (vb_cons (vs_forD po rfl (vd_fld 0 CL_Store) (vg_n 2 nd) (vb_one (vs_put 1 (fla := true) (ru1 hr) (ve_sl (ve_ix (flb := true) (ru1 hr) (ve_v 2) ve_int) (vo_some (fl := true) ve_int) vo_none) ve_bl)))
      (vb_cons (vs_set 3 nd (ve_new (vf_sorted (fla := true) B.sorted (va_cons (ve_new (vf_lcK (own := [("patch", 5)]) 1 rfl nd (blkOk_by (N := N_Store_moves) (sc := defScope s_Store_moves) (by decide +kernel)) (fun _ _ _ _ _ => (vgc_n 5 (by decide) nd)) (fun _ _ _ _ _ => vts_nil) (fun _ _ _ _ _ => (ve_ty (fla := true) SkE.call_str_str cf_str B.str (by decide +kernel) (va_cons (ve_v 5) va_nil))))) va_nil))))
      (vb_one (vs_retF (vf_lc2 (own := [("source", 4), ("patch", 5)]) [5] rfl nd (vi_range1 (fl := true) B.range (va_cons (ve_fld CL_Store (ve_v 0)) va_nil)) (blkOk_by (N := N_Store_moves) (sc := defScope s_Store_moves) (by decide +kernel)) (by decide) (keep_n 4) (fun _ _ _ _ _ => (vgc_n 4 (by decide) nd)) (fun _ _ _ _ _ => vts_nil) (fun _ _ _ _ _ => (vi_seq (ve_v 3))) (fun _ _ _ _ _ => (vgc_n 5 (by decide) nd)) (fun _ _ _ _ _ => (vts_one (vt_cmp (fla := true) (flb := true) (op_inZ (ru65 hr)) (by rfl) of_inZ (ve_tup (va_cons (ve_v 4) (va_cons (ve_op op_addA of_add ve_str (ve_v 5)) va_nil))) (ve_fld CL_Store (ve_v 0))))) (fun _ _ _ _ _ => (ve_tup (va_cons (ve_v 4) (va_cons (ve_v 5) (va_cons (ve_ix (flb := true) (ru1 hr) (ve_fld CL_Store (ve_v 0)) (ve_tup (va_cons (ve_v 4) (va_cons (ve_op op_addA of_add ve_str (ve_v 5)) va_nil)))) va_nil)))))))))))
abbrev N__law_is_integer : List Str := ["_law_value"]
theorem sc__law_is_integer : FnScope N__law_is_integer ["_law_value"] (defScope s__law_is_integer) := ⟨rfl, rfl, rfl, by decide +kernel, rfl, by decide +kernel, by decide +kernel⟩
set_option maxHeartbeats 4000000 in
theorem v__law_is_integer (B : Blt mg) (R : Raw K mg "_law_is_integer" s__law_is_integer ["_law_value"]) : DefOk P w K mg base "_law_is_integer" 1 ["_law_value"] 1 m__law_is_integer := by
  have nd := sc__law_is_integer.nd
  refine def_v N__law_is_integer b__law_is_integer R sc__law_is_integer rfl rfl (fun f cdv A outer s H E hr tk po => ?_)
  exact (vb_one (vs_ret (ve_and (fla := true) (ve_isT (T := "int") (fla := true) (ve_v 0) B.isinstance B.int (by decide +kernel)) (ve_one (ve_not (fla := true) (ve_isT (T := "bool") (fla := true) (ve_v 0) B.isinstance B.bool (by decide +kernel)))))))
abbrev N__law_is_content : List Str := ["_law_value", "_law_size"]
theorem sc__law_is_content : FnScope N__law_is_content ["_law_value", "_law_size"] (defScope s__law_is_content) := ⟨rfl, rfl, rfl, by decide +kernel, rfl, by decide +kernel, by decide +kernel⟩
set_option maxHeartbeats 4000000 in
theorem v__law_is_content (B : Blt mg) (R : Raw K mg "_law_is_content" s__law_is_content ["_law_value", "_law_size"]) : DefOk P w K mg base "_law_is_content" 1 ["_law_value", "_law_size"] 2 m__law_is_content := by
  have nd := sc__law_is_content.nd
  refine def_v N__law_is_content b__law_is_content R sc__law_is_content rfl rfl (fun f cdv A outer s H E hr tk po => ?_)
  exact (vb_one (vs_ret (ve_and (fla := true) (ve_isT (T := "int") (fla := true) (ve_v 0) B.isinstance B.int (by decide +kernel)) (ve_and (fla := true) (ve_not (fla := true) (ve_isT (T := "bool") (fla := true) (ve_v 0) B.isinstance B.bool (by decide +kernel))) (ve_and (fla := true) (ve_cmp (fla := true) (flb := true) op_ge (nomark _) of_ge (ve_v 0) ve_int) (ve_one (ve_cmp (fla := true) (flb := true) op_lt (nomark _) of_lt (ve_v 0) (ve_v 1))))))))
abbrev N__law_table : List Str := ["_law_told", "_law_size", "_law_names_here", "_law_moves_here", "_law_before", "_law_name", "_law_leads", "_law_last", "_law_move"]
theorem sc__law_table : FnScope N__law_table ["_law_told"] (defScope s__law_table) := ⟨rfl, rfl, rfl, by decide +kernel, rfl, by decide +kernel, by decide +kernel⟩
set_option maxHeartbeats 4000000 in
theorem v__law_table (B : Blt mg) (R : Raw K mg "_law_table" s__law_table ["_law_told"]) (Q_Store : ClsQ K mg "Store") (d__law_is_integer : DefOk P w K mg base "_law_is_integer" 1 ["_law_value"] 1 m__law_is_integer) (d__law_is_content : DefOk P w K mg base "_law_is_content" 1 ["_law_value", "_law_size"] 2 m__law_is_content) (P_Store_contents : PropOk P w K mg base "Store" "contents" 1 m_Store_contents) (P_Store_starts : PropOkO P w K mg base "Store" "starts" 1 m_Store_starts) (P_Store_moves : PropOkO P w K mg base "Store" "moves" 1 m_Store_moves) : DefOk P w K mg base "_law_table" 3 ["_law_told"] 1 m__law_table := by
  have nd := sc__law_table.nd
  refine def_v N__law_table b__law_table R sc__law_table rfl rfl (fun f cdv A outer s H E hr tk po => ?_)
  exact (vb_cons (vs_if (vt_not (vt_val (fl := true) (ve_isC (fla := true) Q_Store (ve_v 0) B.isinstance))) (vb_one (vs_ret ve_non)) vb_nil)
      (vb_cons (vs_set 1 nd (ve_prop P_Store_contents (hr.mono (by decide)) (ve_v 0)))
      (vb_cons (vs_set 2 nd (ve_new (vf_prop P_Store_starts (hr.mono (by decide)) (ve_v 0))))
      (vb_cons (vs_set 3 nd (ve_new (vf_prop P_Store_moves (hr.mono (by decide)) (ve_v 0))))
      (vb_cons (vs_if (vt_w (vw_or (vt_not (vt_val (fl := true) (ve_def d__law_is_integer tk (hr.mono (by decide)) (va_cons (ve_v 1) va_nil) rfl (la_cons la_nil)))) (vw_or (vt_cmp (fla := true) (flb := true) op_lt (nomark _) of_lt (ve_v 1) ve_int) (vw_or (vt_not (vt_val (fl := true) (ve_isT (T := "dict") (fla := true) (ve_v 2) B.isinstance B.dict (by decide +kernel)))) (vw_or1 (vt_not (vt_val (fl := true) (ve_isT (T := "list") (fla := true) (ve_v 3) B.isinstance B.list (by decide +kernel))))))))) (vb_one (vs_ret ve_non)) vb_nil)
      (vb_cons (vs_set 4 nd ve_str)
      (vb_cons (vs_forD po rfl (vd_v 2) (vg_n 5 nd) (vb_cons (vs_if (vt_w (vw_or (vt_not (vt_val (fl := true) (ve_isT (T := "str") (fla := true) (ve_v 5) B.isinstance B.str (by decide +kernel)))) (vw_or (vt_cmp (fla := true) (flb := true) (op_leX1 (ru1 hr)) (nomark _) of_leX (ve_v 5) (ve_v 4)) (vw_or1 (vt_not (vt_val (fl := true) (ve_def d__law_is_content tk (hr.mono (by decide)) (va_cons (ve_ix (flb := true) (ru1 hr) (ve_v 2) (ve_v 5)) (va_cons (ve_v 1) va_nil)) rfl (la_cons (la_cons la_nil))))))))) (vb_one (vs_ret ve_non)) vb_nil)
      (vb_one (vs_set 4 nd (ve_v 5)))))
      (vb_cons (vs_own 6 nd vf_dic1)
      (vb_cons (vs_set 7 nd (ve_tup (va_cons (ve_neg (fla := true) ve_int) (va_cons ve_str va_nil))))
      (vb_cons (vs_for po rfl (vi_seq (ve_v 3)) (vg_n 8 nd) (vb_cons (vs_if (vt_w (vw_or (vt_not (vt_val (fl := true) (ve_isT (T := "tuple") (fla := true) (ve_v 8) B.isinstance B.tuple (by decide +kernel)))) (vw_or (vt_cmp (fla := true) (flb := true) (op_neD hr.units) (nomark _) of_ne (ve_bi (fla := true) call_len cf_len B.len PySem.boot_len (va_cons (ve_v 8) va_nil)) ve_int) (vw_or1 (vt_not (vt_val (fl := true) (ve_isT (T := "str") (fla := true) (ve_ix (flb := true) (ru1 hr) (ve_v 8) ve_int) B.isinstance B.str (by decide +kernel)))))))) (vb_one (vs_ret ve_non)) vb_nil)
      (vb_cons (vs_if (vt_w (vw_or (vt_not (vt_val (fl := true) (ve_def d__law_is_content tk (hr.mono (by decide)) (va_cons (ve_ix (flb := true) (ru1 hr) (ve_v 8) ve_int) (va_cons (ve_v 1) va_nil)) rfl (la_cons (la_cons la_nil))))) (vw_or (vt_not (vt_val (fl := true) (ve_def d__law_is_content tk (hr.mono (by decide)) (va_cons (ve_ix (flb := true) (ru1 hr) (ve_v 8) ve_int) (va_cons (ve_v 1) va_nil)) rfl (la_cons (la_cons la_nil))))) (vw_or1 (vt_cmp (fla := true) (flb := true) (op_leX1 (ru1 hr)) (nomark _) of_leX (ve_tup (va_cons (ve_ix (flb := true) (ru1 hr) (ve_v 8) ve_int) (va_cons (ve_ix (flb := true) (ru1 hr) (ve_v 8) ve_int) va_nil))) (ve_v 7)))))) (vb_one (vs_ret ve_non)) vb_nil)
      (vb_cons (vs_if (vt_cmp (fla := true) (flb := false) (op_inX (ru65 hr)) (by rfl) of_inX (ve_tup (va_cons (ve_ix (flb := true) (ru1 hr) (ve_v 8) ve_int) (va_cons (ve_op op_addA of_add ve_str (ve_ix (flb := true) (ru1 hr) (ve_v 8) ve_int)) va_nil))) (ve_b 6)) (vb_one (vs_ret ve_non)) vb_nil)
      (vb_cons (vs_put 6 (fla := true) (ru1 hr) (ve_tup (va_cons (ve_ix (flb := true) (ru1 hr) (ve_v 8) ve_int) (va_cons (ve_op op_addA of_add ve_str (ve_ix (flb := true) (ru1 hr) (ve_v 8) ve_int)) va_nil))) (ve_ix (flb := true) (ru1 hr) (ve_v 8) ve_int))
      (vb_cons (vs_put 6 (fla := true) (ru1 hr) (ve_tup (va_cons (ve_ix (flb := true) (ru1 hr) (ve_v 8) ve_int) (va_cons (ve_op op_addA of_add ve_str (ve_ix (flb := true) (ru1 hr) (ve_v 8) ve_int)) va_nil))) (ve_ix (flb := true) (ru1 hr) (ve_v 8) ve_int))
      (vb_one (vs_set 7 nd (ve_tup (va_cons (ve_ix (flb := true) (ru1 hr) (ve_v 8) ve_int) (va_cons (ve_ix (flb := true) (ru1 hr) (ve_v 8) ve_int) va_nil)))))))))))
      (vb_one (vs_give 6 (vs_ret (ve_lst (va_cons (ve_v 1) (va_cons (ve_v 2) (va_cons (ve_v 6) va_nil)))))))))))))))))
abbrev N__law_asked : List Str := ["_law_made", "_law_store_here", "_law_table_here", "_law_moves_here", "_law_names_here"]
theorem sc__law_asked : FnScope N__law_asked ["_law_made", "_law_store_here"] (defScope s__law_asked) := ⟨rfl, rfl, rfl, by decide +kernel, rfl, by decide +kernel, by decide +kernel⟩
set_option maxHeartbeats 4000000 in
theorem v__law_asked (B : Blt mg) (R : Raw K mg "_law_asked" s__law_asked ["_law_made", "_law_store_here"]) (d__law_table : DefOk P w K mg base "_law_table" 3 ["_law_told"] 1 m__law_table) (P_Store_moves : PropOkO P w K mg base "Store" "moves" 1 m_Store_moves) (P_Store_starts : PropOkO P w K mg base "Store" "starts" 1 m_Store_starts) : DefOk P w K mg base "_law_asked" 4 ["_law_made", "_law_store_here"] 2 m__law_asked := by
  have nd := sc__law_asked.nd
  refine def_v N__law_asked b__law_asked R sc__law_asked rfl rfl (fun f cdv A outer s H E hr tk po => ?_)
  exact (vb_cons (vs_set 2 nd (ve_def d__law_table tk (hr.mono (by decide)) (va_cons (ve_v 0) va_nil) rfl (la_cons la_nil)))
      (vb_cons (vs_if (vt_w (vw_or (vt_cmp (fla := true) (flb := true) op_isN (nomark _) of_isN (ve_v 2) ve_non) (vw_or (vt_cmp (fla := true) (flb := true) (op_neD hr.units) (nomark _) of_ne (ve_ix (flb := true) (ru1 hr) (ve_v 2) ve_int) (ve_ix (flb := true) (ru1 hr) (ve_v 1) ve_int)) (vw_or (vt_cmp (fla := true) (flb := true) (op_neZ1 (ru65 hr)) (nomark _) of_neZ (ve_ix (flb := true) (ru1 hr) (ve_v 2) ve_int) (ve_ix (flb := true) (ru1 hr) (ve_v 1) ve_int)) (vw_or1 (vt_cmp (fla := true) (flb := true) (op_neZ1 (ru65 hr)) (nomark _) of_neZ (ve_ix (flb := true) (ru1 hr) (ve_v 2) ve_int) (ve_ix (flb := true) (ru1 hr) (ve_v 1) ve_int))))))) (vb_one (vs_ret ve_bl)) vb_nil)
      (vb_cons (vs_own 3 nd (vf_prop P_Store_moves (hr.mono (by decide)) (ve_v 0)))
      (vb_cons (vs_clear 3)
      (vb_cons (vs_own 4 nd (vf_prop P_Store_starts (hr.mono (by decide)) (ve_v 0)))
      (vb_cons (vs_put 4 (fla := true) (ru1 hr) ve_str ve_int)
      (vb_one (vs_ret ve_bl))))))))
abbrev N__law_many : List Str := ["_law_script", "_law_j"]
theorem sc__law_many : FnScope N__law_many ["_law_script", "_law_j"] (defScope s__law_many) := ⟨rfl, rfl, rfl, by decide +kernel, rfl, by decide +kernel, by decide +kernel⟩
set_option maxHeartbeats 4000000 in
theorem v__law_many (B : Blt mg) (R : Raw K mg "_law_many" s__law_many ["_law_script", "_law_j"]) (d__law_draw : DefOk P w K mg base "_law_draw" 1 ["_law_script", "_law_k", "_law_j"] 3 m__law_draw) : DefOk P w K mg base "_law_many" 2 ["_law_script", "_law_j"] 2 m__law_many := by
  have nd := sc__law_many.nd
  refine def_v N__law_many b__law_many R sc__law_many rfl rfl (fun f cdv A outer s H E hr tk po => ?_)
  exact (vb_one (vs_ret (ve_ix (flb := true) (ru1 hr) (ve_lst (va_cons ve_int (va_cons ve_int (va_cons ve_int (va_cons ve_int (va_cons ve_int (va_cons ve_int (va_cons ve_int (va_cons ve_int va_nil))))))))) (ve_op (fla := true) (flb := true) op_mod of_mod (ve_def d__law_draw tk (hr.mono (by decide)) (va_cons (ve_v 0) (va_cons ve_int (va_cons (ve_v 1) va_nil))) rfl (la_cons (la_cons (la_cons la_nil)))) ve_int))))
abbrev N__law_store : List Str := ["_law_script", "_law_k", "_law_starts", "_law_patches", "_law_size", "_law_gaps", "_law_leads", "_law_at", "_law_names_here", "_law_draw_here", "_law_there", "_law_back"]
theorem sc__law_store : FnScope N__law_store ["_law_script", "_law_k", "_law_starts", "_law_patches"] (defScope s__law_store) := ⟨rfl, rfl, rfl, by decide +kernel, rfl, by decide +kernel, by decide +kernel⟩
set_option maxHeartbeats 4000000 in
theorem v__law_store (B : Blt mg) (R : Raw K mg "_law_store" s__law_store ["_law_script", "_law_k", "_law_starts", "_law_patches"]) (d__law_draw : DefOk P w K mg base "_law_draw" 1 ["_law_script", "_law_k", "_law_j"] 3 m__law_draw) : DefOk P w K mg base "_law_store" 2 ["_law_script", "_law_k", "_law_starts", "_law_patches"] 4 m__law_store := by
  have nd := sc__law_store.nd
  refine def_v N__law_store b__law_store R sc__law_store rfl rfl (fun f cdv A outer s H E hr tk po => ?_)
  exact (vb_cons (vs_set 4 nd (ve_op op_addA of_add ve_int (ve_op (fla := true) (flb := true) op_mod of_mod (ve_def d__law_draw tk (hr.mono (by decide)) (va_cons (ve_v 0) (va_cons (ve_v 1) (va_cons ve_int va_nil))) rfl (la_cons (la_cons (la_cons la_nil)))) ve_int)))
      (vb_cons (vs_set 5 nd (ve_op (fla := true) (flb := true) op_mod of_mod (ve_def d__law_draw tk (hr.mono (by decide)) (va_cons (ve_v 0) (va_cons (ve_v 1) (va_cons ve_int va_nil))) rfl (la_cons (la_cons (la_cons la_nil)))) ve_int))
      (vb_cons (vs_own 6 nd vf_dic1)
      (vb_cons (vs_for po rfl (vi_range1 (fl := true) B.range (va_cons (ve_op (flb := true) op_mulA of_mul ve_int (ve_bi (fla := true) call_len cf_len B.len PySem.boot_len (va_cons (ve_v 3) va_nil))) va_nil)) (vg_n 7 nd) (vb_cons (vs_set 9 nd (ve_def d__law_draw tk (hr.mono (by decide)) (va_cons (ve_v 0) (va_cons (ve_v 1) (va_cons (ve_op op_addA of_add ve_int (ve_v 7)) va_nil))) rfl (la_cons (la_cons (la_cons la_nil)))))
      (vb_cons (vs_set 10 nd (ve_tup (va_cons (ve_op (fla := true) (flb := true) op_mod of_mod (ve_v 7) ve_int) (va_cons (ve_op op_addA of_add ve_str (ve_ix (flb := true) (ru1 hr) (ve_v 3) (ve_op (fla := true) (flb := true) op_fdiv of_fdiv (ve_v 7) ve_int))) va_nil))))
      (vb_cons (vs_set 11 nd (ve_tup (va_cons (ve_op (fla := true) (flb := true) op_mod of_mod (ve_v 9) (ve_v 4)) (va_cons (ve_op op_addA of_add ve_str (ve_ix (flb := true) (ru1 hr) (ve_v 3) (ve_op (fla := true) (flb := true) op_fdiv of_fdiv (ve_v 7) ve_int))) va_nil))))
      (vb_one (vs_if (vt_w (vw_and (vt_cmp (fla := true) (flb := true) op_lt (nomark _) of_lt (ve_op (fla := true) (flb := true) op_mod of_mod (ve_v 7) ve_int) (ve_v 4)) (vw_and (vt_cmp (fla := true) (flb := true) op_ge (nomark _) of_ge (ve_op (fla := true) (flb := true) op_mod of_mod (ve_op (fla := true) (flb := true) op_fdiv of_fdiv (ve_v 9) ve_int) ve_int) (ve_v 5)) (vw_and (vt_cmp (fla := true) (flb := false) (op_notInX (ru65 hr)) (by rfl) of_notInX (ve_v 10) (ve_b 6)) (vw_and1 (vt_cmp (fla := true) (flb := false) (op_notInX (ru65 hr)) (by rfl) of_notInX (ve_v 11) (ve_b 6))))))) (vb_cons (vs_put 6 (fla := true) (ru1 hr) (ve_v 10) (ve_op (fla := true) (flb := true) op_mod of_mod (ve_v 9) (ve_v 4)))
      (vb_one (vs_put 6 (fla := true) (ru1 hr) (ve_v 11) (ve_op (fla := true) (flb := true) op_mod of_mod (ve_v 7) ve_int)))) vb_nil))))))
      (vb_cons (vs_own 8 nd vf_dic0)
      (vb_cons (vs_for po rfl (vi_range1 (fl := true) B.range (va_cons (ve_bi (fla := true) call_len cf_len B.len PySem.boot_len (va_cons (ve_v 2) va_nil)) va_nil)) (vg_n 7 nd) (vb_one (vs_put 8 (fla := true) (ru1 hr) (ve_ix (flb := true) (ru1 hr) (ve_v 2) (ve_v 7)) (ve_op (fla := true) (flb := true) op_mod of_mod (ve_def d__law_draw tk (hr.mono (by decide)) (va_cons (ve_v 0) (va_cons (ve_v 1) (va_cons (ve_op op_addA of_add ve_int (ve_v 7)) va_nil))) rfl (la_cons (la_cons (la_cons la_nil)))) (ve_v 4)))))
      (vb_one (vs_give 8 (vs_give 6 (vs_ret (ve_lst (va_cons (ve_v 4) (va_cons (ve_v 8) (va_cons (ve_v 6) va_nil))))))))))))))
abbrev N__law_big_store : List Str := ["_law_script", "_law_k", "_law_starts", "_law_patches", "_law_size", "_law_leads", "_law_at", "_law_names_here", "_law_shift", "_law_cut", "_law_source", "_law_target"]
theorem sc__law_big_store : FnScope N__law_big_store ["_law_script", "_law_k", "_law_starts", "_law_patches"] (defScope s__law_big_store) := ⟨rfl, rfl, rfl, by decide +kernel, rfl, by decide +kernel, by decide +kernel⟩
set_option maxHeartbeats 4000000 in
theorem v__law_big_store (B : Blt mg) (R : Raw K mg "_law_big_store" s__law_big_store ["_law_script", "_law_k", "_law_starts", "_law_patches"]) (d__law_draw : DefOk P w K mg base "_law_draw" 1 ["_law_script", "_law_k", "_law_j"] 3 m__law_draw) : DefOk P w K mg base "_law_big_store" 2 ["_law_script", "_law_k", "_law_starts", "_law_patches"] 4 m__law_big_store := by
  have nd := sc__law_big_store.nd
  refine def_v N__law_big_store b__law_big_store R sc__law_big_store rfl rfl (fun f cdv A outer s H E hr tk po => ?_)
  exact (vb_cons (vs_set 4 nd (ve_op op_addA of_add ve_int (ve_op (fla := true) (flb := true) op_mod of_mod (ve_def d__law_draw tk (hr.mono (by decide)) (va_cons (ve_v 0) (va_cons (ve_v 1) (va_cons ve_int va_nil))) rfl (la_cons (la_cons (la_cons la_nil)))) ve_int)))
      (vb_cons (vs_own 5 nd vf_dic1)
      (vb_cons (vs_for po rfl (vi_range1 (fl := true) B.range (va_cons (ve_bi (fla := true) call_len cf_len B.len PySem.boot_len (va_cons (ve_v 3) va_nil)) va_nil)) (vg_n 6 nd) (vb_cons (vs_set 8 nd (ve_op (fla := true) (flb := true) op_mod of_mod (ve_def d__law_draw tk (hr.mono (by decide)) (va_cons (ve_v 0) (va_cons (ve_v 1) (va_cons (ve_op op_addA of_add ve_int (ve_v 6)) va_nil))) rfl (la_cons (la_cons (la_cons la_nil)))) (ve_v 4)))
      (vb_cons (vs_set 9 nd (ve_op op_addA of_add ve_int (ve_op (fla := true) (flb := true) op_mod of_mod (ve_def d__law_draw tk (hr.mono (by decide)) (va_cons (ve_v 0) (va_cons (ve_v 1) (va_cons (ve_op op_addA of_add ve_int (ve_v 6)) va_nil))) rfl (la_cons (la_cons (la_cons la_nil)))) (ve_v 4))))
      (vb_one (vs_for po rfl (vi_range1 (fl := true) B.range (va_cons (ve_v 9) va_nil)) (vg_n 10 nd) (vb_cons (vs_set 11 nd (ve_op (fla := true) (flb := true) op_mod of_mod (ve_ty (fla := true) call_int1 cf_int B.int (by decide +kernel) (va_cons (ve_op op_addA of_add (ve_v 10) (ve_v 8)) va_nil)) (ve_v 4)))
      (vb_one (vs_if (vt_w (vw_and (vt_cmp (fla := true) (flb := false) (op_notInX (ru65 hr)) (by rfl) of_notInX (ve_tup (va_cons (ve_v 10) (va_cons (ve_op op_addA of_add ve_str (ve_ix (flb := true) (ru1 hr) (ve_v 3) (ve_v 6))) va_nil))) (ve_b 5)) (vw_and1 (vt_cmp (fla := true) (flb := false) (op_notInX (ru65 hr)) (by rfl) of_notInX (ve_tup (va_cons (ve_v 11) (va_cons (ve_op op_addA of_add ve_str (ve_ix (flb := true) (ru1 hr) (ve_v 3) (ve_v 6))) va_nil))) (ve_b 5))))) (vb_cons (vs_put 5 (fla := true) (ru1 hr) (ve_tup (va_cons (ve_v 10) (va_cons (ve_op op_addA of_add ve_str (ve_ix (flb := true) (ru1 hr) (ve_v 3) (ve_v 6))) va_nil))) (ve_v 11))
      (vb_one (vs_put 5 (fla := true) (ru1 hr) (ve_tup (va_cons (ve_v 11) (va_cons (ve_op op_addA of_add ve_str (ve_ix (flb := true) (ru1 hr) (ve_v 3) (ve_v 6))) va_nil))) (ve_v 10)))) vb_nil))))))))
      (vb_cons (vs_own 7 nd vf_dic0)
      (vb_cons (vs_for po rfl (vi_range1 (fl := true) B.range (va_cons (ve_bi (fla := true) call_len cf_len B.len PySem.boot_len (va_cons (ve_v 2) va_nil)) va_nil)) (vg_n 6 nd) (vb_one (vs_put 7 (fla := true) (ru1 hr) (ve_ix (flb := true) (ru1 hr) (ve_v 2) (ve_v 6)) (ve_op (fla := true) (flb := true) op_mod of_mod (ve_def d__law_draw tk (hr.mono (by decide)) (va_cons (ve_v 0) (va_cons (ve_v 1) (va_cons (ve_op op_addA of_add ve_int (ve_v 6)) va_nil))) rfl (la_cons (la_cons (la_cons la_nil)))) (ve_v 4)))))
      (vb_one (vs_give 7 (vs_give 5 (vs_ret (ve_lst (va_cons (ve_v 4) (va_cons (ve_v 7) (va_cons (ve_v 5) va_nil)))))))))))))
abbrev N_law : List Str := ["_law_script", "_law_patches", "_law_starts", "_law_mode", "_law_store_here", "_law_moves_here", "_law_cut", "_law_names_here", "_law_kept", "_law_made", "_law_other", "_law_name"]
theorem sc_law : FnScope N_law ["_law_script"] (defScope s_law) := ⟨rfl, rfl, rfl, by decide +kernel, rfl, by decide +kernel, by decide +kernel⟩
set_option maxHeartbeats 4000000 in
theorem v_law (B : Blt mg) (R : Raw K mg "law" s_law ["_law_script"]) (d__law_names : DefOk P w K mg base "_law_names" 2 ["_law_script", "_law_k", "_law_many_here"] 3 m__law_names) (d__law_many : DefOk P w K mg base "_law_many" 2 ["_law_script", "_law_j"] 2 m__law_many) (d__law_draw : DefOk P w K mg base "_law_draw" 1 ["_law_script", "_law_k", "_law_j"] 3 m__law_draw) (d__law_store : DefOk P w K mg base "_law_store" 2 ["_law_script", "_law_k", "_law_starts", "_law_patches"] 4 m__law_store) (d__law_big_store : DefOk P w K mg base "_law_big_store" 2 ["_law_script", "_law_k", "_law_starts", "_law_patches"] 4 m__law_big_store) (d__law_moves : DefOkO P w K mg base "_law_moves" 1 ["_law_store_here"] 1 m__law_moves) (d__law_asked : DefOk P w K mg base "_law_asked" 4 ["_law_made", "_law_store_here"] 2 m__law_asked) (IB_Store : InitOkB P w K mg base "Store" 3 ["self", "contents", "starts", "moves"] 4 1 m_Store___init__B) (I_Store : InitOk P w K mg base "Store" 3 ["self", "contents", "starts", "moves"] 4 m_Store___init__) : DefOk P w K mg base "law" 5 ["_law_script"] 1 m_law := by
  have nd := sc_law.nd
  refine def_v N_law b_law R sc_law rfl rfl (fun f cdv A outer s H E hr tk po => ?_)
  exact (vb_cons (vs_set 1 nd (ve_def d__law_names tk (hr.mono (by decide)) (va_cons (ve_v 0) (va_cons ve_int (va_cons (ve_def d__law_many tk (hr.mono (by decide)) (va_cons (ve_v 0) (va_cons ve_int va_nil)) rfl (la_cons (la_cons la_nil))) va_nil))) rfl (la_cons (la_cons (la_cons la_nil)))))
      (vb_cons (vs_set 2 nd (ve_def d__law_names tk (hr.mono (by decide)) (va_cons (ve_v 0) (va_cons ve_int (va_cons (ve_op op_addA of_add ve_int (ve_op (fla := true) (flb := true) op_mod of_mod (ve_def d__law_draw tk (hr.mono (by decide)) (va_cons (ve_v 0) (va_cons ve_int (va_cons ve_int va_nil))) rfl (la_cons (la_cons (la_cons la_nil)))) ve_int)) va_nil))) rfl (la_cons (la_cons (la_cons la_nil)))))
      (vb_cons (vs_set 3 nd (ve_op (fla := true) (flb := true) op_mod of_mod (ve_def d__law_draw tk (hr.mono (by decide)) (va_cons (ve_v 0) (va_cons ve_int (va_cons ve_int va_nil))) rfl (la_cons (la_cons (la_cons la_nil)))) ve_int))
      (vb_cons (vs_set 4 nd (ve_lst (va_cons ve_int (va_cons (ve_new vf_dic0) (va_cons (ve_new vf_dic1) va_nil)))))
      (vb_cons (vs_if (vt_cmp (fla := true) (flb := true) op_gt (nomark _) of_gt (ve_v 3) ve_int) (vb_one (vs_set 4 nd (ve_def d__law_store tk (hr.mono (by decide)) (va_cons (ve_v 0) (va_cons ve_int (va_cons (ve_v 2) (va_cons (ve_v 1) va_nil)))) rfl (la_cons (la_cons (la_cons (la_cons la_nil))))))) vb_nil)
      (vb_cons (vs_if (vt_cmp (fla := true) (flb := true) op_gt (nomark _) of_gt (ve_v 3) ve_int) (vb_one (vs_set 4 nd (ve_def d__law_big_store tk (hr.mono (by decide)) (va_cons (ve_v 0) (va_cons ve_int (va_cons (ve_v 2) (va_cons (ve_v 1) va_nil)))) rfl (la_cons (la_cons (la_cons (la_cons la_nil))))))) vb_nil)
      (vb_cons (vs_own 5 nd (vf_def d__law_moves tk (hr.mono (by decide)) (va_cons (ve_v 4) va_nil) rfl (la_cons la_nil)))
      (vb_cons (vs_set 6 nd (ve_op (fla := true) (flb := true) op_mod of_mod (ve_def d__law_draw tk (hr.mono (by decide)) (va_cons (ve_v 0) (va_cons ve_int (va_cons ve_int va_nil))) rfl (la_cons (la_cons (la_cons la_nil)))) (ve_op op_addA of_add (ve_bi (fla := false) call_len cf_len B.len PySem.boot_len (va_cons (ve_b 5) va_nil)) ve_int)))
      (vb_cons (vs_own 5 nd (vf_cat (ve_sl (ve_b 5) (vo_some (fl := true) (ve_v 6)) vo_none) (ve_sl (ve_b 5) vo_none (vo_some (fl := true) (ve_v 6)))))
      (vb_cons (vs_own 7 nd (vf_dictC B.dict (va_cons (ve_ix (flb := true) (ru1 hr) (ve_v 4) ve_int) va_nil)))
      (vb_cons (vs_if (vt_cmp (fla := true) (flb := true) (op_eqD hr.units) (nomark _) of_eq (ve_op (fla := true) (flb := true) op_mod of_mod (ve_def d__law_draw tk (hr.mono (by decide)) (va_cons (ve_v 0) (va_cons ve_int (va_cons ve_int va_nil))) rfl (la_cons (la_cons (la_cons la_nil)))) ve_int) ve_int) (vb_cons (vs_own 5 nd (vf_rev (ve_b 5)))
      (vb_cons (vs_own 7 nd vf_dic0)
      (vb_one (vs_for po rfl (vi_seq (ve_rev (ve_ty (cr_listX rfl) cf_listX B.list (by decide +kernel) (va_cons (ve_ix (flb := true) (ru1 hr) (ve_v 4) ve_int) va_nil)))) (vg_n 11 nd) (vb_one (vs_put 7 (fla := true) (ru1 hr) (ve_v 11) (ve_ix (flb := true) (ru1 hr) (ve_ix (flb := true) (ru1 hr) (ve_v 4) ve_int) (ve_v 11)))))))) vb_nil)
      (vb_cons (vs_set 8 nd (ve_lst (va_cons (ve_new (vf_dictI B.dict (va_cons (ve_b 7) va_nil))) (va_cons (ve_new (vf_listI B.list (va_cons (ve_b 5) va_nil))) va_nil))))
      (vb_cons (vs_mkB 9 7 5 nd IB_Store tk (hr.mono (by decide)) (ve_ix (flb := true) (ru1 hr) (ve_v 4) ve_int))
      (vb_cons (vs_if (vt_w (vw_or (vt_lend 5 (vt_lend 7 (vt_cmp (fla := true) (flb := true) (op_ne2 (ru65 hr)) (nomark _) of_ne2 (ve_lst (va_cons (ve_v 7) (va_cons (ve_v 5) va_nil))) (ve_v 8)))) (vw_or1 (vt_lend 7 (vt_cmp (fla := true) (flb := true) (op_neD hr.units) (nomark _) of_ne (ve_ty (cr_listX rfl) cf_listX B.list (by decide +kernel) (va_cons (ve_v 7) va_nil)) (ve_ty (cr_listX rfl) cf_listX B.list (by decide +kernel) (va_cons (ve_ix (flb := true) (ru1 hr) (ve_v 8) ve_int) va_nil))))))) (vb_one (vs_ret ve_bl)) vb_nil)
      (vb_cons (vs_set 10 nd (ve_make I_Store tk (hr.mono (by decide)) (va_cons ve_int (va_cons (ve_new (vf_disp 0 _ (.inl ⟨rfl, rfl⟩) (ru1 hr) (vps_cons ve_str ve_int vps_nil))) (va_cons (ve_lst (va_cons (ve_tup (va_cons ve_int (va_cons ve_str (va_cons ve_int va_nil)))) va_nil)) va_nil))) (fun env ds h => congrArg (· + 1) ((la_cons (la_cons (la_cons la_nil))) env ds h))))
      (vb_cons (vs_if (vt_not (vt_val (fl := true) (ve_def d__law_asked tk (hr.mono (by decide)) (va_cons (ve_v 9) (va_cons (ve_v 4) va_nil)) rfl (la_cons (la_cons la_nil))))) (vb_one (vs_ret ve_bl)) vb_nil)
      (vb_cons (vs_put 7 (fla := true) (ru1 hr) ve_str ve_int)
      (vb_cons (vs_clear 5)
      (vb_cons (vs_app 5 (ve_tup (va_cons ve_int (va_cons ve_str (va_cons ve_int va_nil)))))
      (vb_cons (vs_if (vt_not (vt_val (fl := true) (ve_def d__law_asked tk (hr.mono (by decide)) (va_cons (ve_v 10) (va_cons (ve_lst (va_cons ve_int (va_cons (ve_new (vf_disp 0 _ (.inl ⟨rfl, rfl⟩) (ru1 hr) (vps_cons ve_str ve_int vps_nil))) (va_cons (ve_new (vf_disp 1 _ (.inr ⟨rfl, rfl⟩) (ru1 hr) (vps_cons (ve_tup (va_cons ve_int (va_cons ve_str va_nil))) ve_int (vps_cons (ve_tup (va_cons ve_int (va_cons ve_str va_nil))) ve_int vps_nil)))) va_nil)))) va_nil)) rfl (la_cons (la_cons la_nil))))) (vb_one (vs_ret ve_bl)) vb_nil)
      (vb_one (vs_ret (ve_def d__law_asked tk (hr.mono (by decide)) (va_cons (ve_v 9) (va_cons (ve_v 4) va_nil)) rfl (la_cons (la_cons la_nil)))))))))))))))))))))))))
end
theorem all_of {l : PySem.W.OpenLaw} {w : World} {K : PySem.W.Frag} {h : Heap} {mg : Str → Option Value} {fa : Addr} (X : K.In h) (G : h.Ns mainGlobals mg) (hfa : mg "law" = some (.ref fa)) (T : SaysT tops w.params K) :
    ∃ fd : FuncData, (∀ (s : Shared) (v : Value), BindsTo s fd ⟨[v], []⟩ [("_law_script", v)]) ∧ ∀ base : Heap, K.In base → base.Ns mainGlobals mg → FnOk l.prog w K mg base (L2N.CX l.prog w) 5 fa fd ["_law_script"] (spEnd K) := by
  obtain ⟨oc0, od0, sl0, kV0, dc0, pm0, an0, cd0, ct0, l0, c0, k0⟩ : FnAt K (gA K "_law_draw") "_law_draw" "_law_draw" s__law_draw := T.defn 0 (d := ⟨fun K => (gA K "_law_draw"), "_law_draw", "_law_draw", s__law_draw⟩) rfl
  obtain ⟨oc1, od1, sl1, kV1, dc1, pm1, an1, cd1, ct1, l1, c1, k1⟩ : FnAt K (gA K "_law_names") "_law_names" "_law_names" s__law_names := T.defn 1 (d := ⟨fun K => (gA K "_law_names"), "_law_names", "_law_names", s__law_names⟩) rfl
  obtain ⟨oc2, od2, sl2, kV2, dc2, pm2, an2, cd2, ct2, l2, c2, k2⟩ : FnAt K (gA K "_law_moves") "_law_moves" "_law_moves" s__law_moves := T.defn 2 (d := ⟨fun K => (gA K "_law_moves"), "_law_moves", "_law_moves", s__law_moves⟩) rfl
  obtain ⟨oc3, od3, sl3, kV3, dc3, pm3, an3, cd3, ct3, l3, c3, k3⟩ : FnAt K (gA K "is_name") "is_name" "is_name" s_is_name := T.defn 3 (d := ⟨fun K => (gA K "is_name"), "is_name", "is_name", s_is_name⟩) rfl
  obtain ⟨oc4, od4, sl4, kV4, dc4, pm4, an4, cd4, ct4, l4, c4, k4⟩ : FnAt K (gA K "check_store") "check_store" "check_store" s_check_store := T.defn 4 (d := ⟨fun K => (gA K "check_store"), "check_store", "check_store", s_check_store⟩) rfl
  obtain ⟨oc5, od5, sl5, kV5, dc5, pm5, an5, cd5, ct5, l5, c5, k5⟩ : FnAt K (mA K (gA K "Store") "__init__") "__init__" "Store.__init__" s_Store___init__ := T.defn 5 (d := ⟨fun K => (mA K (gA K "Store") "__init__"), "__init__", "Store.__init__", s_Store___init__⟩) rfl
  obtain ⟨oc6, od6, sl6, kV6, dc6, pm6, an6, cd6, ct6, l6, c6, k6⟩ : FnAt K (pA K (gA K "Store") "contents") "contents" "Store.contents" s_Store_contents := T.defn 6 (d := ⟨fun K => (pA K (gA K "Store") "contents"), "contents", "Store.contents", s_Store_contents⟩) rfl
  obtain ⟨oc7, od7, sl7, kV7, dc7, pm7, an7, cd7, ct7, l7, c7, k7⟩ : FnAt K (pA K (gA K "Store") "starts") "starts" "Store.starts" s_Store_starts := T.defn 7 (d := ⟨fun K => (pA K (gA K "Store") "starts"), "starts", "Store.starts", s_Store_starts⟩) rfl
  obtain ⟨oc8, od8, sl8, kV8, dc8, pm8, an8, cd8, ct8, l8, c8, k8⟩ : FnAt K (pA K (gA K "Store") "moves") "moves" "Store.moves" s_Store_moves := T.defn 8 (d := ⟨fun K => (pA K (gA K "Store") "moves"), "moves", "Store.moves", s_Store_moves⟩) rfl
  obtain ⟨oc9, od9, sl9, kV9, dc9, pm9, an9, cd9, ct9, l9, c9, k9⟩ : FnAt K (gA K "_law_is_integer") "_law_is_integer" "_law_is_integer" s__law_is_integer := T.defn 9 (d := ⟨fun K => (gA K "_law_is_integer"), "_law_is_integer", "_law_is_integer", s__law_is_integer⟩) rfl
  obtain ⟨oc10, od10, sl10, kV10, dc10, pm10, an10, cd10, ct10, l10, c10, k10⟩ : FnAt K (gA K "_law_is_content") "_law_is_content" "_law_is_content" s__law_is_content := T.defn 10 (d := ⟨fun K => (gA K "_law_is_content"), "_law_is_content", "_law_is_content", s__law_is_content⟩) rfl
  obtain ⟨oc11, od11, sl11, kV11, dc11, pm11, an11, cd11, ct11, l11, c11, k11⟩ : FnAt K (gA K "_law_table") "_law_table" "_law_table" s__law_table := T.defn 11 (d := ⟨fun K => (gA K "_law_table"), "_law_table", "_law_table", s__law_table⟩) rfl
  obtain ⟨oc12, od12, sl12, kV12, dc12, pm12, an12, cd12, ct12, l12, c12, k12⟩ : FnAt K (gA K "_law_asked") "_law_asked" "_law_asked" s__law_asked := T.defn 12 (d := ⟨fun K => (gA K "_law_asked"), "_law_asked", "_law_asked", s__law_asked⟩) rfl
  obtain ⟨oc13, od13, sl13, kV13, dc13, pm13, an13, cd13, ct13, l13, c13, k13⟩ : FnAt K (gA K "_law_many") "_law_many" "_law_many" s__law_many := T.defn 13 (d := ⟨fun K => (gA K "_law_many"), "_law_many", "_law_many", s__law_many⟩) rfl
  obtain ⟨oc14, od14, sl14, kV14, dc14, pm14, an14, cd14, ct14, l14, c14, k14⟩ : FnAt K (gA K "_law_store") "_law_store" "_law_store" s__law_store := T.defn 14 (d := ⟨fun K => (gA K "_law_store"), "_law_store", "_law_store", s__law_store⟩) rfl
  obtain ⟨oc15, od15, sl15, kV15, dc15, pm15, an15, cd15, ct15, l15, c15, k15⟩ : FnAt K (gA K "_law_big_store") "_law_big_store" "_law_big_store" s__law_big_store := T.defn 15 (d := ⟨fun K => (gA K "_law_big_store"), "_law_big_store", "_law_big_store", s__law_big_store⟩) rfl
  obtain ⟨oc16, od16, sl16, kV16, dc16, pm16, an16, cd16, ct16, l16, c16, k16⟩ : FnAt K (gA K "law") "law" "law" s_law := T.defn 16 (d := ⟨fun K => (gA K "law"), "law", "law", s_law⟩) rfl
  have ka_Store : PySem.W.nsIn K mainGlobals "Store" = some (some (.ref (gA K "Store"))) := tR_ok (T.test 0 rfl)
  have kb_Store : PySem.W.plainGet K (gA K "Store") Str.empty = true := T.test 1 rfl
  have kc_Store : PySem.W.hasDictIn K (gA K "Store") = true := T.test 2 rfl
  have kd_Store : PySem.W.plainOver K (gA K "Store") = true := T.test 3 rfl
  have ke_Store : PySem.W.findIn K (.ref (gA K "Store")) "__setattr__" = some (some (.builtin "object.__setattr__")) := tB_ok (T.test 4 rfl)
  have kf_Store : PySem.W.makesIn K (gA K "Store") = true := T.test 5 rfl
  have kg_Store : PySem.W.keepIn K (.ref (gA K "Store")) = true := T.test 6 rfl
  have kn_Store_content_count : PySem.W.findIn K (.ref (gA K "Store")) "content_count" = some none := tN_ok (T.test 7 rfl)
  have kn_Store_start_contents : PySem.W.findIn K (.ref (gA K "Store")) "start_contents" = some none := tN_ok (T.test 8 rfl)
  have kn_Store_leads : PySem.W.findIn K (.ref (gA K "Store")) "leads" = some none := tN_ok (T.test 9 rfl)
  have a0 : PySem.W.nsIn K mainGlobals "_law_draw" = some (some (.ref (gA K "_law_draw"))) := tR_ok (T.test 10 rfl)
  have a1 : PySem.W.nsIn K mainGlobals "_law_names" = some (some (.ref (gA K "_law_names"))) := tR_ok (T.test 11 rfl)
  have a2 : PySem.W.nsIn K mainGlobals "_law_moves" = some (some (.ref (gA K "_law_moves"))) := tR_ok (T.test 12 rfl)
  have a3 : PySem.W.nsIn K mainGlobals "is_name" = some (some (.ref (gA K "is_name"))) := tR_ok (T.test 13 rfl)
  have a4 : PySem.W.nsIn K mainGlobals "check_store" = some (some (.ref (gA K "check_store"))) := tR_ok (T.test 14 rfl)
  have m5 : PySem.W.findIn K (.ref (gA K "Store")) "__init__" = some (some (.ref (mA K (gA K "Store") "__init__"))) := tR_ok (T.test 15 rfl)
  have n5 : PySem.W.isFn K (.ref (mA K (gA K "Store") "__init__")) = true := T.test 16 rfl
  have m6 : PySem.W.findIn K (.ref (gA K "Store")) "contents" = some (some (.ref (mA K (gA K "Store") "contents"))) := tR_ok (T.test 17 rfl)
  have pg6 : PySem.W.specialIn K (.ref (mA K (gA K "Store") "contents")) "__get__" = some (some (.builtin "property.__get__")) := tB_ok (T.test 18 rfl)
  have pt6 : PySem.W.takesIn K (.ref (mA K (gA K "Store") "contents")) = some true := tO_ok (T.test 19 rfl)
  have pr6 : PySem.W.recIn K (mA K (gA K "Store") "contents") "property" = some (.ref (pA K (gA K "Store") "contents") :: (rP (PySem.W.recIn K (mA K (gA K "Store") "contents") "property"))) := tP_ok (T.test 20 rfl)
  have m7 : PySem.W.findIn K (.ref (gA K "Store")) "starts" = some (some (.ref (mA K (gA K "Store") "starts"))) := tR_ok (T.test 21 rfl)
  have pg7 : PySem.W.specialIn K (.ref (mA K (gA K "Store") "starts")) "__get__" = some (some (.builtin "property.__get__")) := tB_ok (T.test 22 rfl)
  have pt7 : PySem.W.takesIn K (.ref (mA K (gA K "Store") "starts")) = some true := tO_ok (T.test 23 rfl)
  have pr7 : PySem.W.recIn K (mA K (gA K "Store") "starts") "property" = some (.ref (pA K (gA K "Store") "starts") :: (rP (PySem.W.recIn K (mA K (gA K "Store") "starts") "property"))) := tP_ok (T.test 24 rfl)
  have m8 : PySem.W.findIn K (.ref (gA K "Store")) "moves" = some (some (.ref (mA K (gA K "Store") "moves"))) := tR_ok (T.test 25 rfl)
  have pg8 : PySem.W.specialIn K (.ref (mA K (gA K "Store") "moves")) "__get__" = some (some (.builtin "property.__get__")) := tB_ok (T.test 26 rfl)
  have pt8 : PySem.W.takesIn K (.ref (mA K (gA K "Store") "moves")) = some true := tO_ok (T.test 27 rfl)
  have pr8 : PySem.W.recIn K (mA K (gA K "Store") "moves") "property" = some (.ref (pA K (gA K "Store") "moves") :: (rP (PySem.W.recIn K (mA K (gA K "Store") "moves") "property"))) := tP_ok (T.test 28 rfl)
  have a9 : PySem.W.nsIn K mainGlobals "_law_is_integer" = some (some (.ref (gA K "_law_is_integer"))) := tR_ok (T.test 29 rfl)
  have a10 : PySem.W.nsIn K mainGlobals "_law_is_content" = some (some (.ref (gA K "_law_is_content"))) := tR_ok (T.test 30 rfl)
  have a11 : PySem.W.nsIn K mainGlobals "_law_table" = some (some (.ref (gA K "_law_table"))) := tR_ok (T.test 31 rfl)
  have a12 : PySem.W.nsIn K mainGlobals "_law_asked" = some (some (.ref (gA K "_law_asked"))) := tR_ok (T.test 32 rfl)
  have a13 : PySem.W.nsIn K mainGlobals "_law_many" = some (some (.ref (gA K "_law_many"))) := tR_ok (T.test 33 rfl)
  have a14 : PySem.W.nsIn K mainGlobals "_law_store" = some (some (.ref (gA K "_law_store"))) := tR_ok (T.test 34 rfl)
  have a15 : PySem.W.nsIn K mainGlobals "_law_big_store" = some (some (.ref (gA K "_law_big_store"))) := tR_ok (T.test 35 rfl)
  have a16 : PySem.W.nsIn K mainGlobals "law" = some (some (.ref (gA K "law"))) := tR_ok (T.test 36 rfl)
  have z0 : PySem.W.nsIn K mainGlobals "int" = some none := tN_ok (T.test 37 rfl)
  have z1 : PySem.W.nsIn K mainGlobals "len" = some none := tN_ok (T.test 38 rfl)
  have z2 : PySem.W.nsIn K mainGlobals "range" = some none := tN_ok (T.test 39 rfl)
  have z3 : PySem.W.nsIn K mainGlobals "str" = some none := tN_ok (T.test 40 rfl)
  have z4 : PySem.W.nsIn K mainGlobals "sorted" = some none := tN_ok (T.test 41 rfl)
  have z5 : PySem.W.nsIn K mainGlobals "isinstance" = some none := tN_ok (T.test 42 rfl)
  have z6 : PySem.W.nsIn K mainGlobals "bool" = some none := tN_ok (T.test 43 rfl)
  have z7 : PySem.W.nsIn K mainGlobals "dict" = some none := tN_ok (T.test 44 rfl)
  have z8 : PySem.W.nsIn K mainGlobals "list" = some none := tN_ok (T.test 45 rfl)
  have z9 : PySem.W.nsIn K mainGlobals "tuple" = some none := tN_ok (T.test 46 rfl)
  have uC0 : PySem.W.nsIn K mainGlobals "LONGEST_NAME" = some (some (.int 12 (kT (PySem.W.nsIn K mainGlobals "LONGEST_NAME")))) := tI_ok (T.test 47 rfl)
  have uC1 : PySem.W.nsIn K mainGlobals "LETTERS" = some (some (.str "abcdefghijklmnopqrstuvwxyz" (kT (PySem.W.nsIn K mainGlobals "LETTERS")))) := tS_ok (T.test 48 rfl)
  have uC2 : PySem.W.nsIn K mainGlobals "DIGITS" = some (some (.str "0123456789" (kT (PySem.W.nsIn K mainGlobals "DIGITS")))) := tS_ok (T.test 49 rfl)
  have qa_Store : PySem.W.findIn K (.ref (gA K "Store")) "__class__" = some (some (.builtin "object.__class__")) := tB_ok (T.test 50 rfl)
  have qb_Store : PySem.W.specialIn K (.builtin "object.__class__") "__get__" = some (some (.builtin "getset_descriptor.__get__")) := tB_ok (T.test 51 rfl)
  have qc_Store : PySem.W.takesIn K (.builtin "object.__class__") = some true := tO_ok (T.test 52 rfl)
  have qd_Store : PySem.W.mroIn K (gA K "Store") (.type "object") = some true := tO_ok (T.test 53 rfl)
  have qf_Store : PySem.W.isClsIn K (gA K "Store") = true := T.test 54 rfl
  have qg_Store : PySem.W.typeIn K (.ref (gA K "Store")) = some (.type "type") := tT_ok (T.test 55 rfl)
  have qe_NoneType_Store : PySem.W.subIn K (.type "NoneType") (.ref (gA K "Store")) = some false := tO_ok (T.test 56 rfl)
  have qe_bool_Store : PySem.W.subIn K (.type "bool") (.ref (gA K "Store")) = some false := tO_ok (T.test 57 rfl)
  have qe_int_Store : PySem.W.subIn K (.type "int") (.ref (gA K "Store")) = some false := tO_ok (T.test 58 rfl)
  have qe_str_Store : PySem.W.subIn K (.type "str") (.ref (gA K "Store")) = some false := tO_ok (T.test 59 rfl)
  have qe_tuple_Store : PySem.W.subIn K (.type "tuple") (.ref (gA K "Store")) = some false := tO_ok (T.test 60 rfl)
  have qe_list_Store : PySem.W.subIn K (.type "list") (.ref (gA K "Store")) = some false := tO_ok (T.test 61 rfl)
  have qe_dict_Store : PySem.W.subIn K (.type "dict") (.ref (gA K "Store")) = some false := tO_ok (T.test 62 rfl)
  have g_Store := PySem.W.mg_of X G ka_Store
  have cl_Store : Cls K (gA K "Store") := ⟨kb_Store, kc_Store, kd_Store, ke_Store⟩
  have R0 : Raw K mg "_law_draw" s__law_draw ["_law_script", "_law_k", "_law_j"] := raw_mk X G a0 l0 c0 k0 (fun _ _ _ _ _ _ us hl => match us, hl with | [_, _, _], _ => rfl)
  have R1 : Raw K mg "_law_names" s__law_names ["_law_script", "_law_k", "_law_many_here"] := raw_mk X G a1 l1 c1 k1 (fun _ _ _ _ _ _ us hl => match us, hl with | [_, _, _], _ => rfl)
  have R2 : Raw K mg "_law_moves" s__law_moves ["_law_store_here"] := raw_mk X G a2 l2 c2 k2 (fun _ _ _ _ _ _ us hl => match us, hl with | [_], _ => rfl)
  have R3 : Raw K mg "is_name" s_is_name ["text"] := raw_mk X G a3 l3 c3 k3 (fun _ _ _ _ _ _ us hl => match us, hl with | [_], _ => rfl)
  have R4 : Raw K mg "check_store" s_check_store ["contents", "starts", "moves"] := raw_mk X G a4 l4 c4 k4 (fun _ _ _ _ _ _ us hl => match us, hl with | [_, _, _], _ => rfl)
  have F5 := fun_mk (st := s_Store___init__) l5 c5 k5
  have R5 : RawK K mg "Store" "Store.__init__" s_Store___init__ ["self", "contents", "starts", "moves"] := ⟨(gA K "Store"), (mA K (gA K "Store") "__init__"), _, g_Store, ⟨kf_Store, m5, n5, kg_Store⟩, F5, F5.binds (fun _ _ _ _ _ _ us hl => match us, hl with | [_, _, _, _], _ => rfl)⟩
  have F6 := fun_mk (st := s_Store_contents) l6 c6 k6
  have R6 : RawP K mg "Store" "contents" "Store.contents" s_Store_contents := ⟨(gA K "Store"), (mA K (gA K "Store") "contents"), (pA K (gA K "Store") "contents"), _, g_Store, cl_Store, ⟨m6, pg6, pt6, ⟨(rP (PySem.W.recIn K (mA K (gA K "Store") "contents") "property")), pr6⟩⟩, F6, F6.binds (fun _ _ _ _ _ _ us hl => match us, hl with | [_], _ => rfl)⟩
  have F7 := fun_mk (st := s_Store_starts) l7 c7 k7
  have R7 : RawP K mg "Store" "starts" "Store.starts" s_Store_starts := ⟨(gA K "Store"), (mA K (gA K "Store") "starts"), (pA K (gA K "Store") "starts"), _, g_Store, cl_Store, ⟨m7, pg7, pt7, ⟨(rP (PySem.W.recIn K (mA K (gA K "Store") "starts") "property")), pr7⟩⟩, F7, F7.binds (fun _ _ _ _ _ _ us hl => match us, hl with | [_], _ => rfl)⟩
  have F8 := fun_mk (st := s_Store_moves) l8 c8 k8
  have R8 : RawP K mg "Store" "moves" "Store.moves" s_Store_moves := ⟨(gA K "Store"), (mA K (gA K "Store") "moves"), (pA K (gA K "Store") "moves"), _, g_Store, cl_Store, ⟨m8, pg8, pt8, ⟨(rP (PySem.W.recIn K (mA K (gA K "Store") "moves") "property")), pr8⟩⟩, F8, F8.binds (fun _ _ _ _ _ _ us hl => match us, hl with | [_], _ => rfl)⟩
  have R9 : Raw K mg "_law_is_integer" s__law_is_integer ["_law_value"] := raw_mk X G a9 l9 c9 k9 (fun _ _ _ _ _ _ us hl => match us, hl with | [_], _ => rfl)
  have R10 : Raw K mg "_law_is_content" s__law_is_content ["_law_value", "_law_size"] := raw_mk X G a10 l10 c10 k10 (fun _ _ _ _ _ _ us hl => match us, hl with | [_, _], _ => rfl)
  have R11 : Raw K mg "_law_table" s__law_table ["_law_told"] := raw_mk X G a11 l11 c11 k11 (fun _ _ _ _ _ _ us hl => match us, hl with | [_], _ => rfl)
  have R12 : Raw K mg "_law_asked" s__law_asked ["_law_made", "_law_store_here"] := raw_mk X G a12 l12 c12 k12 (fun _ _ _ _ _ _ us hl => match us, hl with | [_, _], _ => rfl)
  have R13 : Raw K mg "_law_many" s__law_many ["_law_script", "_law_j"] := raw_mk X G a13 l13 c13 k13 (fun _ _ _ _ _ _ us hl => match us, hl with | [_, _], _ => rfl)
  have R14 : Raw K mg "_law_store" s__law_store ["_law_script", "_law_k", "_law_starts", "_law_patches"] := raw_mk X G a14 l14 c14 k14 (fun _ _ _ _ _ _ us hl => match us, hl with | [_, _, _, _], _ => rfl)
  have R15 : Raw K mg "_law_big_store" s__law_big_store ["_law_script", "_law_k", "_law_starts", "_law_patches"] := raw_mk X G a15 l15 c15 k15 (fun _ _ _ _ _ _ us hl => match us, hl with | [_, _, _, _], _ => rfl)
  have R16 : Raw K mg "law" s_law ["_law_script"] := raw_mk X G a16 l16 c16 k16 (fun _ _ _ _ _ _ us hl => match us, hl with | [_], _ => rfl)
  have B : Blt mg := ⟨PySem.W.mg_none_of X G z0, PySem.W.mg_none_of X G z1, PySem.W.mg_none_of X G z2, PySem.W.mg_none_of X G z3, PySem.W.mg_none_of X G z4, PySem.W.mg_none_of X G z5, PySem.W.mg_none_of X G z6, PySem.W.mg_none_of X G z7, PySem.W.mg_none_of X G z8, PySem.W.mg_none_of X G z9⟩
  have C_LONGEST_NAME := PySem.W.mg_of X G uC0
  have C_LETTERS := PySem.W.mg_of X G uC1
  have C_DIGITS := PySem.W.mg_of X G uC2
  refine ⟨PySem.W.fnOf "law" "law" (defArgs s_law) (defBody s_law) (defScope s_law) .none kV16 dc16 pm16 an16 cd16 ct16, fun s v => .of_eq rfl, fun base _ _ => ?_⟩
  have d__law_draw : DefOk l.prog w K mg base "_law_draw" 1 ["_law_script", "_law_k", "_law_j"] 3 m__law_draw := v__law_draw B R0
  have d__law_names : DefOk l.prog w K mg base "_law_names" 2 ["_law_script", "_law_k", "_law_many_here"] 3 m__law_names := v__law_names B R1 d__law_draw
  have d__law_moves : DefOkO l.prog w K mg base "_law_moves" 1 ["_law_store_here"] 1 m__law_moves := v__law_moves B R2
  have d_is_name : DefOk l.prog w K mg base "is_name" 1 ["text"] 1 m_is_name := v_is_name B R3 C_LONGEST_NAME C_LETTERS C_DIGITS
  have d_check_store : DefOk l.prog w K mg base "check_store" 2 ["contents", "starts", "moves"] 3 m_check_store := v_check_store B R4 d_is_name
  have I_Store : InitOk l.prog w K mg base "Store" 3 ["self", "contents", "starts", "moves"] 4 m_Store___init__ := v_Store___init__ B R5 ⟨(gA K "Store"), g_Store, cl_Store, (fs_cons kn_Store_content_count (fs_cons kn_Store_start_contents (fs_cons kn_Store_leads fs_nil)))⟩ d_check_store
  have IB_Store : InitOkB l.prog w K mg base "Store" 3 ["self", "contents", "starts", "moves"] 4 1 m_Store___init__B := v_Store___init__B B R5 ⟨(gA K "Store"), g_Store, cl_Store, (fs_cons kn_Store_content_count (fs_cons kn_Store_start_contents (fs_cons kn_Store_leads fs_nil)))⟩ d_check_store
  have P_Store_contents : PropOk l.prog w K mg base "Store" "contents" 1 m_Store_contents := v_Store_contents B R6 ⟨(gA K "Store"), g_Store, cl_Store, (fs_cons kn_Store_content_count (fs_cons kn_Store_start_contents (fs_cons kn_Store_leads fs_nil)))⟩
  have P_Store_starts : PropOkO l.prog w K mg base "Store" "starts" 1 m_Store_starts := v_Store_starts B R7 ⟨(gA K "Store"), g_Store, cl_Store, (fs_cons kn_Store_content_count (fs_cons kn_Store_start_contents (fs_cons kn_Store_leads fs_nil)))⟩
  have P_Store_moves : PropOkO l.prog w K mg base "Store" "moves" 1 m_Store_moves := v_Store_moves B R8 ⟨(gA K "Store"), g_Store, cl_Store, (fs_cons kn_Store_content_count (fs_cons kn_Store_start_contents (fs_cons kn_Store_leads fs_nil)))⟩
  have d__law_is_integer : DefOk l.prog w K mg base "_law_is_integer" 1 ["_law_value"] 1 m__law_is_integer := v__law_is_integer B R9
  have d__law_is_content : DefOk l.prog w K mg base "_law_is_content" 1 ["_law_value", "_law_size"] 2 m__law_is_content := v__law_is_content B R10
  have d__law_table : DefOk l.prog w K mg base "_law_table" 3 ["_law_told"] 1 m__law_table := v__law_table B R11 ⟨(gA K "Store"), g_Store, cl_Store, qa_Store, qb_Store, qc_Store, qd_Store, tyq_of (kitOne_ty qf_Store qg_Store qe_NoneType_Store) (kitOne_ty qf_Store qg_Store qe_bool_Store) (kitOne_ty qf_Store qg_Store qe_int_Store) (kitOne_ty qf_Store qg_Store qe_str_Store) (kitOne_ty qf_Store qg_Store qe_tuple_Store) (kitOne_ty qf_Store qg_Store qe_list_Store) (kitOne_ty qf_Store qg_Store qe_dict_Store)⟩ d__law_is_integer d__law_is_content P_Store_contents P_Store_starts P_Store_moves
  have d__law_asked : DefOk l.prog w K mg base "_law_asked" 4 ["_law_made", "_law_store_here"] 2 m__law_asked := v__law_asked B R12 d__law_table P_Store_moves P_Store_starts
  have d__law_many : DefOk l.prog w K mg base "_law_many" 2 ["_law_script", "_law_j"] 2 m__law_many := v__law_many B R13 d__law_draw
  have d__law_store : DefOk l.prog w K mg base "_law_store" 2 ["_law_script", "_law_k", "_law_starts", "_law_patches"] 4 m__law_store := v__law_store B R14 d__law_draw
  have d__law_big_store : DefOk l.prog w K mg base "_law_big_store" 2 ["_law_script", "_law_k", "_law_starts", "_law_patches"] 4 m__law_big_store := v__law_big_store B R15 d__law_draw
  have d_law : DefOk l.prog w K mg base "law" 5 ["_law_script"] 1 m_law := v_law B R16 d__law_names d__law_many d__law_draw d__law_store d__law_big_store d__law_moves d__law_asked IB_Store I_Store
  exact law_fin d_law hfa (PySem.W.mg_of X G a16) l16 m_law_ok
end VL

open PySem PySem.W PyProof.Rows in
set_option maxRecDepth 100000 in
set_option maxHeartbeats 0 in
theorem PySem.Challenge.cw_patchfacts_k10_store_parts_holds : PySem.Challenge.rw_patchfacts_k10_store_parts.Holds := by
  w_on
  o_law
  refine HandSHeadRun.head_any (r := VL.rowR) (q := VL.seeQ) (H := VL.hookT 12 VL.tops) (ob := VL.obT 12 VL.tops) (M := 30000) (loose := VL.freeN) (kwd := [])
    (d := HandSHeadRun.topDef VL.rowR.prog 27) (VL.obT_eq 12 VL.tops) (by kernel_rfl) (fun s => by kernel_rfl) VL.run_ok (by kernel_rfl) (by kernel_rfl)
    (by kernel_rfl) (by rfl) (by first | assumption | decide +kernel) (by decide +kernel) ⟨rfl, rfl, rfl, rfl, rfl, by decide +kernel⟩ ?hw ?hc
  case hw => w_witness2
  case hc =>
    refine VL.walk_ofT (l := PySem.Challenge.rw_patchfacts_k10_store_parts) (n := 63) (k := 5) (x := "_law_script") (CX := fun w => L2N.CX (PySem.Challenge.rw_patchfacts_k10_store_parts).prog w) rfl (by decide) (by kernel_rfl) ⟨rfl, by decide, by decide⟩ (by decide) ?F (fun _ H s e s' h => VL.cx_end _ _ H s e s' h)
    intro w mg fa h Y G h0
    obtain ⟨K, X, T⟩ := Y
    have e : (HandSHeadRun.topDef VL.rowR.prog 27).name = ("law" : PySem.Str) := by kernel_rfl
    rw [e] at h0
    obtain ⟨fd, hb, hF⟩ := VL.all_of (l := PySem.Challenge.rw_patchfacts_k10_store_parts) (w := w) X G h0 T
    exact ⟨K, fd, X, hb, hF⟩
