import PyProof.Rows.All
import HandS.Base
import HandS.Words
import HandS.Call
import HandS.Exc
import HandS.Head0
import HandS.Head1
import HandS.Head2
import HandS.HeadHook1
import HandS.HeadHook2
import HandS.HeadHook3
import Wide.All
import OpenK.AllK
import Wide.FinOn
import HandS.ForMost
import HandS.TryOnly
import HandS.ExcOwn
import HandS.CallSlots
import HandS.ExcCtx
import HandS.TryMany
import HandS.Wide
import HandS.TupAny
import HandS.TupMul
import HandS.Deep
import HandS.IsInst
import PyProof.StrOps2
import HandS.WordsExc
import HandS.EndBits
import HandS.RaiseMore
import HandS.ExcInitHot
import HandS.ExcField
import HandS.ExcIs
import KE.KExcIs
import PyProof.RulesMatch
import HandS.NoneIn
import HandS.More
import HandS.Property
import HandS.Style
import HandS.DictComp
import KE.KRevSl
import HandS.DictEq
import HandS.HotCalls
import HandS.SetFor
import HandS.Text
import HandS.Iter
import HandS.TupLe
import KE.KDictKeyed
import HandS.Conv
import HandS.SlotsOwn
import HandS.OwnEq
import HandS.Star
import HandS.Defaults
import OpenK.KOps
import HandS.DictTup
import HandS.Zip
import HandS.HeadEnd
import HandS.TupLen
import HandS.Flow
import HandS.IterVal
import HandS.GenList
import HandS.Nested
import PySem.Challenge.RW_patchfacts_k12_runs_in_a_store
set_option Elab.async false
set_option linter.all false
set_option maxRecDepth 100000
set_option maxHeartbeats 2000000
set_option maxRecDepth 100000
set_option maxHeartbeats 2000000
set_option autoImplicit false
section
variable {A : Type _} {x y : A} {l : List A} {n : Nat}
theorem gz_ : (x :: l)[0]? = some x := rfl
theorem gs_ : (x :: l)[n + 1]? = l[n]? := rfl
theorem sz_ : (x :: l).set 0 y = y :: l := rfl
theorem ss_ : (x :: l).set (n + 1) y = x :: l.set n y := rfl
end
namespace VL
open PySem PySem.Spec PyProof.Rows L2
abbrev Fr : Type := PySem.W.Frag
section
variable {o : Option (Option Value)} {p : Option Bool} {v : Option Value} {r : Option (List Value)}
def tR (o : Option (Option Value)) : Bool := match o with | some (some (.ref _)) => true | _ => false
def aR (o : Option (Option Value)) : Addr := match o with | some (some (.ref a)) => a | _ => 0
theorem tR_ok (h : tR o = true) : o = some (some (.ref (aR o))) := by
  cases o with
  | none => cases h
  | some o => cases o with
    | none => cases h
    | some v => cases v <;> first | rfl | cases h
def tN (o : Option (Option Value)) : Bool := match o with | some none => true | _ => false
theorem tN_ok (h : tN o = true) : o = some none := by
  cases o with
  | none => cases h
  | some o => cases o with
    | none => rfl
    | some v => cases h
def tB (o : Option (Option Value)) (n : String) : Bool := match o with | some (some (.builtin m)) => decide (m = n) | _ => false
theorem tB_ok {n : String} (h : tB o n = true) : o = some (some (.builtin n)) := by
  cases o with
  | none => cases h
  | some o => cases o with
    | none => cases h
    | some v =>
      cases v <;> first | cases h | skip
      case builtin m =>
        have e : m = n := of_decide_eq_true h
        rw [e]
def tO (p : Option Bool) (b : Bool) : Bool := match p with | some c => c == b | none => false
theorem tO_ok {b : Bool} (h : tO p b = true) : p = some b := by
  cases p with
  | none => cases h
  | some c =>
    have e : c = b := beq_iff_eq.mp h
    rw [e]
def tT (v : Option Value) (n : String) : Bool := match v with | some (.type m) => decide (m = n) | _ => false
theorem tT_ok {n : String} (h : tT v n = true) : v = some (.type n) := by
  cases v with
  | none => cases h
  | some v =>
    cases v <;> first | cases h | skip
    case type m =>
      have e : m = n := of_decide_eq_true h
      rw [e]
def aP (r : Option (List Value)) : Addr := match r with | some (.ref a :: _) => a | _ => 0
def kT (o : Option (Option Value)) : Tok := match o with | some (some (.int _ t)) => t | some (some (.str _ t)) => t | _ => default
def tI (o : Option (Option Value)) (i : Int) : Bool := match o with | some (some (.int j _)) => decide (j = i) | _ => false
theorem tI_ok {i : Int} (h : tI o i = true) : o = some (some (.int i (kT o))) := by
  cases o with
  | none => cases h
  | some o => cases o with
    | none => cases h
    | some v =>
      cases v <;> first | cases h | skip
      case int j t =>
        have e : j = i := of_decide_eq_true h
        subst e
        rfl
def tS (o : Option (Option Value)) (s : Str) : Bool := match o with | some (some (.str z _)) => decide (z = s) | _ => false
theorem tS_ok {s : Str} (h : tS o s = true) : o = some (some (.str s (kT o))) := by
  cases o with
  | none => cases h
  | some o => cases o with
    | none => cases h
    | some v =>
      cases v <;> first | cases h | skip
      case str z t =>
        have e : z = s := of_decide_eq_true h
        subst e
        rfl
end
def gA (K : Fr) (x : Str) : Addr := aR (PySem.W.nsIn K mainGlobals x)
def mA (K : Fr) (C : Addr) (m : Str) : Addr := aR (PySem.W.findIn K (.ref C) m)
structure FnT where
  at_ : Fr → Addr
  name : Str
  qual : Str
  st : Stmt
abbrev FnAt (K : Fr) (f : Addr) (n q : Str) (st : Stmt) : Prop := ∃ (oc : Value) (od : Option Addr) (sl : Array (Option Value)) (kV dc pm : Value) (an : Option Addr) (cd ct : Value),
  K.lookup f = some ⟨oc, od, .func (PySem.W.fnOf n q (defArgs st) (defBody st) (defScope st) .none kV dc pm an cd ct), sl⟩ ∧ PySem.W.codeIn K cd q = true ∧ PySem.W.keepIn K (.ref f) = true
def fnT (K : Fr) (f : Addr) : He.FnV := match K.lookup f with
  | some ⟨_, _, .func fd, _⟩ => some (fd.name, fd.qualname, fd.params, fd.body, fd.scope, fd.globals, fd.closure, fd.defaults, fd.builtins)
  | _ => none
def FnT.val (d : FnT) : He.FnV := some (d.name, d.qual, defArgs d.st, .stmts (defBody d.st), defScope d.st, mainGlobals, [], .none, builtinsNs)
def FnT.ok (K : Fr) (d : FnT) : Bool := match K.lookup (d.at_ K) with
  | some ⟨_, _, .func fd, _⟩ => PySem.W.codeIn K fd.code d.qual && PySem.W.keepIn K (.ref (d.at_ K))
  | _ => false
theorem FnT.get {K : Fr} {d : FnT} (e : fnT K (d.at_ K) = d.val) (c : d.ok K = true) : FnAt K (d.at_ K) d.name d.qual d.st := by
  unfold fnT at e
  unfold FnT.ok at c
  cases z : K.lookup (d.at_ K) with
  | none => rw [z] at c; cases c
  | some b =>
    obtain ⟨u1, u2, u3, u4⟩ := b
    rw [z] at c e
    cases u3 <;> first | cases c | skip
    case func fd =>
      obtain ⟨w1, w2, w3, w4, w5, w6, w7, w8, w9, w10, w11, w12, w13, w14, w15⟩ := fd
      have e : (some (w1, w2, w3, w4, w5, w6, w7, w8, w15) : He.FnV) = some (d.name, d.qual, defArgs d.st, .stmts (defBody d.st), defScope d.st, mainGlobals, [], .none, builtinsNs) := e
      simp only [Option.some.injEq, Prod.mk.injEq] at e
      obtain ⟨e1, e2, e3, e4, e5, e6, e7, e8, e9⟩ := e
      subst e1 e2 e3 e4 e5 e6 e7 e8 e9
      have c : (PySem.W.codeIn K w13 d.qual && PySem.W.keepIn K (.ref (d.at_ K))) = true := c
      obtain ⟨c1, c2⟩ := Bool.and_eq_true_iff.mp c
      exact ⟨u1, u2, u4, w9, w10, w11, w12, w13, w14, z, c1, c2⟩
def xT (K : Fr) (C : Addr) : Bool := match K.lookup C with
  | some ⟨.type T, _, .cls cd, sl⟩ => (match cd.mro, sl.toList with
    | .ref B :: bm, [_, _, _, _, some (.builtin n), _] => (decide (B = C) && decide (n = "ValueError.__new__")) && ((decide (T = "type") && !cd.hasDel) && (cd.hasDict && PySem.HandSPX.refsVE bm))
    | _, _ => false)
  | _ => false
abbrev ExAt (K : Fr) (C : Addr) : Prop := ∃ (nm q : Str) (N : Addr) (bs bm : List Value) (sn : List Str) (sb : List Value) (ab : Bool) (co : Option Bool) (dd : Option Addr) (m0 m1 m2 m3 m5 : Option Value),
  K.lookup C = some (excClassObj nm q C N bs bm true sn sb ab co dd m0 m1 m2 m3 m5 "ValueError.__new__") ∧ PySem.HandSPX.refsVE bm = true
theorem xT_ok {K : Fr} {C : Addr} (h : xT K C = true) : ExAt K C := by
  unfold xT at h
  split at h
  · rename_i T dd cd sl ho
    split at h
    · rename_i B bm k0 k1 k2 k3 n k5 hm hs
      obtain ⟨h1, h2⟩ := Bool.and_eq_true_iff.mp h
      obtain ⟨h3, h4⟩ := Bool.and_eq_true_iff.mp h1
      obtain ⟨h5, h6⟩ := Bool.and_eq_true_iff.mp h2
      obtain ⟨h7, h8⟩ := Bool.and_eq_true_iff.mp h5
      obtain ⟨h9, h10⟩ := Bool.and_eq_true_iff.mp h6
      have e3 : B = C := of_decide_eq_true h3
      have e4 : n = "ValueError.__new__" := of_decide_eq_true h4
      have e7 : T = "type" := of_decide_eq_true h7
      have e8 : cd.hasDel = false := by
        cases q : cd.hasDel with
        | false => rfl
        | true => rw [q] at h8; cases h8
      have e9 : cd.hasDict = true := h9
      clear h h1 h2 h3 h4 h5 h6 h7 h8 h9
      obtain ⟨nm, bs, mro, ns, qn, hd, sn, sub, ab, col, del⟩ := cd
      dsimp only at hm e8 e9
      subst hm
      subst e8
      subst e9
      subst e3
      subst e4
      subst e7
      have hsl : sl = #[k0, k1, k2, k3, some (.builtin "ValueError.__new__"), k5] := by
        obtain ⟨l⟩ := sl
        simp only at hs
        rw [hs]
      subst hsl
      exact ⟨nm, qn, ns, bs, bm, sn, sub, ab, col, dd, k0, k1, k2, k3, k5, ho, h10⟩
    · cases h
  · cases h
def entT (e : DictEntry) : Option (Str × Int) := match e.key, e.val with
  | .str z _, .int m _ => some (z, m)
  | _, _ => none
abbrev DcV : Type := Option (List (Option (Str × Int)) × List (Option (Str × Int)))
def dcT (K : Fr) (a : Addr) : DcV := match K.lookup a with
  | some ⟨.type c, none, .dict es _, sl⟩ => (match decide (c = "dict") && (sl.isEmpty && !(a == sysModules)) with
    | true => some (es.toList.map He.keyOf, es.toList.map entT)
    | false => none)
  | _ => none
abbrev DcAt (K : Fr) (P : Params) (a : Addr) (l : List (Str × Int)) : Prop := ∃ (es : Array DictEntry) (n : Nat), K.lookup a = some ⟨.type "dict", none, .dict es n, #[]⟩ ∧ PySem.W.KeysLit P es.toList ∧ (a == sysModules) = false ∧ es.toList.map entT = l.map some
theorem dcT_ok {K : Fr} {P : Params} {a : Addr} {l : List (Str × Int)} (h : dcT K a = some (He.keysIn P (l.map (·.1)), l.map some)) : DcAt K P a l := by
  unfold dcT at h
  split at h
  · rename_i c es n sl ho
    split at h
    · rename_i hc
      obtain ⟨h1, h2⟩ := Bool.and_eq_true_iff.mp hc
      obtain ⟨h3, h4⟩ := Bool.and_eq_true_iff.mp h2
      have h1 := of_decide_eq_true h1
      have h3 : sl = #[] := Array.isEmpty_iff.mp h3
      subst h1 h3
      have h := Option.some.inj h
      refine ⟨es, n, ho, He.keysLit_of (congrArg (·.1) h), ?_, congrArg (·.2) h⟩
      cases q : (a == sysModules) with
      | false => rfl
      | true => rw [q] at h4; cases h4
    · cases h
  · cases h
structure TopT where
  ts : List (Fr → Bool)
  fn : List FnT
  dc : List (Str × List (Str × Int))
abbrev AlT : Type := Bool × (List He.FnV × List DcV)
def obsT (t : TopT) (K : Fr) : AlT := ((t.ts.all fun f => f K) && t.fn.all fun d => d.ok K, t.fn.map fun d => fnT K (d.at_ K), t.dc.map fun d => dcT K (gA K d.1))
def valT (t : TopT) (P : Params) : AlT := (true, t.fn.map FnT.val, t.dc.map fun d => some (He.keysIn P (d.2.map (·.1)), d.2.map some))
def SaysT (t : TopT) (P : Params) (K : Fr) : Prop := obsT t K = valT t P
def adrT (lo n : Nat) : List Addr := mainGlobals :: (List.range (n - lo)).map fun i => i + lo
def hookT (lo : Nat) (t : TopT) : PySem.W.Hook where
  α := AlT
  obs := fun s => obsT t (He.frG s.heap.get? (adrT lo s.heap.objs.size))
  val := fun w => valT t w.params
  says := fun w h => ∃ K : Fr, K.In h ∧ SaysT t w.params K
  of := fun _ _ e => ⟨_, He.frG_in, e⟩
  keeps := fun _ _ _ ⟨K, hK, c⟩ k => ⟨K, PySem.W.Frag.In.keeps hK k, c⟩
def obT (lo : Nat) (t : TopT) (s : PySem.W.SharedT) : AlT := obsT t (He.frG (HandSHeadRun.getT s) (adrT lo s.n))
theorem obT_eq (lo : Nat) (t : TopT) (s : PySem.W.SharedT) : obT lo t s = (hookT lo t).obs s.abs := by
  have e : HandSHeadRun.getT s = s.abs.heap.get? := funext (HandSHeadRun.getT_eq s)
  have e2 : s.abs.heap.objs.size = s.n := PySem.W.absHeap_size s.tree s.n s.life
  unfold obT
  rw [e, ← e2]
  rfl
section
variable {t : TopT} {P : Params} {K : Fr}
theorem SaysT.test (c : SaysT t P K) (i : Nat) {f : Fr → Bool} (h : t.ts[i]? = some f) : f K = true := by
  have c1 : ((t.ts.all fun f => f K) && t.fn.all fun d => d.ok K) = true := congrArg (fun z : AlT => z.1) c
  exact List.all_eq_true.mp (Bool.and_eq_true_iff.mp c1).1 f (List.mem_of_getElem? h)
theorem SaysT.defn (c : SaysT t P K) (i : Nat) {d : FnT} (h : t.fn[i]? = some d) : FnAt K (d.at_ K) d.name d.qual d.st := by
  have c1 : ((t.ts.all fun f => f K) && t.fn.all fun d => d.ok K) = true := congrArg (fun z : AlT => z.1) c
  have c2 : t.fn.map (fun d => fnT K (d.at_ K)) = t.fn.map FnT.val := congrArg (fun z : AlT => z.2.1) c
  have e : (t.fn.map fun d => fnT K (d.at_ K))[i]? = (t.fn.map FnT.val)[i]? := by rw [c2]
  rw [List.getElem?_map, List.getElem?_map, h] at e
  exact FnT.get (Option.some.inj e) (List.all_eq_true.mp (Bool.and_eq_true_iff.mp c1).2 d (List.mem_of_getElem? h))
theorem SaysT.dict (c : SaysT t P K) (i : Nat) {d : Str × List (Str × Int)} (h : t.dc[i]? = some d) : DcAt K P (gA K d.1) d.2 := by
  have c2 : (t.dc.map fun d => dcT K (gA K d.1)) = t.dc.map fun d => some (He.keysIn P (d.2.map (·.1)), d.2.map some) := congrArg (fun z : AlT => z.2.2) c
  have e : (t.dc.map fun d => dcT K (gA K d.1))[i]? = (t.dc.map fun d => (some (He.keysIn P (d.2.map (·.1)), d.2.map some) : DcV))[i]? := by rw [c2]
  rw [List.getElem?_map, List.getElem?_map, h] at e
  exact dcT_ok (Option.some.inj e)
end
end VL

namespace VL
open PySem L2
set_option maxHeartbeats 0
def topS (i : Nat) : Stmt := PySem.Challenge.pw_patchfacts_k12_runs_in_a_store.main.body.getD i (.Pass ⟨0, 0, 0, 0⟩)
abbrev s__law_draw : Stmt := topS 22
abbrev s__law_names : Stmt := topS 23
abbrev s__law_store : Stmt := topS 24
abbrev s__law_big_store : Stmt := topS 25
abbrev s__law_drawn_store : Stmt := topS 26
abbrev s__law_run : Stmt := topS 29
abbrev s__law_many : Stmt := topS 33
abbrev s_is_name : Stmt := topS 15
abbrev s_check_store : Stmt := topS 19
abbrev s_Store___init__ : Stmt := inClass (topS 20) 0
abbrev s__law_moves : Stmt := topS 27
abbrev s__law_made : Stmt := topS 28
abbrev s_is_step : Stmt := topS 16
abbrev s_check_run : Stmt := topS 17
abbrev s_Store_check_starts : Stmt := inClass (topS 20) 4
abbrev s_Store_end : Stmt := inClass (topS 20) 5
abbrev s_Store___contains__ : Stmt := inClass (topS 20) 9
abbrev s__law_refused_start : Stmt := topS 32
abbrev s__law_refused : Stmt := topS 37
abbrev s__law_trail : Stmt := topS 35
abbrev s__law_is_integer : Stmt := topS 30
abbrev s_Store_walk : Stmt := inClass (topS 20) 6
abbrev s__law_asked : Stmt := topS 36
abbrev s__law_unnamed : Stmt := topS 31
abbrev s__law_refused_run : Stmt := topS 34
abbrev s__law_bad : Stmt := topS 38
abbrev s_law : Stmt := topS 39
def tops : TopT where
  ts := ([fun K => xT K (gA K "BadRun"),
    fun K => xT K (gA K "UnknownStart"),
    fun K => tR (PySem.W.nsIn K mainGlobals "Store"),
    fun K => PySem.W.plainGet K (gA K "Store") Str.empty,
    fun K => PySem.W.hasDictIn K (gA K "Store"),
    fun K => PySem.W.plainOver K (gA K "Store"),
    fun K => tB (PySem.W.findIn K (.ref (gA K "Store")) "__setattr__") "object.__setattr__",
    fun K => PySem.W.makesIn K (gA K "Store"),
    fun K => PySem.W.keepIn K (.ref (gA K "Store")),
    fun K => tN (PySem.W.findIn K (.ref (gA K "Store")) "content_count"),
    fun K => tN (PySem.W.findIn K (.ref (gA K "Store")) "start_contents"),
    fun K => tN (PySem.W.findIn K (.ref (gA K "Store")) "leads"),
    fun K => tR (PySem.W.nsIn K mainGlobals "_law_draw"),
    fun K => tR (PySem.W.nsIn K mainGlobals "_law_names"),
    fun K => tR (PySem.W.nsIn K mainGlobals "_law_store"),
    fun K => tR (PySem.W.nsIn K mainGlobals "_law_big_store"),
    fun K => tR (PySem.W.nsIn K mainGlobals "_law_drawn_store"),
    fun K => tR (PySem.W.nsIn K mainGlobals "_law_run"),
    fun K => tR (PySem.W.nsIn K mainGlobals "_law_many"),
    fun K => tR (PySem.W.nsIn K mainGlobals "is_name"),
    fun K => tR (PySem.W.nsIn K mainGlobals "check_store"),
    fun K => tR (PySem.W.findIn K (.ref (gA K "Store")) "__init__"),
    fun K => PySem.W.isFn K (.ref (mA K (gA K "Store") "__init__")),
    fun K => tR (PySem.W.nsIn K mainGlobals "_law_moves"),
    fun K => tR (PySem.W.nsIn K mainGlobals "_law_made")] : List (Fr → Bool)) ++
  ([fun K => tR (PySem.W.nsIn K mainGlobals "is_step"),
    fun K => tR (PySem.W.nsIn K mainGlobals "check_run"),
    fun K => tR (PySem.W.findIn K (.ref (gA K "Store")) "check_starts"),
    fun K => PySem.W.isFn K (.ref (mA K (gA K "Store") "check_starts")),
    fun K => tR (PySem.W.findIn K (.ref (gA K "Store")) "end"),
    fun K => PySem.W.isFn K (.ref (mA K (gA K "Store") "end")),
    fun K => tR (PySem.W.findIn K (.ref (gA K "Store")) "__contains__"),
    fun K => PySem.W.isFn K (.ref (mA K (gA K "Store") "__contains__")),
    fun K => tR (PySem.W.nsIn K mainGlobals "_law_refused_start"),
    fun K => tR (PySem.W.nsIn K mainGlobals "_law_refused"),
    fun K => tR (PySem.W.nsIn K mainGlobals "_law_trail"),
    fun K => tR (PySem.W.nsIn K mainGlobals "_law_is_integer"),
    fun K => tR (PySem.W.findIn K (.ref (gA K "Store")) "walk"),
    fun K => PySem.W.isFn K (.ref (mA K (gA K "Store") "walk")),
    fun K => tR (PySem.W.nsIn K mainGlobals "_law_asked"),
    fun K => tR (PySem.W.nsIn K mainGlobals "_law_unnamed"),
    fun K => tR (PySem.W.nsIn K mainGlobals "_law_refused_run"),
    fun K => tR (PySem.W.nsIn K mainGlobals "_law_bad"),
    fun K => tR (PySem.W.nsIn K mainGlobals "law"),
    fun K => tN (PySem.W.nsIn K mainGlobals "int"),
    fun K => tN (PySem.W.nsIn K mainGlobals "len"),
    fun K => tN (PySem.W.nsIn K mainGlobals "range"),
    fun K => tN (PySem.W.nsIn K mainGlobals "list"),
    fun K => tN (PySem.W.nsIn K mainGlobals "str"),
    fun K => tN (PySem.W.nsIn K mainGlobals "sorted")] : List (Fr → Bool)) ++
  ([fun K => tN (PySem.W.nsIn K mainGlobals "dict"),
    fun K => tN (PySem.W.nsIn K mainGlobals "isinstance"),
    fun K => tN (PySem.W.nsIn K mainGlobals "ValueError"),
    fun K => tN (PySem.W.nsIn K mainGlobals "bool"),
    fun K => tN (PySem.W.nsIn K mainGlobals "tuple"),
    fun K => tI (PySem.W.nsIn K mainGlobals "LONGEST_NAME") 12,
    fun K => tS (PySem.W.nsIn K mainGlobals "LETTERS") "abcdefghijklmnopqrstuvwxyz",
    fun K => tS (PySem.W.nsIn K mainGlobals "DIGITS") "0123456789",
    fun K => tR (PySem.W.nsIn K mainGlobals "BadStore"),
    fun K => tO (PySem.W.subIn K (.ref (gA K "BadStore")) (.type "BaseException")) true,
    fun K => tT (PySem.W.typeIn K (.ref (gA K "BadStore"))) "type",
    fun K => PySem.W.isClsIn K (gA K "BadStore"),
    fun K => tO (PySem.W.subIn K (.ref (gA K "BadStore")) (.ref (gA K "BadStore"))) true,
    fun K => tR (PySem.W.nsIn K mainGlobals "BadRun"),
    fun K => tO (PySem.W.subIn K (.ref (gA K "BadRun")) (.type "BaseException")) true,
    fun K => tT (PySem.W.typeIn K (.ref (gA K "BadRun"))) "type",
    fun K => PySem.W.isClsIn K (gA K "BadRun"),
    fun K => tO (PySem.W.subIn K (.ref (gA K "BadRun")) (.ref (gA K "BadRun"))) true,
    fun K => tR (PySem.W.nsIn K mainGlobals "UnknownStart"),
    fun K => tO (PySem.W.subIn K (.ref (gA K "UnknownStart")) (.type "BaseException")) true,
    fun K => tT (PySem.W.typeIn K (.ref (gA K "UnknownStart"))) "type",
    fun K => PySem.W.isClsIn K (gA K "UnknownStart"),
    fun K => tO (PySem.W.subIn K (.ref (gA K "UnknownStart")) (.ref (gA K "UnknownStart"))) true,
    fun K => tR (PySem.W.nsIn K mainGlobals "PatchError"),
    fun K => tO (PySem.W.subIn K (.ref (gA K "PatchError")) (.type "BaseException")) true] : List (Fr → Bool)) ++
  ([fun K => tT (PySem.W.typeIn K (.ref (gA K "PatchError"))) "type",
    fun K => PySem.W.isClsIn K (gA K "PatchError"),
    fun K => tO (PySem.W.subIn K (.ref (gA K "PatchError")) (.ref (gA K "PatchError"))) true,
    fun K => tR (PySem.W.nsIn K mainGlobals "BadFact"),
    fun K => tO (PySem.W.subIn K (.ref (gA K "BadFact")) (.type "BaseException")) true,
    fun K => tT (PySem.W.typeIn K (.ref (gA K "BadFact"))) "type",
    fun K => PySem.W.isClsIn K (gA K "BadFact"),
    fun K => tO (PySem.W.subIn K (.ref (gA K "BadFact")) (.ref (gA K "BadFact"))) true,
    fun K => tR (PySem.W.nsIn K mainGlobals "NoStore"),
    fun K => tO (PySem.W.subIn K (.ref (gA K "NoStore")) (.type "BaseException")) true,
    fun K => tT (PySem.W.typeIn K (.ref (gA K "NoStore"))) "type",
    fun K => PySem.W.isClsIn K (gA K "NoStore"),
    fun K => tO (PySem.W.subIn K (.ref (gA K "NoStore")) (.ref (gA K "NoStore"))) true,
    fun K => tR (PySem.W.nsIn K mainGlobals "NotForced"),
    fun K => tO (PySem.W.subIn K (.ref (gA K "NotForced")) (.type "BaseException")) true,
    fun K => tT (PySem.W.typeIn K (.ref (gA K "NotForced"))) "type",
    fun K => PySem.W.isClsIn K (gA K "NotForced"),
    fun K => tO (PySem.W.subIn K (.ref (gA K "NotForced")) (.ref (gA K "NotForced"))) true,
    fun K => tR (PySem.W.nsIn K mainGlobals "BadLine"),
    fun K => tO (PySem.W.subIn K (.ref (gA K "BadLine")) (.type "BaseException")) true,
    fun K => tT (PySem.W.typeIn K (.ref (gA K "BadLine"))) "type",
    fun K => PySem.W.isClsIn K (gA K "BadLine"),
    fun K => tO (PySem.W.subIn K (.ref (gA K "BadLine")) (.ref (gA K "BadLine"))) true,
    fun K => tR (PySem.W.nsIn K mainGlobals "NoFact"),
    fun K => tO (PySem.W.subIn K (.ref (gA K "NoFact")) (.type "BaseException")) true] : List (Fr → Bool)) ++
  ([fun K => tT (PySem.W.typeIn K (.ref (gA K "NoFact"))) "type",
    fun K => PySem.W.isClsIn K (gA K "NoFact"),
    fun K => tO (PySem.W.subIn K (.ref (gA K "NoFact")) (.ref (gA K "NoFact"))) true,
    fun K => PySem.W.keepIn K (.ref (gA K "BadStore")),
    fun K => tB (PySem.W.findIn K (.ref (gA K "BadStore")) "__getattribute__") "BaseException.__getattribute__",
    fun K => tN (PySem.W.findIn K (.ref (gA K "BadStore")) "__getattr__"),
    fun K => PySem.W.hasDictIn K (gA K "BadStore"),
    fun K => tB (PySem.W.findIn K (.ref (gA K "BadStore")) "__class__") "object.__class__",
    fun K => tO (PySem.W.mroIn K (gA K "BadStore") (.type "object")) true,
    fun K => PySem.W.excIn K (gA K "BadStore") [.type "ValueError", .type "Exception", .type "BaseException", .type "object"] "ValueError.__new__",
    fun K => tO (PySem.W.subIn K (.ref (gA K "BadStore")) (.ref (gA K "PatchError"))) true,
    fun K => tO (PySem.W.subIn K (.ref (gA K "BadStore")) (.ref (gA K "BadRun"))) false,
    fun K => tO (PySem.W.subIn K (.ref (gA K "BadStore")) (.ref (gA K "BadFact"))) false,
    fun K => tO (PySem.W.subIn K (.ref (gA K "BadStore")) (.ref (gA K "NoStore"))) false,
    fun K => tO (PySem.W.subIn K (.ref (gA K "BadStore")) (.ref (gA K "NotForced"))) false,
    fun K => tO (PySem.W.subIn K (.ref (gA K "BadStore")) (.ref (gA K "BadLine"))) false,
    fun K => tO (PySem.W.subIn K (.ref (gA K "BadStore")) (.ref (gA K "NoFact"))) false,
    fun K => tO (PySem.W.subIn K (.ref (gA K "BadStore")) (.ref (gA K "UnknownStart"))) false,
    fun K => PySem.W.keepIn K (.ref (gA K "BadRun")),
    fun K => tB (PySem.W.findIn K (.ref (gA K "BadRun")) "__getattribute__") "BaseException.__getattribute__",
    fun K => tN (PySem.W.findIn K (.ref (gA K "BadRun")) "__getattr__"),
    fun K => PySem.W.hasDictIn K (gA K "BadRun"),
    fun K => tB (PySem.W.findIn K (.ref (gA K "BadRun")) "__class__") "object.__class__",
    fun K => tO (PySem.W.mroIn K (gA K "BadRun") (.type "object")) true,
    fun K => tB (PySem.W.findIn K (.ref (gA K "BadRun")) "__setattr__") "object.__setattr__"] : List (Fr → Bool)) ++
  ([fun K => tR (PySem.W.findIn K (.ref (gA K "BadRun")) "__init__"),
    fun K => tT (PySem.W.typeIn K (.ref (mA K (gA K "BadRun") "__init__"))) "function",
    fun K => tN (PySem.W.findIn K (.ref (gA K "BadRun")) "run"),
    fun K => tO (PySem.W.subIn K (.ref (gA K "BadRun")) (.ref (gA K "PatchError"))) true,
    fun K => tO (PySem.W.subIn K (.ref (gA K "BadRun")) (.ref (gA K "BadFact"))) false,
    fun K => tO (PySem.W.subIn K (.ref (gA K "BadRun")) (.ref (gA K "BadStore"))) false,
    fun K => tO (PySem.W.subIn K (.ref (gA K "BadRun")) (.ref (gA K "NoStore"))) false,
    fun K => tO (PySem.W.subIn K (.ref (gA K "BadRun")) (.ref (gA K "NotForced"))) false,
    fun K => tO (PySem.W.subIn K (.ref (gA K "BadRun")) (.ref (gA K "BadLine"))) false,
    fun K => tO (PySem.W.subIn K (.ref (gA K "BadRun")) (.ref (gA K "NoFact"))) false,
    fun K => tO (PySem.W.subIn K (.ref (gA K "BadRun")) (.ref (gA K "UnknownStart"))) false,
    fun K => PySem.W.keepIn K (.ref (gA K "UnknownStart")),
    fun K => tB (PySem.W.findIn K (.ref (gA K "UnknownStart")) "__getattribute__") "BaseException.__getattribute__",
    fun K => tN (PySem.W.findIn K (.ref (gA K "UnknownStart")) "__getattr__"),
    fun K => PySem.W.hasDictIn K (gA K "UnknownStart"),
    fun K => tB (PySem.W.findIn K (.ref (gA K "UnknownStart")) "__class__") "object.__class__",
    fun K => tO (PySem.W.mroIn K (gA K "UnknownStart") (.type "object")) true,
    fun K => tB (PySem.W.findIn K (.ref (gA K "UnknownStart")) "__setattr__") "object.__setattr__",
    fun K => tR (PySem.W.findIn K (.ref (gA K "UnknownStart")) "__init__"),
    fun K => tT (PySem.W.typeIn K (.ref (mA K (gA K "UnknownStart") "__init__"))) "function",
    fun K => tN (PySem.W.findIn K (.ref (gA K "UnknownStart")) "name"),
    fun K => tO (PySem.W.subIn K (.ref (gA K "UnknownStart")) (.ref (gA K "PatchError"))) true,
    fun K => tO (PySem.W.subIn K (.ref (gA K "UnknownStart")) (.ref (gA K "BadRun"))) false,
    fun K => tO (PySem.W.subIn K (.ref (gA K "UnknownStart")) (.ref (gA K "BadFact"))) false,
    fun K => tO (PySem.W.subIn K (.ref (gA K "UnknownStart")) (.ref (gA K "BadStore"))) false] : List (Fr → Bool)) ++
  ([fun K => tO (PySem.W.subIn K (.ref (gA K "UnknownStart")) (.ref (gA K "NoStore"))) false,
    fun K => tO (PySem.W.subIn K (.ref (gA K "UnknownStart")) (.ref (gA K "NotForced"))) false,
    fun K => tO (PySem.W.subIn K (.ref (gA K "UnknownStart")) (.ref (gA K "BadLine"))) false,
    fun K => tO (PySem.W.subIn K (.ref (gA K "UnknownStart")) (.ref (gA K "NoFact"))) false,
    fun K => tB (PySem.W.specialIn K (.builtin "object.__class__") "__get__") "getset_descriptor.__get__",
    fun K => tO (PySem.W.takesIn K (.builtin "object.__class__")) true,
    fun K => tO (PySem.W.subIn K (.ref (gA K "BadStore")) (.type "ValueError")) true,
    fun K => tO (PySem.W.subIn K (.ref (gA K "BadRun")) (.type "ValueError")) true,
    fun K => tO (PySem.W.subIn K (.ref (gA K "UnknownStart")) (.type "ValueError")) true] : List (Fr → Bool))
  fn := ([⟨fun K => (gA K "_law_draw"), "_law_draw", "_law_draw", s__law_draw⟩,
    ⟨fun K => (gA K "_law_names"), "_law_names", "_law_names", s__law_names⟩,
    ⟨fun K => (gA K "_law_store"), "_law_store", "_law_store", s__law_store⟩,
    ⟨fun K => (gA K "_law_big_store"), "_law_big_store", "_law_big_store", s__law_big_store⟩,
    ⟨fun K => (gA K "_law_drawn_store"), "_law_drawn_store", "_law_drawn_store", s__law_drawn_store⟩,
    ⟨fun K => (gA K "_law_run"), "_law_run", "_law_run", s__law_run⟩,
    ⟨fun K => (gA K "_law_many"), "_law_many", "_law_many", s__law_many⟩,
    ⟨fun K => (gA K "is_name"), "is_name", "is_name", s_is_name⟩,
    ⟨fun K => (gA K "check_store"), "check_store", "check_store", s_check_store⟩,
    ⟨fun K => (mA K (gA K "Store") "__init__"), "__init__", "Store.__init__", s_Store___init__⟩,
    ⟨fun K => (gA K "_law_moves"), "_law_moves", "_law_moves", s__law_moves⟩,
    ⟨fun K => (gA K "_law_made"), "_law_made", "_law_made", s__law_made⟩,
    ⟨fun K => (gA K "is_step"), "is_step", "is_step", s_is_step⟩,
    ⟨fun K => (gA K "check_run"), "check_run", "check_run", s_check_run⟩,
    ⟨fun K => (mA K (gA K "Store") "check_starts"), "check_starts", "Store.check_starts", s_Store_check_starts⟩,
    ⟨fun K => (mA K (gA K "Store") "end"), "end", "Store.end", s_Store_end⟩,
    ⟨fun K => (mA K (gA K "Store") "__contains__"), "__contains__", "Store.__contains__", s_Store___contains__⟩,
    ⟨fun K => (gA K "_law_refused_start"), "_law_refused_start", "_law_refused_start", s__law_refused_start⟩,
    ⟨fun K => (gA K "_law_refused"), "_law_refused", "_law_refused", s__law_refused⟩,
    ⟨fun K => (gA K "_law_trail"), "_law_trail", "_law_trail", s__law_trail⟩,
    ⟨fun K => (gA K "_law_is_integer"), "_law_is_integer", "_law_is_integer", s__law_is_integer⟩,
    ⟨fun K => (mA K (gA K "Store") "walk"), "walk", "Store.walk", s_Store_walk⟩,
    ⟨fun K => (gA K "_law_asked"), "_law_asked", "_law_asked", s__law_asked⟩,
    ⟨fun K => (gA K "_law_unnamed"), "_law_unnamed", "_law_unnamed", s__law_unnamed⟩,
    ⟨fun K => (gA K "_law_refused_run"), "_law_refused_run", "_law_refused_run", s__law_refused_run⟩] : List FnT) ++
  ([⟨fun K => (gA K "_law_bad"), "_law_bad", "_law_bad", s__law_bad⟩,
    ⟨fun K => (gA K "law"), "law", "law", s_law⟩,
    ⟨fun K => (mA K (gA K "BadRun") "__init__"), "__init__", "BadRun.__init__", (inClass (topS 3) 0)⟩,
    ⟨fun K => (mA K (gA K "UnknownStart") "__init__"), "__init__", "UnknownStart.__init__", (inClass (topS 6) 0)⟩] : List FnT)
  dc := ([] : List (Str × List (Str × Int)))
abbrev rowR : PySem.W.OpenRow := PySem.W.OpenLaw.row PySem.Challenge.rw_patchfacts_k12_runs_in_a_store
abbrev seeQ : Program := PySem.W.view rowR.prog [39]
def freeN : List PySem.Str := (["_wall",
    "__name__",
    "PatchError",
    "BadRun",
    "BadFact",
    "BadStore",
    "UnknownStart",
    "NoStore",
    "NotForced",
    "BadLine",
    "NoFact",
    "LETTERS",
    "DIGITS",
    "LONGEST_NAME",
    "is_name",
    "is_step",
    "check_run",
    "check_store",
    "Store",
    "_law_draw",
    "_law_names",
    "_law_store",
    "_law_big_store",
    "_law_drawn_store",
    "_law_moves"] : List PySem.Str) ++
  (["_law_made",
    "_law_run",
    "_law_is_integer",
    "_law_unnamed",
    "_law_refused_start",
    "_law_many",
    "_law_refused_run",
    "_law_trail",
    "_law_asked",
    "_law_refused",
    "_law_bad"] : List PySem.Str)
abbrev RunT (w : World) : Prop := HandSHeadRun.RunEq rowR seeQ (hookT 12 tops) (obT 12 tops) 30000 freeN w
theorem run_false (w : World) : RunT (w.withFollow "special-get-raises" false) := by
  intro os
  kernel_rfl
theorem run_true (w : World) : RunT (w.withFollow "special-get-raises" true) := by
  intro os
  kernel_rfl
theorem run_ok (w : World) : RunT w := PySem.W.byRow2 "special-get-raises" (P := RunT) run_false run_true w
set_option maxHeartbeats 2000000
end VL
set_option maxRecDepth 100000
namespace VL
open PySem L2

inductive D where
  | non | bl (b : Bool) | int (i : Int) | str (s : Str)
  | scr (ns : List Int) | tup (ds : List D) | lst (ds : List D) | dic (t : Nat) (es : List (D × D)) | ins (c : Str) (fs : List (Str × D)) | exn (c : Str) (fs : List (Str × D)) | sel (x : Addr) (c : Str) (fs : List (Str × D))
instance : Inhabited D := ⟨.non⟩
abbrev Vw := Addr → Option HO
structure Gm where
  P : Program
  w : World
  K : PySem.W.Frag
  mg : Str → Option Value
def ScrAt (K : PySem.W.Frag) (G : Vw) (a : Addr) (ns : List Int) : Prop := G a = some (.lst (ns.map V.int)) ∨
  ∃ (o : Obj) (its : Array Value) (n : Nat), K.lookup a = some o ∧ o.cls = .type "list" ∧ o.dict = none ∧ o.data = .seq its n ∧ its.size ≤ sizeLine ∧ Vals (ns.map V.int) its.toList
theorem ScrAt.mono {K : PySem.W.Frag} {G G' : Vw} {a : Addr} {ns : List Int} (e : ∀ a u, G a = some u → G' a = some u) (h : ScrAt K G a ns) : ScrAt K G' a ns := h.imp (e _ _) id
abbrev NK := List (Sum Key (List Key))
def nkH1 (w : World) : Sum Key (List Key) → Int
  | .inl k => keyH w k
  | .inr ks => reduceHash (Builtin.Tuple.tupleHashOf (ks.map (keyH w)))
def nkH (w : World) (k : NK) : Int := reduceHash (Builtin.Tuple.tupleHashOf (k.map (nkH1 w)))
def nDict (w : World) (a : Addr) (kvs : List (NK × Addr × V)) : HO := .ext fun h =>
  kvs.length ≤ sizeLine ∧ (a == sysModules) = false ∧ (kvs.map (·.1)).Nodup ∧ ∃ us : List Value, Vals (kvs.map (·.2.2)) us ∧
    ∃ (o : Obj) (es : Array DictEntry) (ep : Nat), h.get? a = some o ∧ o.ExactDict ∧ o.data = .dict es ep ∧ es.toList = List.zipWith (fun (p : NK × Addr × V) (u : Value) => (⟨nkH w p.1, .ref p.2.1, u⟩ : DictEntry)) kvs us
inductive Res (α : Type) where
  | ok (a : α) | exc (c : Str) (fs : List (Str × D)) | bad
def Res.bind {α β : Type} : Res α → (α → Res β) → Res β
  | .ok a, f => f a
  | .exc c fs, _ => .exc c fs
  | .bad, _ => .bad
inductive Sl where
  | no | sh (d : D) | ow (d : D)
instance : Inhabited Sl := ⟨.no⟩
abbrev Env := List Sl
def keyD : Key → D
  | .inl i => .int i
  | .inr s => .str s
def nkD1 : Sum Key (List Key) → D
  | .inl k => keyD k
  | .inr ks => .tup (ks.map keyD)
def nkD (k : NK) : D := .tup (k.map nkD1)
def NItem (G : Vw) : Sum Key (List Key) → V → Prop
  | .inl k, x => x = kV k
  | .inr ks, x => ∃ b, x = .ref b ∧ G b = some (.tup (ks.map kV))
inductive NItems (G : Vw) : NK → List V → Prop
  | nil : NItems G [] []
  | cons {k : Sum Key (List Key)} {ks : NK} {x : V} {xs : List V} : NItem G k x → NItems G ks xs → NItems G (k :: ks) (x :: xs)
def NTup (G : Vw) (k : NK) (q : Addr) : Prop := ∃ xs, G q = some (.tup xs) ∧ NItems G k xs
mutual
inductive Rp (mg : Gm) (G : Vw) : D → V → Prop
  | non : Rp mg G .non .non
  | bl (b : Bool) : Rp mg G (.bl b) (.bl b)
  | int (i : Int) : Rp mg G (.int i) (.int i)
  | str (s : Str) : Rp mg G (.str s) (.str s)
  | scr {a : Addr} {ns : List Int} : ScrAt mg.K G a ns → Rp mg G (.scr ns) (.ref a)
  | tup {a : Addr} {xs : List V} {ds : List D} : G a = some (.tup xs) → RpL mg G ds xs → Rp mg G (.tup ds) (.ref a)
  | lst {a : Addr} {xs : List V} {ds : List D} : G a = some (.lst xs) → RpL mg G ds xs → Rp mg G (.lst ds) (.ref a)
  | dicK {a : Addr} {kvs : List (Key × V)} {es : List (D × D)} : G a = some (.dK kvs) → es.map (·.1) = kvs.map (fun p => keyD p.1) → RpL mg G (es.map (·.2)) (kvs.map (·.2)) → Rp mg G (.dic 0 es) (.ref a)
  | dicT {a : Addr} {kvs : List (List Key × V)} {es : List (D × D)} : G a = some (.dT kvs) → es.map (·.1) = kvs.map (fun p => .tup (p.1.map keyD)) → RpL mg G (es.map (·.2)) (kvs.map (·.2)) → Rp mg G (.dic 1 es) (.ref a)
  | dicN {a : Addr} {kvs : List (NK × Addr × V)} {es : List (D × D)} : G a = some (nDict mg.w a kvs) → (∀ e ∈ kvs, NTup G e.1 e.2.1) → es.map (·.1) = kvs.map (fun p => nkD p.1) → RpL mg G (es.map (·.2)) (kvs.map (·.2.2)) → Rp mg G (.dic 2 es) (.ref a)
  | ins {a C dx : Addr} {c : Str} {fs : List (Str × V)} {gs : List (Str × D)} : mg.mg c = some (.ref C) → G a = some (.ins C dx fs) → gs.map (·.1) = fs.map (·.1) → RpL mg G (gs.map (·.2)) (fs.map (·.2)) → Rp mg G (.ins c gs) (.ref a)
  | sel {a C dx : Addr} {c : Str} {fs : List (Str × V)} {gs : List (Str × D)} : mg.mg c = some (.ref C) → G a = some (.ins C dx fs) → gs.map (·.1) = fs.map (·.1) → RpL mg G (gs.map (·.2)) (fs.map (·.2)) → Rp mg G (.sel a c gs) (.ref a)
  | exn0 {a : Addr} {oe : Obj} {c : Str} {cls : Value} : G a = some (.frz oe (.own a)) → Zc cls none oe → (∃ vs, oe.data = .fields vs) → mg.mg c = some cls → Rp mg G (.exn c []) (.ref a)
  | exnF {a dd : Addr} {oe : Obj} {c : Str} {cls : Value} {fs : List (Str × D)} {vs : List (Str × V)} : G a = some (.frz oe (.own a)) → Zc cls (some dd) oe → (∃ vs, oe.data = .fields vs) → mg.mg c = some cls → G dd = some (.xd vs) → fs.map (·.1) = vs.map (·.1) → RpL mg G (fs.map (·.2)) (vs.map (·.2)) → Rp mg G (.exn c fs) (.ref a)
inductive RpL (mg : Gm) (G : Vw) : List D → List V → Prop
  | nil : RpL mg G [] []
  | cons {d : D} {ds : List D} {v : V} {vs : List V} : Rp mg G d v → RpL mg G ds vs → RpL mg G (d :: ds) (v :: vs)
end
def RpX (mg : Gm) (G : Vw) (c : Str) (fs : List (Str × D)) (cls : Value) (dd : Option Addr) : Prop :=
  mg.mg c = some cls ∧ ((fs = [] ∧ dd = none) ∨ ∃ (d : Addr) (vs : List (Str × V)), dd = some d ∧ G d = some (.xd vs) ∧ fs.map (·.1) = vs.map (·.1) ∧ RpL mg G (fs.map (·.2)) (vs.map (·.2)))

def vw (H : Hp) : Vw := fun a => match H a with
  | some (.frz _ (.lst xs)) => some (.lst xs)
  | some (.frz _ (.dK xs)) => some (.dK xs)
  | some (.frz _ (.dT xs)) => some (.dT xs)
  | some (.frz _ (.ext p)) => some (.ext p)
  | x => x
def Sh (M : Addr → Bool) (G : Vw) : Vw := fun a => if M a = true then none else G a
def vis (fl : Bool) (M : Addr → Bool) (G : Vw) : Vw := if fl = true then Sh M G else G
def VEx (G G' : Vw) : Prop := ∀ a u, G a = some u → G' a = some u
def Ext (H H' : Hp) : Prop := ∀ a o, H a = some o → H' a = some o
theorem VEx.refl (G : Vw) : VEx G G := fun _ _ h => h
theorem VEx.trans {G G' G'' : Vw} (a : VEx G G') (b : VEx G' G'') : VEx G G'' := fun x u h => b x u (a x u h)
theorem Ext.refl (H : Hp) : Ext H H := fun _ _ h => h
theorem Ext.trans {H H1 H2 : Hp} (a : Ext H H1) (b : Ext H1 H2) : Ext H H2 := fun x o h => b x o (a x o h)
theorem Ext.v {H H' : Hp} (e : Ext H H') : VEx (vw H) (vw H') := fun a u h => by
  cases q : H a with
  | none => unfold vw at h; rw [q] at h; cases h
  | some o =>
    have q' := e a o q
    unfold vw at h ⊢
    rw [q] at h
    rw [q']
    exact h
theorem vw_none {H : Hp} {a : Addr} : vw H a = none ↔ H a = none := by
  unfold vw
  constructor
  · intro h
    split at h <;> first | (cases h; done) | exact h
  · intro h
    rw [h]
theorem Ext.fresh {H H' : Hp} (e : Ext H H') {p : Addr} (h : H' p = none) : H p = none := by
  cases q : H p with
  | none => rfl
  | some o => rw [e p o q] at h; cases h
def NF : HO → Prop
  | .frz _ _ => False
  | _ => True
theorem vw_of {H : Hp} {a : Addr} {o : HO} (h : H a = some o) (n : NF o) : vw H a = some o := by
  unfold vw
  rw [h]
  cases o <;> first | rfl | exact n.elim
theorem vw_upd_ne {H : Hp} {a p : Addr} {o : HO} (h : a ≠ p) : vw (upd H p o) a = vw H a := by
  unfold vw
  rw [upd_ne h]
theorem vw_upd_same {H : Hp} {p : Addr} {o : HO} (n : NF o) : vw (upd H p o) p = some o := vw_of upd_same n
theorem Ext.new {H : Hp} {p : Addr} {o : HO} (h : H p = none) : Ext H (upd H p o) := fun a u e => by
  rw [upd_ne (ne_of_none e h)]
  exact e
theorem Ext.mut {H H' : Hp} {p : Addr} {o : HO} (e : Ext H H') (h : H p = none) : Ext H (upd H' p o) := fun a u q => by
  rw [upd_ne (ne_of_none q h)]
  exact e a u q
theorem vw_lst {H : Hp} {a : Addr} {xs : List V} (h : vw H a = some (.lst xs)) : Rd H a (.lst xs) := by
  unfold vw at h
  split at h <;> first | (cases h; done) | skip
  · rename_i o ys e; cases h; exact .inr ⟨o, e⟩
  · exact .inl h
theorem vw_dK {H : Hp} {a : Addr} {xs : List (Key × V)} (h : vw H a = some (.dK xs)) : Rd H a (.dK xs) := by
  unfold vw at h
  split at h <;> first | (cases h; done) | skip
  · rename_i o ys e; cases h; exact .inr ⟨o, e⟩
  · exact .inl h
theorem vw_dT {H : Hp} {a : Addr} {xs : List (List Key × V)} (h : vw H a = some (.dT xs)) : Rd H a (.dT xs) := by
  unfold vw at h
  split at h <;> first | (cases h; done) | skip
  · rename_i o ys e; cases h; exact .inr ⟨o, e⟩
  · exact .inl h
theorem vw_tup {H : Hp} {a : Addr} {xs : List V} (h : vw H a = some (.tup xs)) : H a = some (.tup xs) := by
  unfold vw at h
  split at h <;> first | (cases h; done) | exact h
theorem vw_ins {H : Hp} {a C dx : Addr} {fs : List (Str × V)} (h : vw H a = some (.ins C dx fs)) : H a = some (.ins C dx fs) := by
  unfold vw at h
  split at h <;> first | (cases h; done) | exact h
theorem vw_xd {H : Hp} {a : Addr} {fs : List (Str × V)} (h : vw H a = some (.xd fs)) : H a = some (.xd fs) := by
  unfold vw at h
  split at h <;> first | (cases h; done) | exact h
theorem ScrAt.sq {K : PySem.W.Frag} {H : Hp} {a : Addr} {ns : List Int} (h : ScrAt K (vw H) a ns) : SqL K H a (ns.map V.int) := h.imp vw_lst id
theorem Sh_some {M : Addr → Bool} {G : Vw} {a : Addr} {u : HO} (h : Sh M G a = some u) : M a = false ∧ G a = some u := by
  unfold Sh at h
  split at h
  · cases h
  · rename_i hm; exact ⟨by simpa using hm, h⟩
theorem Sh_of {M : Addr → Bool} {G : Vw} {a : Addr} (h : M a = false) : Sh M G a = G a := by
  unfold Sh
  rw [if_neg (by rw [h]; exact Bool.false_ne_true)]
theorem Sh_le (M : Addr → Bool) (G : Vw) : VEx (Sh M G) G := fun a u h => (Sh_some h).2
theorem Sh_mono {M : Addr → Bool} {G G' : Vw} (e : VEx G G') : VEx (Sh M G) (Sh M G') := fun a u h => by
  obtain ⟨h1, h2⟩ := Sh_some h
  rw [Sh_of h1]; exact e a u h2
theorem vis_le (fl : Bool) (M : Addr → Bool) (G : Vw) : VEx (vis fl M G) G := by
  cases fl with
  | true => exact Sh_le M G
  | false => exact .refl _
theorem vis_mono {fl : Bool} {M : Addr → Bool} {G G' : Vw} (e : VEx G G') : VEx (vis fl M G) (vis fl M G') := by
  cases fl with
  | true => exact Sh_mono e
  | false => exact e
theorem Sh_vis (fl : Bool) (M : Addr → Bool) (G : Vw) : VEx (Sh M G) (vis fl M G) := by
  cases fl with
  | true => exact .refl _
  | false => exact Sh_le M G
theorem NItems.mono {G G' : Vw} (e : VEx G G') : ∀ {k : NK} {xs : List V}, NItems G k xs → NItems G' k xs
  | _, _, .nil => .nil
  | .inl _ :: _, _, .cons h r => .cons h (NItems.mono e r)
  | .inr _ :: _, _, .cons h r => .cons (let ⟨b, h1, h2⟩ := h; ⟨b, h1, e _ _ h2⟩) (NItems.mono e r)
theorem NTup.mono {G G' : Vw} (e : VEx G G') {k : NK} {q : Addr} (h : NTup G k q) : NTup G' k q :=
  let ⟨xs, h1, h2⟩ := h
  ⟨xs, e _ _ h1, h2.mono e⟩
mutual
theorem Rp.mono {mg : Gm} {G G' : Vw} (e : VEx G G') : ∀ {d : D} {v : V}, Rp mg G d v → Rp mg G' d v
  | _, _, .non => .non
  | _, _, .bl b => .bl b
  | _, _, .int i => .int i
  | _, _, .str s => .str s
  | _, _, .scr h => .scr (h.mono e)
  | _, _, .tup h r => .tup (e _ _ h) (RpL.mono e r)
  | _, _, .lst h r => .lst (e _ _ h) (RpL.mono e r)
  | _, _, .dicK h k r => .dicK (e _ _ h) k (RpL.mono e r)
  | _, _, .dicT h k r => .dicT (e _ _ h) k (RpL.mono e r)
  | _, _, .dicN h n k r => .dicN (e _ _ h) (fun x hx => (n x hx).mono e) k (RpL.mono e r)
  | _, _, .ins m h k r => .ins m (e _ _ h) k (RpL.mono e r)
  | _, _, .sel m h k r => .sel m (e _ _ h) k (RpL.mono e r)
  | _, _, .exn0 h z d m => .exn0 (e _ _ h) z d m
  | _, _, .exnF h z d m x k r => .exnF (e _ _ h) z d m (e _ _ x) k (RpL.mono e r)
theorem RpL.mono {mg : Gm} {G G' : Vw} (e : VEx G G') : ∀ {ds : List D} {vs : List V}, RpL mg G ds vs → RpL mg G' ds vs
  | _, _, .nil => .nil
  | _, _, .cons h r => .cons (Rp.mono e h) (RpL.mono e r)
end
theorem RpX.mono {mg : Gm} {G G' : Vw} (e : VEx G G') {c : Str} {fs : List (Str × D)} {cls : Value} {dd : Option Addr} (h : RpX mg G c fs cls dd) : RpX mg G' c fs cls dd := by
  obtain ⟨h1, h2 | ⟨d, vs, h2, h3, h4, h5⟩⟩ := h
  · exact ⟨h1, .inl h2⟩
  · exact ⟨h1, .inr ⟨d, vs, h2, e _ _ h3, h4, h5.mono e⟩⟩
def immut : D → Bool
  | .tup ds => immuts ds
  | .lst _ => false
  | .scr _ => false
  | .dic _ _ => false
  | .ins _ _ => false
  | .exn _ _ => false
  | .sel _ _ _ => false
  | _ => true
where immuts : List D → Bool
  | [] => true
  | d :: ds => immut d && immuts ds
mutual
theorem Rp.imm {mg : Gm} {G G' : Vw} (e : ∀ a xs, G a = some (.tup xs) → G' a = some (.tup xs)) : ∀ {d : D} {v : V}, Rp mg G d v → immut d = true → Rp mg G' d v
  | _, _, .non, _ => .non
  | _, _, .bl b, _ => .bl b
  | _, _, .int i, _ => .int i
  | _, _, .str s, _ => .str s
  | _, _, .tup h r, q => .tup (e _ _ h) (RpL.imm e r q)
  | _, _, .scr h, q => by cases q
  | _, _, .lst h r, q => by cases q
  | _, _, .dicK h k r, q => by cases q
  | _, _, .dicT h k r, q => by cases q
  | _, _, .dicN h n k r, q => by cases q
  | _, _, .ins m h k r, q => by cases q
  | _, _, .sel m h k r, q => by cases q
  | _, _, .exn0 .., q => by cases q
  | _, _, .exnF .., q => by cases q
theorem RpL.imm {mg : Gm} {G G' : Vw} (e : ∀ a xs, G a = some (.tup xs) → G' a = some (.tup xs)) : ∀ {ds : List D} {vs : List V}, RpL mg G ds vs → immut.immuts ds = true → RpL mg G' ds vs
  | _, _, .nil, _ => .nil
  | _, _, .cons h r, q => by
    obtain ⟨q1, q2⟩ := Bool.and_eq_true_iff.mp (show (immut _ && immut.immuts _) = true from q)
    exact .cons (Rp.imm e h q1) (RpL.imm e r q2)
end
theorem RpL.length {mg : Gm} {G : Vw} : ∀ {ds : List D} {vs : List V}, RpL mg G ds vs → ds.length = vs.length
  | _, _, .nil => rfl
  | _, _, .cons _ r => by rw [List.length_cons, List.length_cons, r.length]
theorem RpL.get {mg : Gm} {G : Vw} : ∀ {ds : List D} {vs : List V} {i : Nat} {d : D}, RpL mg G ds vs → ds[i]? = some d → ∃ v, vs[i]? = some v ∧ Rp mg G d v
  | _, _, _, _, .nil, e => by simp at e
  | _, _, 0, _, .cons r _, e => by simp at e; subst e; exact ⟨_, rfl, r⟩
  | _, _, i + 1, _, .cons _ t, e => by
    obtain ⟨v, h1, h2⟩ := RpL.get (i := i) t (by simpa using e)
    exact ⟨v, by simpa using h1, h2⟩
theorem RpL.append {mg : Gm} {G : Vw} : ∀ {ds ds' : List D} {vs vs' : List V}, RpL mg G ds vs → RpL mg G ds' vs' → RpL mg G (ds ++ ds') (vs ++ vs')
  | _, _, _, _, .nil, h => h
  | _, _, _, _, .cons h r, t => .cons h (RpL.append r t)
theorem RpL.take {mg : Gm} {G : Vw} : ∀ {ds : List D} {vs : List V} (n : Nat), RpL mg G ds vs → RpL mg G (ds.take n) (vs.take n)
  | _, _, 0, _ => .nil
  | _, _, _ + 1, .nil => .nil
  | _, _, n + 1, .cons h r => .cons h (RpL.take n r)
theorem RpL.drop {mg : Gm} {G : Vw} : ∀ {ds : List D} {vs : List V} (n : Nat), RpL mg G ds vs → RpL mg G (ds.drop n) (vs.drop n)
  | _, _, 0, h => h
  | _, _, _ + 1, .nil => .nil
  | _, _, n + 1, .cons _ r => RpL.drop n r
theorem RpL.set {mg : Gm} {G : Vw} {d : D} {v : V} (r : Rp mg G d v) : ∀ {ds : List D} {vs : List V} (i : Nat), RpL mg G ds vs → RpL mg G (ds.set i d) (vs.set i v)
  | _, _, _, .nil => .nil
  | _, _, 0, .cons _ t => .cons r t
  | _, _, i + 1, .cons q t => .cons q (RpL.set r i t)
theorem RpL.one {mg : Gm} {G : Vw} {d : D} {vs : List V} (h : RpL mg G [d] vs) : ∃ v, vs = [v] ∧ Rp mg G d v := by
  cases h with
  | cons h t => cases t; exact ⟨_, rfl, h⟩
theorem RpL.two {mg : Gm} {G : Vw} {d e : D} {vs : List V} (h : RpL mg G [d, e] vs) : ∃ v w, vs = [v, w] ∧ Rp mg G d v ∧ Rp mg G e w := by
  cases h with
  | cons h t => obtain ⟨w, rfl, q⟩ := t.one; exact ⟨_, w, rfl, h, q⟩
end VL

set_option maxRecDepth 100000
set_option maxHeartbeats 1000000
namespace VL
open PySem L2

def OwOk (mg : Gm) (M : Addr → Bool) (H : Hp) (p : Addr) : D → Prop
  | .lst ds => ∃ xs, H p = some (.lst xs) ∧ RpL mg (Sh M (vw H)) ds xs
  | .dic 0 es => ∃ kvs : List (Key × V), H p = some (.dK kvs) ∧ es.map (·.1) = kvs.map (fun p => keyD p.1) ∧ RpL mg (Sh M (vw H)) (es.map (·.2)) (kvs.map (·.2))
  | .dic 1 es => ∃ kvs : List (List Key × V), H p = some (.dT kvs) ∧ es.map (·.1) = kvs.map (fun p => .tup (p.1.map keyD)) ∧ RpL mg (Sh M (vw H)) (es.map (·.2)) (kvs.map (·.2))
  | .dic 2 es => ∃ kvs : List (NK × Addr × V), H p = some (nDict mg.w p kvs) ∧ (∀ e ∈ kvs, NTup (Sh M (vw H)) e.1 e.2.1) ∧ es.map (·.1) = kvs.map (fun p => nkD p.1) ∧ RpL mg (Sh M (vw H)) (es.map (·.2)) (kvs.map (·.2.2))
  | .sel x c gs => p = x ∧ ∃ (C dx : Addr) (fs : List (Str × V)), mg.mg c = some (.ref C) ∧ H p = some (.ins C dx fs) ∧ gs.map (·.1) = fs.map (·.1) ∧ RpL mg (Sh M (vw H)) (gs.map (·.2)) (fs.map (·.2))
  | .ins c gs => ∃ (C dx : Addr) (fs : List (Str × V)), mg.mg c = some (.ref C) ∧ H p = some (.ins C dx fs) ∧ gs.map (·.1) = fs.map (·.1) ∧ RpL mg (Sh M (vw H)) (gs.map (·.2)) (fs.map (·.2))
  | _ => False
structure MOk (M : Addr → Bool) (H : Hp) : Prop where
  dom : ∀ a, M a = true → ∃ o, H a = some o
  tup : ∀ a xs, M a = true → H a ≠ some (.tup xs)
  xd : ∀ a fs, M a = true → H a ≠ some (.xd fs)
def SlotOk (mg : Gm) (M0 M : Addr → Bool) (H : Hp) (v : Option (Option V)) : Sl → Prop
  | .no => True
  | .sh d => ∃ x, v = some (some x) ∧ Rp mg (Sh M (vw H)) d x
  | .ow d => ∃ p, v = some (some (.ref p)) ∧ M p = true ∧ M0 p = false ∧ OwOk mg M H p d
def isOw : Option Sl → Bool
  | some (.ow _) => true
  | _ => false
structure Good (mg : Gm) (H0 : Hp) (M0 M : Addr → Bool) (H : Hp) (σ : St) (env : Env) : Prop where
  len : σ.length = env.length
  ok : MOk M H
  sub : ∀ a, M0 a = true → M a = true
  new : ∀ a, M a = true → M0 a = true ∨ H0 a = none
  ok0 : MOk M0 H0
  ex : Ext H0 H
  sl : ∀ (i : Nat) (s : Sl), env[i]? = some s → SlotOk mg M0 M H σ[i]? s
  inj : ∀ (i j : Nat) (p : Addr), i ≠ j → isOw env[i]? = true → isOw env[j]? = true → σ[i]? = some (some (.ref p)) → σ[j]? ≠ some (some (.ref p))
theorem MOk.mono {M : Addr → Bool} {H H' : Hp} (m : MOk M H) (e : Ext H H') : MOk M H' where
  dom := fun a h => by
    obtain ⟨u, q⟩ := m.dom a h
    exact ⟨u, e a u q⟩
  tup := fun a xs h z => by
    obtain ⟨u, q⟩ := m.dom a h
    have h1 := e a u q
    rw [z] at h1
    cases h1
    exact m.tup a xs h q
  xd := fun a fs h z => by
    obtain ⟨u, q⟩ := m.dom a h
    have h1 := e a u q
    rw [z] at h1
    cases h1
    exact m.xd a fs h q
theorem MOk.empty {H : Hp} : MOk (fun _ => false) H := ⟨fun _ h => Bool.noConfusion h, fun _ _ h => Bool.noConfusion h, fun _ _ h => Bool.noConfusion h⟩
theorem OwOk.mono {mg : Gm} {M : Addr → Bool} {H H' : Hp} {p : Addr} (e : Ext H H') : ∀ {d : D}, OwOk mg M H p d → OwOk mg M H' p d
  | .lst ds, ⟨xs, h, r⟩ => ⟨xs, e _ _ h, r.mono (Sh_mono e.v)⟩
  | .dic 0 es, ⟨kvs, h, k, r⟩ => ⟨kvs, e _ _ h, k, r.mono (Sh_mono e.v)⟩
  | .dic 1 es, ⟨kvs, h, k, r⟩ => ⟨kvs, e _ _ h, k, r.mono (Sh_mono e.v)⟩
  | .dic 2 es, ⟨kvs, h, n, k, r⟩ => ⟨kvs, e _ _ h, fun x hx => (n x hx).mono (Sh_mono e.v), k, r.mono (Sh_mono e.v)⟩
  | .dic (_ + 3) _, h => h.elim
  | .ins c gs, ⟨C, dx, fs, m, h, k, r⟩ => ⟨C, dx, fs, m, e _ _ h, k, r.mono (Sh_mono e.v)⟩
  | .non, h => h.elim
  | .bl _, h => h.elim
  | .int _, h => h.elim
  | .str _, h => h.elim
  | .tup _, h => h.elim
  | .scr _, h => h.elim
  | .exn _ _, h => h.elim
  | .sel x c gs, ⟨q, C, dx, fs, m, h, k, r⟩ => ⟨q, C, dx, fs, m, e _ _ h, k, r.mono (Sh_mono e.v)⟩
theorem SlotOk.mono {mg : Gm} {M0 M : Addr → Bool} {H H' : Hp} {v : Option (Option V)} (e : Ext H H') : ∀ {s : Sl}, SlotOk mg M0 M H v s → SlotOk mg M0 M H' v s
  | .no, _ => trivial
  | .sh d, ⟨x, h, r⟩ => ⟨x, h, r.mono (Sh_mono e.v)⟩
  | .ow d, ⟨p, h, m, m0, r⟩ => ⟨p, h, m, m0, r.mono e⟩
theorem Good.mono {mg : Gm} {H0 : Hp} {M0 M : Addr → Bool} {H H' : Hp} {σ : St} {env : Env} (g : Good mg H0 M0 M H σ env) (e : Ext H H') : Good mg H0 M0 M H' σ env :=
  ⟨g.len, g.ok.mono e, g.sub, g.new, g.ok0, g.ex.trans e, fun i s h => (g.sl i s h).mono e, g.inj⟩

abbrev gm (X : Cx) : Gm := ⟨X.prog, X.w, X.K, X.mg⟩
def PostE (X : Cx) (W : WX) (fl : Bool) (M : Addr → Bool) (σ : St) (H : Hp) (Q : VK) : Res D → Prop
  | .ok d => ∀ v H', Ext H H' → Rp (gm X) (vis fl M (vw H')) d v → Q v H'
  | .exc c fs => ∀ cls dd H', Ext H H' → RpX (gm X) (Sh M (vw H')) c fs cls dd → W cls dd σ H'
  | .bad => False
def PostA (X : Cx) (W : WX) (fl : Bool) (M : Addr → Bool) (σ : St) (H : Hp) (Q : List V → Hp → Prop) : Res (List D) → Prop
  | .ok ds => ∀ vs H', Ext H H' → RpL (gm X) (vis fl M (vw H')) ds vs → Q vs H'
  | .exc c fs => ∀ cls dd H', Ext H H' → RpX (gm X) (Sh M (vw H')) c fs cls dd → W cls dd σ H'
  | .bad => False
def PostT {α : Type} (X : Cx) (W : WX) (M : Addr → Bool) (σ : St) (H : Hp) (Q : α → Hp → Prop) : Res α → Prop
  | .ok b => ∀ H', Ext H H' → Q b H'
  | .exc c fs => ∀ cls dd H', Ext H H' → RpX (gm X) (Sh M (vw H')) c fs cls dd → W cls dd σ H'
  | .bad => False
def VE (X : Cx) (W : WX) (fl : Bool) (e : Expr) (φ : Env → Res D) : Prop :=
  ∃ t : TE, PE X e t ∧ ∀ (H0 : Hp) (M0 M : Addr → Bool) (H : Hp) (σ : St) (env : Env) (Q : VK), Good (gm X) H0 M0 M H σ env → PostE X W fl M σ H Q (φ env) → t σ H Q
def VA (X : Cx) (W : WX) (fl : Bool) (es : List Expr) (φ : Env → Res (List D)) : Prop :=
  ∃ t : TA, PA X es t ∧ ∀ (H0 : Hp) (M0 M : Addr → Bool) (H : Hp) (σ : St) (env : Env) (Q : List V → Hp → Prop), Good (gm X) H0 M0 M H σ env → PostA X W fl M σ H Q (φ env) → t σ H Q
def VT (X : Cx) (W : WX) (e : Expr) (φ : Env → Res Bool) : Prop :=
  ∃ t : TT, PT X e t ∧ ∀ (H0 : Hp) (M0 M : Addr → Bool) (H : Hp) (σ : St) (env : Env) (Q : Bool → Hp → Prop), Good (gm X) H0 M0 M H σ env → PostT X W M σ H Q (φ env) → t σ H Q
section
variable {X : Cx} {W : WX} {fl fla flb : Bool} {M : Addr → Bool} {σ : St} {H H' : Hp} {Q : VK}
theorem PostE.mono {r : Res D} (h : PostE X W fl M σ H Q r) (e : Ext H H') : PostE X W fl M σ H' Q r := by
  cases r with
  | ok d => exact fun v H2 e2 r => h v H2 (e.trans e2) r
  | exc c fs => exact fun cls dd H2 e2 r => h cls dd H2 (e.trans e2) r
  | bad => exact h
theorem PostE.ite {c : Prop} [Decidable c] {r : Res D} (h : PostE X W fl M σ H Q (if c then r else .bad)) : c ∧ PostE X W fl M σ H Q r := by
  by_cases hc : c
  · rw [if_pos hc] at h; exact ⟨hc, h⟩
  · rw [if_neg hc] at h; exact h.elim
theorem PostE.seq {r : Res D} {f : D → Res D} {Q' : VK} (h : PostE X W fl M σ H Q (r.bind f))
    (k : ∀ d v H1, Ext H H1 → Rp (gm X) (vis fla M (vw H1)) d v → PostE X W fl M σ H1 Q (f d) → Q' v H1) : PostE X W fla M σ H Q' r := by
  cases r with
  | ok d => exact fun v H1 e1 r1 => k d v H1 e1 r1 (PostE.mono h e1)
  | exc c fs => exact h
  | bad => exact h
theorem PostA.mono {r : Res (List D)} {Q : List V → Hp → Prop} (h : PostA X W fl M σ H Q r) (e : Ext H H') : PostA X W fl M σ H' Q r := by
  cases r with
  | ok d => exact fun v H2 e2 r => h v H2 (e.trans e2) r
  | exc c fs => exact fun cls dd H2 e2 r => h cls dd H2 (e.trans e2) r
  | bad => exact h
theorem PostT.mono {α : Type} {r : Res α} {Q : α → Hp → Prop} (h : PostT X W M σ H Q r) (e : Ext H H') : PostT X W M σ H' Q r := by
  cases r with
  | ok d => exact fun H2 e2 => h H2 (e.trans e2)
  | exc c fs => exact fun cls dd H2 e2 r => h cls dd H2 (e.trans e2) r
  | bad => exact h
theorem PostA.head {r : Res D} {f : D → Res (List D)} {Q : List V → Hp → Prop} {Q' : VK} (h : PostA X W fl M σ H Q (r.bind f))
    (k : ∀ d v H1, Ext H H1 → Rp (gm X) (vis fl M (vw H1)) d v → PostA X W fl M σ H1 Q (f d) → Q' v H1) : PostE X W fl M σ H Q' r := by
  cases r with
  | ok d => exact fun v H1 e1 r1 => k d v H1 e1 r1 (PostA.mono h e1)
  | exc c fs => exact h
  | bad => exact h
theorem PostA.tail {r : Res (List D)} {f : List D → Res (List D)} {Q Q' : List V → Hp → Prop} (h : PostA X W fl M σ H Q (r.bind f))
    (k : ∀ d v H1, Ext H H1 → RpL (gm X) (vis fl M (vw H1)) d v → PostA X W fl M σ H1 Q (f d) → Q' v H1) : PostA X W fl M σ H Q' r := by
  cases r with
  | ok d => exact fun v H1 e1 r1 => k d v H1 e1 r1 (PostA.mono h e1)
  | exc c fs => exact h
  | bad => exact h
theorem PostE.args {r : Res (List D)} {f : List D → Res D} {Q' : List V → Hp → Prop} (h : PostE X W fl M σ H Q (r.bind f))
    (k : ∀ ds vs H1, Ext H H1 → RpL (gm X) (vis fla M (vw H1)) ds vs → PostE X W fl M σ H1 Q (f ds) → Q' vs H1) : PostA X W fla M σ H Q' r := by
  cases r with
  | ok d => exact fun v H1 e1 r1 => k d v H1 e1 r1 (PostE.mono h e1)
  | exc c fs => exact h
  | bad => exact h
theorem PostT.seq {α : Type} {r : Res D} {f : D → Res α} {Q : α → Hp → Prop} {Q' : VK} (h : PostT X W M σ H Q (r.bind f))
    (k : ∀ d v H1, Ext H H1 → Rp (gm X) (vis fl M (vw H1)) d v → PostT X W M σ H1 Q (f d) → Q' v H1) : PostE X W fl M σ H Q' r := by
  cases r with
  | ok d => exact fun v H1 e1 r1 => k d v H1 e1 r1 (PostT.mono h e1)
  | exc c fs => exact h
  | bad => exact h
theorem PostT.tst {α β : Type} {r : Res α} {f : α → Res β} {Q : β → Hp → Prop} {Q' : α → Hp → Prop} (h : PostT X W M σ H Q (r.bind f))
    (k : ∀ b H1, Ext H H1 → PostT X W M σ H1 Q (f b) → Q' b H1) : PostT X W M σ H Q' r := by
  cases r with
  | ok d => exact fun H1 e1 => k d H1 e1 (PostT.mono h e1)
  | exc c fs => exact h
  | bad => exact h
theorem PostE.tst {α : Type} {r : Res α} {f : α → Res D} {Q' : α → Hp → Prop} (h : PostE X W fl M σ H Q (r.bind f))
    (k : ∀ b H1, Ext H H1 → PostE X W fl M σ H1 Q (f b) → Q' b H1) : PostT X W M σ H Q' r := by
  cases r with
  | ok d => exact fun H1 e1 => k d H1 e1 (PostE.mono h e1)
  | exc c fs => exact h
  | bad => exact h
end
end VL

set_option maxRecDepth 100000
set_option maxHeartbeats 1000000
namespace VL
open PySem L2

mutual
def toPy : D → PyData
  | .non => .none
  | .bl b => .bool b
  | .int i => .int i
  | .str s => .str s
  | .scr ns => .list (ns.map .int)
  | .tup ds => .tuple (toPys ds)
  | .lst ds => .list (toPys ds)
  | .dic _ _ => .none
  | .ins _ _ => .none
  | .exn _ _ => .none
  | .sel _ _ _ => .none
def toPys : List D → List PyData
  | [] => []
  | d :: ds => toPy d :: toPys ds
end
mutual
def plain : D → Bool
  | .tup ds => plains ds
  | .lst ds => plains ds
  | .dic _ _ => false
  | .ins _ _ => false
  | .exn _ _ => false
  | .sel _ _ _ => false
  | _ => true
def plains : List D → Bool
  | [] => true
  | d :: ds => plain d && plains ds
end
def cmpOk (d : D) : Bool := plain d && SeqAt.shaped (toPy d)
def eqD (d e : D) : Bool := PyData.eqv (toPy d) (toPy e)
theorem dp_ints {K : PySem.W.Frag} {H : Hp} : ∀ ns : List Int, DpAll K H (ns.map V.int) (ns.map PyData.int)
  | [] => .nil
  | n :: ns => .cons (.int n) (dp_ints ns)
mutual
theorem Rp.dp {mg : Gm} {H : Hp} : ∀ {d : D} {v : V}, Rp mg (vw H) d v → plain d = true → Dp mg.K H v (toPy d)
  | _, _, .non, _ => .non
  | _, _, .bl b, _ => .bl b
  | _, _, .int i, _ => .int i
  | _, _, .str s, _ => .str s
  | _, _, .scr h, _ => .lst h.sq (dp_ints _)
  | _, _, .tup h r, q => .tup (.inl (.inl (vw_tup h))) (RpL.dp r q)
  | _, _, .lst h r, q => .lst (.inl (vw_lst h)) (RpL.dp r q)
  | _, _, .dicK h k r, q => by cases q
  | _, _, .dicT h k r, q => by cases q
  | _, _, .dicN h n k r, q => by cases q
  | _, _, .ins m h k r, q => by cases q
  | _, _, .sel m h k r, q => by cases q
  | _, _, .exn0 .., q => by cases q
  | _, _, .exnF .., q => by cases q
theorem RpL.dp {mg : Gm} {H : Hp} : ∀ {ds : List D} {vs : List V}, RpL mg (vw H) ds vs → plains ds = true → DpAll mg.K H vs (toPys ds)
  | _, _, .nil, _ => .nil
  | _, _, .cons h r, q => by
    obtain ⟨q1, q2⟩ := Bool.and_eq_true_iff.mp (show (plain _ && plains _) = true from q)
    exact .cons (Rp.dp h q1) (RpL.dp r q2)
end

def getP (i : Nat) (env : Env) : Res D := match env[i]? with
  | some (.sh d) => .ok d
  | _ => .bad
def getB (i : Nat) (env : Env) : Res D := match env[i]? with
  | some (.sh d) => .ok d
  | some (.ow d) => .ok d
  | _ => .bad
theorem OwOk.rp {mg : Gm} {M : Addr → Bool} {H : Hp} {p : Addr} : ∀ {d : D}, OwOk mg M H p d → Rp mg (vw H) d (.ref p)
  | .lst ds, ⟨xs, h, r⟩ => .lst (vw_of h trivial) (r.mono (Sh_le _ _))
  | .dic 0 es, ⟨kvs, h, k, r⟩ => .dicK (vw_of h trivial) k (r.mono (Sh_le _ _))
  | .dic 1 es, ⟨kvs, h, k, r⟩ => .dicT (vw_of h trivial) k (r.mono (Sh_le _ _))
  | .dic 2 es, ⟨kvs, h, n, k, r⟩ => .dicN (vw_of h trivial) (fun x hx => (n x hx).mono (Sh_le _ _)) k (r.mono (Sh_le _ _))
  | .dic (_ + 3) _, h => h.elim
  | .ins c gs, ⟨C, dx, fs, m, h, k, r⟩ => .ins m (vw_of h trivial) k (r.mono (Sh_le _ _))
  | .non, h => h.elim
  | .bl _, h => h.elim
  | .int _, h => h.elim
  | .str _, h => h.elim
  | .tup _, h => h.elim
  | .scr _, h => h.elim
  | .exn _ _, h => h.elim
  | .sel x c gs, ⟨q, C, dx, fs, m, h, k, r⟩ => by
    subst q
    exact .sel m (vw_of h trivial) k (r.mono (Sh_le _ _))
section
variable {X : Cx} {W : WX} {fl fla flb flc : Bool} {e a b c : Expr} {es : List Expr} {pos : Pos} {φ φa φb φc : Env → Res D}
theorem ve_v (i : Nat) {x : Str} (hN : X.N[i]? = some x := by rfl) (hv : Vis X.env.scope x := by first | exact Or.inl rfl | exact Or.inr (Or.inl rfl) | exact Or.inr (Or.inr rfl)) (hd : (x == ("__debug__" : Str)) = false := by decide)
    (hcd : (x == ("__classdict__" : Str)) = false := by decide) : VE X W fl (.Name x pos) (getP i) := by
  refine ⟨tVar i, pe_var hN hv hd hcd, fun H0 M0 M H σ env Q g h => ?_⟩
  unfold getP at h
  cases q : env[i]? with
  | none => rw [q] at h; exact h.elim
  | some s =>
    rw [q] at h
    cases s with
    | no => exact h.elim
    | ow d => exact h.elim
    | sh d =>
      obtain ⟨x, e, r⟩ := g.sl i _ q
      exact ⟨x, e, h x H (Ext.refl H) (r.mono (Sh_vis fl M _))⟩
theorem ve_b (i : Nat) {x : Str} (hN : X.N[i]? = some x := by rfl) (hv : Vis X.env.scope x := by first | exact Or.inl rfl | exact Or.inr (Or.inl rfl) | exact Or.inr (Or.inr rfl)) (hd : (x == ("__debug__" : Str)) = false := by decide)
    (hcd : (x == ("__classdict__" : Str)) = false := by decide) : VE X W false (.Name x pos) (getB i) := by
  refine ⟨tVar i, pe_var hN hv hd hcd, fun H0 M0 M H σ env Q g h => ?_⟩
  unfold getB at h
  cases q : env[i]? with
  | none => rw [q] at h; exact h.elim
  | some s =>
    rw [q] at h
    cases s with
    | no => exact h.elim
    | ow d =>
      obtain ⟨p, e, m, m0, r⟩ := g.sl i _ q
      exact ⟨_, e, h _ H (Ext.refl H) r.rp⟩
    | sh d =>
      obtain ⟨x, e, r⟩ := g.sl i _ q
      exact ⟨x, e, h x H (Ext.refl H) (r.mono (Sh_le M _))⟩
def cE (d : D) (_ : Env) : Res D := .ok d
theorem ve_int {i j} : VE X W fl (.Constant (.int i) j pos) (cE (.int i)) := ⟨_, pe_int, fun _ _ _ H _ _ _ _ h => h _ H (Ext.refl H) (.int i)⟩
theorem ve_bl {i j} : VE X W fl (.Constant (.bool i) j pos) (cE (.bl i)) := ⟨_, pe_bl, fun _ _ _ H _ _ _ _ h => h _ H (Ext.refl H) (.bl i)⟩
theorem ve_non {j} : VE X W fl (.Constant .none j pos) (cE .non) := ⟨_, pe_non, fun _ _ _ H _ _ _ _ h => h _ H (Ext.refl H) .non⟩
theorem ve_str {x j} : VE X W fl (.Constant (.str x) j pos) (cE (.str x)) := ⟨_, pe_str, fun _ _ _ H _ _ _ _ h => h _ H (Ext.refl H) (.str x)⟩
theorem ve_gStr {x s : Str} {t : Tok} (hm : X.mg x = some (.str s t)) (hg : Gl X x := by rfl) (hd : (x == ("__debug__" : Str)) = false := by decide) : VE X W fl (.Name x pos) (cE (.str s)) :=
  ⟨_, pe_glob (v := .str s) hg hm ⟨t, rfl⟩ hd, fun _ _ _ H _ _ _ _ h => h _ H (Ext.refl H) (.str s)⟩
theorem ve_gInt {x : Str} {i : Int} {t : Tok} (hm : X.mg x = some (.int i t)) (hg : Gl X x := by rfl) (hd : (x == ("__debug__" : Str)) = false := by decide) : VE X W fl (.Name x pos) (cE (.int i)) :=
  ⟨_, pe_glob (v := .int i) hg hm ⟨t, rfl⟩ hd, fun _ _ _ H _ _ _ _ h => h _ H (Ext.refl H) (.int i)⟩
def immE (φ : Env → Res D) (env : Env) : Res D := (φ env).bind fun d => if immut d = true then .ok d else .bad
def OpF (X : Cx) (W : WX) (fla flb fl : Bool) (r : R2) (f : D → D → Res D) : Prop :=
  ∀ (M : Addr → Bool) (H : Hp) (σ : L2.St) (Q : VK) (d e : D) (v w : V), MOk M H → Rp (gm X) (vis fla M (vw H)) d v → Rp (gm X) (vis flb M (vw H)) e w → PostE X W fl M σ H Q (f d e) → r v w H Q
def op2 (f : D → D → Res D) (φa φb : Env → Res D) (env : Env) : Res D := (φa env).bind fun d => (φb env).bind fun e => f d e
theorem ve_op {op : Operator} {r : R2} {f : D → D → Res D} (ho : OpR X (binaryOp op) r) (hf : OpF X W fla flb fl r f) (ha : VE X W fla a φa) (hb : VE X W flb b φb) : VE X W fl (.BinOp a op b pos) (op2 f φa φb) := by
  obtain ⟨ta, pa, ra⟩ := ha
  obtain ⟨tb, pb, rb⟩ := hb
  refine ⟨_, pe_op ho pa pb, fun H0 M0 M H σ env Q g h => ?_⟩
  refine ra H0 M0 M H σ env _ g (PostE.seq h fun d v H1 e1 r1 h1 => ?_)
  refine rb H0 M0 M H1 σ env _ (g.mono e1) (PostE.seq h1 fun d2 v2 H2 e2 r2 h2 => ?_)
  exact hf M H2 σ Q d d2 v v2 ((g.ok.mono e1).mono e2) (r1.mono (vis_mono e2.v)) r2 h2
theorem ve_cmp {op : CmpOp} {r : R2} {f : D → D → Res D} (ho : OpR X (compareOp op) r) (hm : behindInMarks op b = false) (hf : OpF X W fla flb fl r f) (ha : VE X W fla a φa) (hb : VE X W flb b φb) : VE X W fl (.Compare a [op] [b] pos) (op2 f φa φb) := by
  obtain ⟨ta, pa, ra⟩ := ha
  obtain ⟨tb, pb, rb⟩ := hb
  refine ⟨_, pe_cmpR ho pa pb hm, fun H0 M0 M H σ env Q g h => ?_⟩
  refine ra H0 M0 M H σ env _ g (PostE.seq h fun d v H1 e1 r1 h1 => ?_)
  refine rb H0 M0 M H1 σ env _ (g.mono e1) (PostE.seq h1 fun d2 v2 H2 e2 r2 h2 => ?_)
  exact hf M H2 σ Q d d2 v v2 ((g.ok.mono e1).mono e2) (r1.mono (vis_mono e2.v)) r2 h2
def toB : D → Res Bool
  | .bl b => .ok b
  | _ => .bad
def tE (φ : Env → Res D) (env : Env) : Res Bool := (φ env).bind toB
theorem vt_cmp {op : CmpOp} {r : R2} {f : D → D → Res D} (ho : OpR X (compareOp op) r) (hm : behindInMarks op b = false) (hf : OpF X W fla flb true r f) (ha : VE X W fla a φa) (hb : VE X W flb b φb) : VT X W (.Compare a [op] [b] pos) (tE (op2 f φa φb)) := by
  obtain ⟨ta, pa, ra⟩ := ha
  obtain ⟨tb, pb, rb⟩ := hb
  refine ⟨_, pt_cmpR ho pa pb hm, fun H0 M0 M H σ env Q g h => ?_⟩
  have h' : PostE X W true M σ H (fun x H' => ∃ k, x = .bl k ∧ Q k H') (op2 f φa φb env) := by
    refine PostT.seq h fun d v H1 e1 r1 h1 => ?_
    cases d with
    | bl k => cases r1; exact ⟨k, rfl, h1 H1 (Ext.refl _)⟩
    | _ => exact h1.elim
  refine ra H0 M0 M H σ env _ g (PostE.seq h' fun d v H1 e1 r1 h1 => ?_)
  refine rb H0 M0 M H1 σ env _ (g.mono e1) (PostE.seq h1 fun d2 v2 H2 e2 r2 h2 => ?_)
  exact hf M H2 σ _ d d2 v v2 ((g.ok.mono e1).mono e2) (r1.mono (vis_mono e2.v)) r2 h2
theorem vt_val (h : VE X W fl e φ) (he : ∀ whole, isTrue e X.env whole = (do let v ← whole; standAt e.pos; holding [v] (truthy v)) := by intro _; rfl) : VT X W e (tE φ) := by
  obtain ⟨t, pt, rt⟩ := h
  refine ⟨_, pt_val pt he, fun H0 M0 M H σ env Q g h => ?_⟩
  refine rt H0 M0 M H σ env _ g (PostT.seq h fun d v H1 e1 r1 h1 => ?_)
  cases d with
  | bl k => cases r1; exact ⟨k, rfl, h1 H1 (Ext.refl _)⟩
  | _ => exact h1.elim
end
end VL

set_option maxRecDepth 100000
set_option maxHeartbeats 2000000
namespace VL
open PySem L2
open PySem.AutoSeq1 (wpAny_loadPart')

theorem tup_mul_same (l : Addr) (items : Array Value) (n : Nat) (dd : Option Addr) (sl : Array (Option Value)) (x : Int) (u : Tok)
    (c0 : (decide (x < -(2 ^ 63)) || decide (x ≥ 2 ^ 63)) = false) (c1 : (items.isEmpty || x == 1) = true) :
    Meets (Builtin.«tuple.__mul__» ⟨[.ref l, .int x u], []⟩)
      (fun _ R s => s.heap.get? l = some { cls := .type "tuple", dict := dd, data := .seq items n, slots := sl } ∧ R (.ok (.ret (.ref l))) s) :=
  .of_wp fun prog w A R s h => by
    obtain ⟨hp, g, d, tk, os⟩ := s
    obtain ⟨hl, h⟩ := h
    have f1 := AutoSeq1.idx_int
    wp_walk using wpAny_loadPart' hl
    repeat (first
      | (refine wpAny_ite_false (decide_eq_false (by rw [c0]; exact Bool.false_ne_true)) ?_; wp_walk using wpAny_loadPart' hl)
      | (refine wpAny_ite_true (decide_eq_true c1) ?_; wp_walk using wpAny_loadPart' hl))
    exact ⟨_, rfl, h⟩
theorem tup_mul_none (l : Addr) (items : Array Value) (n : Nat) (dd : Option Addr) (sl : Array (Option Value)) (x : Int) (u : Tok)
    (c0 : (decide (x < -(2 ^ 63)) || decide (x ≥ 2 ^ 63)) = false) (c1 : (items.isEmpty || x == 1) = false) (c2 : (decide (x ≤ 0) || items.isEmpty) = true) :
    Meets (Builtin.«tuple.__mul__» ⟨[.ref l, .int x u], []⟩)
      (fun _ R s => s.heap.get? l = some { cls := .type "tuple", dict := dd, data := .seq items n, slots := sl } ∧
        R (.ok (.ret (.ref s.heap.objs.size))) { s with heap := s.heap.push { cls := .type "tuple", data := .seq #[] }, toks := s.toks }) :=
  .of_wp fun prog w A R s h => by
    obtain ⟨hp, g, d, tk, os⟩ := s
    obtain ⟨hl, h⟩ := h
    have f1 := AutoSeq1.idx_int
    wp_walk using wpAny_loadPart' hl
    repeat (first
      | (refine wpAny_ite_false (decide_eq_false (by rw [c0]; exact Bool.false_ne_true)) ?_; wp_walk using wpAny_loadPart' hl)
      | (refine wpAny_ite_false (decide_eq_false (by rw [c1]; exact Bool.false_ne_true)) ?_; wp_walk using wpAny_loadPart' hl)
      | (refine wpAny_ite_true (decide_eq_true c2) ?_; wp_walk using wpAny_loadPart' hl))
    exact ⟨_, rfl, h⟩
section
variable {X : Cx}
def rMulT (K : PySem.W.Frag) : R2 := fun x y H Q => ∃ l k xs, x = .ref l ∧ y = .int k ∧ SqT K H l xs ∧ -1000 ≤ k ∧ k ≤ 1000 ∧ xs.length ≤ 1000 ∧
  ((xs = [] ∨ k = 1) → Q (.ref l) H) ∧ (xs ≠ [] → k ≤ 0 → ∀ p, H p = none → Q (.ref p) (upd H p (.tup []))) ∧
  (xs ≠ [] → 2 ≤ k → ∀ p, H p = none → Q (.ref p) (upd H p (.tup (List.replicate k.toNat xs).flatten)))
theorem op_mulT : OpR X (binaryOp .Mult) (rMulT X.K) := by
  intro pins s σ H x y v u Q I rx ry h
  obtain ⟨l, k, xs, ex, ey, hT, hlo, hhi, hlen, q1, q2, q3⟩ := h
  by_cases big : xs ≠ [] ∧ 2 ≤ k
  · exact op_repT pins s σ H x y v u Q I rx ry ⟨l, k, xs, ex, ey, hT, big.1, big.2, hhi, hlen, q3 big.1 big.2⟩
  · subst ex; subst ey
    cases rx
    obtain ⟨t, rfl⟩ := ry
    obtain ⟨its, r, ⟨⟨cls, dd, data, sl⟩, ho, hc, n, hd⟩, hs⟩ := I.tuple hT
    simp only at hc hd
    subst hc hd
    have hlr : its.length = xs.length := r.length.symm
    have c0 : (decide (k < -(2 ^ 63)) || decide (k ≥ 2 ^ 63)) = false := by
      rw [decide_eq_false (by omega), decide_eq_false (by omega)]
      exact rfl
    by_cases same : xs = [] ∨ k = 1
    · have c1 : (its.toArray.isEmpty || k == 1) = true := by
        rcases same with e | e
        · subst e
          have : its = [] := List.eq_nil_of_length_eq_zero (by rw [hlr]; exact List.length_nil)
          subst this
          exact rfl
        · subst e
          exact Bool.or_true _
      refine wpAny_binaryOp_repeat_ref (T := "tuple") (U := "int") (by decide) ⟨_, ho, rfl⟩ (fun s' => typeIs_int s' k t) noFill_tuple_mul F.fills_int_mul F.slot_int_rmul repeat_tuple F.slot_int_index.lookup
        (call_meets F.slot_int_rmul (typeIs_int s k t) F.entry_int_rmul (F.args_int_rmul_2 _ _) (int_rmul_tuple k t l its.toArray n dd sl)
          ⟨ho, rfl, ⟨_, ho, rfl⟩, call_meets F.slot_tuple_mul ⟨_, ho, rfl⟩ F.entry_tuple_mul (F.args_tuple_mul_2 _ _) (tup_mul_same l its.toArray n dd sl k t c0 c1) ⟨ho, ?_⟩⟩)
      exact ⟨.ref l, H, I, rfl, q1 same⟩
    · have hne : xs ≠ [] := fun e => same (.inl e)
      have hk : k ≤ 0 := by
        have h1 : ¬ 2 ≤ k := fun h => big ⟨hne, h⟩
        have h2 : k ≠ 1 := fun h => same (.inr h)
        omega
      have hi : its.toArray.isEmpty = false := by
        cases its with
        | nil => exact absurd (List.eq_nil_of_length_eq_zero hlr.symm) hne
        | cons a b => exact rfl
      have c1 : (its.toArray.isEmpty || k == 1) = false := by
        rw [hi, Bool.false_or]
        exact beq_eq_false_iff_ne.mpr (by omega)
      have c2 : (decide (k ≤ 0) || its.toArray.isEmpty) = true := by
        rw [decide_eq_true hk]
        exact rfl
      refine wpAny_binaryOp_repeat_ref (T := "tuple") (U := "int") (by decide) ⟨_, ho, rfl⟩ (fun s' => typeIs_int s' k t) noFill_tuple_mul F.fills_int_mul F.slot_int_rmul repeat_tuple F.slot_int_index.lookup
        (call_meets F.slot_int_rmul (typeIs_int s k t) F.entry_int_rmul (F.args_int_rmul_2 _ _) (int_rmul_tuple k t l its.toArray n dd sl)
          ⟨ho, rfl, ⟨_, ho, rfl⟩, call_meets F.slot_tuple_mul ⟨_, ho, rfl⟩ F.entry_tuple_mul (F.args_tuple_mul_2 _ _) (tup_mul_none l its.toArray n dd sl k t c0 c1 c2) ⟨ho, ?_⟩⟩)
      exact ⟨.ref s.heap.objs.size, _, I.laid (t' := s.toks) (o := .tup []) (fun b ob q => Heap.get?_push_of_some _ q) (Nat.le_refl _) ⟨Nat.zero_le _, [], .nil, PyProof.Rows.IsTup.new _ _⟩, rfl, q2 hne hk _ (I.hok.fresh (Nat.le_refl _))⟩
def rMulS : R2 := fun x y H Q => ∃ z k, x = .str z ∧ y = .int k ∧ -1000 ≤ k ∧ k ≤ 1000 ∧ z.length ≤ 1000 ∧ Q (.str ⟨(List.replicate k.toNat z.cps.toList).flatten.toArray⟩) H
theorem foldl_cat : ∀ (n : Nat) (z : Array Nat) (a : List Nat), (List.replicate n z).foldl (· ++ ·) a.toArray = (a ++ (List.replicate n z.toList).flatten).toArray
  | 0, z, a => by simp
  | n + 1, z, a => by
    rw [List.replicate_succ, List.foldl_cons, List.replicate_succ, List.flatten_cons, ← List.append_assoc]
    have e : a.toArray ++ z = (a ++ z.toList).toArray := by simp
    rw [e]
    exact foldl_cat n z _
theorem op_mulS : OpR X (binaryOp .Mult) rMulS := by
  intro pins s σ H x y v u Q I rx ry h
  obtain ⟨z, k, rfl, rfl, hlo, hhi, hlen, q⟩ := h
  obtain ⟨t, rfl⟩ := rx
  obtain ⟨t', rfl⟩ := ry
  have c0 : (decide (k < -(2 ^ 63)) || decide (k ≥ 2 ^ 63)) = false := by
    rw [decide_eq_false (by omega), decide_eq_false (by omega)]
    exact rfl
  refine PySem.P.mul_str c0 (fun h1 h2 => ?_) (fun h1 h2 => ?_) ?_
  · have h3 : ((z.length : Nat) : Int) ≤ 1000 := by omega
    have h4 : (1000 : Int) ≤ (2 ^ 63 - 1) / k := by
      refine (Int.le_ediv_iff_mul_le (by omega)).mpr ?_
      have : 1000 * k ≤ 1000 * 1000 := Int.mul_le_mul_of_nonneg_left hhi (by omega)
      omega
    omega
  · unfold Builtin.Str.tooLong
    have : z.length * k.toNat ≤ 1000 * 1000 := Nat.mul_le_mul hlen (by omega)
    rw [sizeLine_eq]
    exact decide_eq_false (by omega)
  · by_cases h1 : k < 1
    · rw [if_pos h1]
      have e : k.toNat = 0 := by omega
      rw [e] at q
      refine ⟨by decide, ?_⟩
      exact ⟨.str _, H, I.tok _, ⟨_, rfl⟩, q⟩
    · rw [if_neg h1]
      by_cases h2 : (k == 1 || z.length == 0) = true
      · rw [if_pos h2]
        have e : (⟨(List.replicate k.toNat z.cps.toList).flatten.toArray⟩ : Str) = z := by
          rcases Bool.or_eq_true_iff.mp h2 with h3 | h3
          · have : k = 1 := by simpa using h3
            subst this
            show (⟨(List.replicate 1 z.cps.toList).flatten.toArray⟩ : Str) = z
            simp
          · have hz : z.cps.toList = [] := List.eq_nil_of_length_eq_zero (by simpa [Str.length] using h3)
            have : z = ⟨#[]⟩ := by
              cases z with
              | mk c => simp at hz; rw [hz]
            subst this
            simp
        rw [e] at q
        exact ⟨.str z, H, I, ⟨t, rfl⟩, q⟩
      · rw [if_neg h2]
        have e : (List.replicate k.toNat z.cps).foldl (· ++ ·) #[] = (List.replicate k.toNat z.cps.toList).flatten.toArray := by
          have := foldl_cat k.toNat z.cps []
          rw [List.nil_append] at this
          exact this
        rw [e]
        refine ⟨?_, ?_⟩
        · show (List.replicate k.toNat z.cps.toList).flatten.toArray.size ≤ sizeLine
          rw [List.size_toArray, PyProof.Rows.lm_len_rep_flat, sizeLine_eq]
          have a1 : k.toNat * z.cps.toList.length ≤ 1000 * 1000 := Nat.mul_le_mul (by omega) (by simpa [Str.length] using hlen)
          omega
        · exact ⟨.str _, H, I.tok _, ⟨_, rfl⟩, q⟩
def rCatL : R2 := fun x y H Q => ∃ l b xs zs, x = .ref l ∧ y = .ref b ∧ Rd H l (.lst xs) ∧ Rd H b (.lst zs) ∧ xs.length + zs.length ≤ sizeLine ∧ ∀ p, H p = none → Q (.ref p) (upd H p (.lst (xs ++ zs)))
theorem op_catL : OpR X (binaryOp .Add) rCatL := by
  intro pins s σ H x y v u Q I rx ry h
  obtain ⟨l, b, xs, zs, rfl, rfl, hl, hb, hz, q⟩ := h
  cases rx
  cases ry
  obtain ⟨z1, i1, n1, r1, e1⟩ := hl.ok I.hok
  obtain ⟨z2, i2, n2, r2, e2⟩ := hb.ok I.hok
  have l1 := r1.length
  have l2 := r2.length
  refine PySem.P.add_list e1 e2 ?_ (by rw [List.size_toArray, List.size_toArray]; omega)
  have ea : i1.toArray ++ i2.toArray = (i1 ++ i2).toArray := by simp
  rw [ea]
  exact ⟨.ref _, _, I.lnew (t' := s.toks) (r1.append r2) (by rw [List.length_append]; exact hz), rfl, q _ I.fresh⟩
end
end VL

set_option maxRecDepth 100000
set_option maxHeartbeats 2000000
namespace VL
open PySem L2

section
variable {mg : Gm} {M : Addr → Bool} {H : Hp} {fl : Bool} {p : Addr}
theorem vis_new {o : HO} (m : MOk M H) (h : H p = none) (n : NF o) : vis fl M (vw (upd H p o)) p = some o := by
  cases fl with
  | false => exact vw_upd_same n
  | true =>
    show Sh M (vw (upd H p o)) p = some o
    rw [Sh_of]
    · exact vw_upd_same n
    · cases q : M p with
      | false => rfl
      | true =>
        obtain ⟨u, e⟩ := m.dom p q
        rw [h] at e; cases e
theorem rp_newT {ds : List D} {xs : List V} (m : MOk M H) (h : H p = none) (r : RpL mg (vis fl M (vw H)) ds xs) : Rp mg (vis fl M (vw (upd H p (.tup xs)))) (.tup ds) (.ref p) :=
  .tup (vis_new m h trivial) (r.mono (vis_mono (Ext.new h).v))
theorem rp_newL {ds : List D} {xs : List V} (m : MOk M H) (h : H p = none) (r : RpL mg (vis fl M (vw H)) ds xs) : Rp mg (vis fl M (vw (upd H p (.lst xs)))) (.lst ds) (.ref p) :=
  .lst (vis_new m h trivial) (r.mono (vis_mono (Ext.new h).v))
theorem vis_get {G : Vw} {a : Addr} {u : HO} (h : vis fl M G a = some u) : G a = some u := vis_le fl M G a u h
end

def addD : D → D → Res D
  | .int i, .int j => .ok (.int (i + j))
  | .str s, .str t => if s.length + t.length ≤ sizeLine then .ok (.str (s ++ t)) else .bad
  | .tup xs, .tup ys => if xs.length + ys.length ≤ sizeLine then .ok (.tup (xs ++ ys)) else .bad
  | .lst xs, .lst ys => if xs.length + ys.length ≤ sizeLine then .ok (.lst (xs ++ ys)) else .bad
  | _, _ => .bad
def subD : D → D → Res D
  | .int i, .int j => .ok (.int (i - j))
  | _, _ => .bad
def mulD : D → D → Res D
  | .int i, .int j => if i.natAbs.log2 + j.natAbs.log2 < 1000000 then .ok (.int (i * j)) else .bad
  | .str s, .int k => if -1000 ≤ k ∧ k ≤ 1000 ∧ s.length ≤ 1000 then .ok (.str ⟨(List.replicate k.toNat s.cps.toList).flatten.toArray⟩) else .bad
  | .tup xs, .int k => if -1000 ≤ k ∧ k ≤ 1000 ∧ xs.length ≤ 1000 then .ok (.tup (List.replicate k.toNat xs).flatten) else .bad
  | _, _ => .bad
def modD : D → D → Res D
  | .int i, .int j => if 0 < j then .ok (.int (i % j)) else .bad
  | _, _ => .bad
def fdivD : D → D → Res D
  | .int i, .int j => if 0 < j ∧ j < 1073741824 then .ok (.int (i / j)) else .bad
  | _, _ => .bad
def powD : D → D → Res D
  | .int i, .int j => if 0 ≤ j ∧ j ≤ 1000000 ∧ i.natAbs < 2 ^ 64 then .ok (.int (i ^ j.toNat)) else .bad
  | _, _ => .bad
def ltD : D → D → Res D
  | .int i, .int j => .ok (.bl (decide (i < j)))
  | _, _ => .bad
def leD : D → D → Res D
  | .int i, .int j => .ok (.bl (decide (i ≤ j)))
  | _, _ => .bad
def gtD : D → D → Res D
  | .int i, .int j => .ok (.bl (decide (j < i)))
  | _, _ => .bad
def geD : D → D → Res D
  | .int i, .int j => .ok (.bl (decide (j ≤ i)))
  | _, _ => .bad
def eqO (d e : D) : Res D := if cmpOk d = true ∧ cmpOk e = true then .ok (.bl (eqD d e)) else .bad
def neO (d e : D) : Res D := if cmpOk d = true ∧ cmpOk e = true then .ok (.bl (!eqD d e)) else .bad
def isNon : D → Bool
  | .non => true
  | _ => false
def isNO (d : D) : D → Res D
  | .non => .ok (.bl (isNon d))
  | _ => .bad
def notNO (d : D) : D → Res D
  | .non => .ok (.bl (!isNon d))
  | _ => .bad
section
variable {X : Cx} {W : WX} {fl fla flb : Bool}
def rAddA (K : PySem.W.Frag) : R2 := fun x y H Q => rI0 (fun i j => .int (i + j)) x y H Q ∨ (∃ i j, x = .str i ∧ y = .str j ∧ i.length + j.length ≤ sizeLine ∧ Q (.str (i ++ j)) H) ∨ rCatA K x y H Q ∨ rCatL x y H Q
theorem op_addA : OpR X (binaryOp .Add) (rAddA X.K) := op_add.or (op_add_str.or (op_catA.or op_catL))
theorem nil_of_lenV {mg : Gm} {G : Vw} {ds : List D} (r : RpL mg G ds []) : ds = [] := List.eq_nil_of_length_eq_zero r.length
theorem of_add : OpF X W fl fl fl (rAddA X.K) addD := by
  intro M H σ Q d e v w m rd re h
  cases rd <;> cases re <;> first | exact h.elim | skip
  case int.int i j => exact .inl ⟨i, j, rfl, rfl, h _ H (Ext.refl H) (.int _)⟩
  case str.str s t =>
    obtain ⟨hs, h⟩ := PostE.ite h
    exact .inr (.inl ⟨s, t, rfl, rfl, hs, h _ H (Ext.refl H) (.str _)⟩)
  case tup.tup a xs ds ha ra b ys es hb rb =>
    obtain ⟨hs, h⟩ := PostE.ite h
    rw [ra.length, rb.length] at hs
    refine .inr (.inr (.inl ⟨a, b, xs, ys, rfl, rfl, .inl (.inl (vw_tup (vis_get ha))), .inl (.inl (vw_tup (vis_get hb))), hs, fun hx => ?_, fun _ hy => ?_, fun _ _ p hp => ?_⟩))
    · subst hx
      have := nil_of_lenV ra
      subst this
      exact h _ H (Ext.refl H) (.tup hb rb)
    · subst hy
      have := nil_of_lenV rb
      subst this
      rw [List.append_nil] at h
      exact h _ H (Ext.refl H) (.tup ha ra)
    · exact h _ _ (Ext.new hp) (rp_newT m hp (ra.append rb))
  case lst.lst a xs ds ha ra b ys es hb rb =>
    obtain ⟨hs, h⟩ := PostE.ite h
    rw [ra.length, rb.length] at hs
    exact .inr (.inr (.inr ⟨a, b, xs, ys, rfl, rfl, vw_lst (vis_get ha), vw_lst (vis_get hb), hs, fun p hp => h _ _ (Ext.new hp) (rp_newL m hp (ra.append rb))⟩))
def rMulA (K : PySem.W.Frag) : R2 := fun x y H Q => rI CMulW (fun i j => .int (i * j)) x y H Q ∨ rMulS x y H Q ∨ rMulT K x y H Q
theorem op_mulA : OpR X (binaryOp .Mult) (rMulA X.K) := op_mulW.or (op_mulS.or op_mulT)
theorem RpL.rep {mg : Gm} {G : Vw} {ds : List D} {xs : List V} (r : RpL mg G ds xs) : ∀ n : Nat, RpL mg G (List.replicate n ds).flatten (List.replicate n xs).flatten
  | 0 => .nil
  | n + 1 => by
    rw [List.replicate_succ, List.replicate_succ, List.flatten_cons, List.flatten_cons]
    exact r.append (RpL.rep r n)
theorem rep_nil {α : Type} : ∀ n : Nat, (List.replicate n ([] : List α)).flatten = []
  | 0 => rfl
  | n + 1 => by rw [List.replicate_succ, List.flatten_cons, rep_nil n]; rfl
theorem of_mul : OpF X W fl flb fl (rMulA X.K) mulD := by
  intro M H σ Q d e v w m rd re h
  cases rd <;> cases re <;> first | exact h.elim | skip
  case int.int i j =>
    obtain ⟨hs, h⟩ := PostE.ite h
    exact .inl ⟨i, j, rfl, rfl, hs, h _ H (Ext.refl H) (.int _)⟩
  case str.int s k =>
    obtain ⟨hs, h⟩ := PostE.ite h
    exact .inr (.inl ⟨s, k, rfl, rfl, hs.1, hs.2.1, hs.2.2, h _ H (Ext.refl H) (.str _)⟩)
  case tup.int a xs ds ha ra k =>
    obtain ⟨hs, h⟩ := PostE.ite h
    rw [ra.length] at hs
    refine .inr (.inr ⟨a, k, xs, rfl, rfl, .inl (.inl (vw_tup (vis_get ha))), hs.1, hs.2.1, hs.2.2, fun hx => ?_, fun _ hk p hp => ?_, fun _ hk p hp => ?_⟩)
    · refine h _ H (Ext.refl H) ?_
      rcases hx with hx | hx
      · subst hx
        have := nil_of_lenV ra
        subst this
        rw [rep_nil]
        exact .tup ha ra
      · subst hx
        have e : (List.replicate (1 : Int).toNat ds).flatten = ds := by
          show (List.replicate 1 ds).flatten = ds
          simp
        rw [e]
        exact .tup ha ra
    · have e : k.toNat = 0 := by omega
      rw [e] at h
      exact h _ _ (Ext.new hp) (rp_newT m hp .nil)
    · exact h _ _ (Ext.new hp) (rp_newT m hp (ra.rep _))
theorem of_mod : OpF X W fla flb fl (rI (fun _ j => 0 < j) fun i j => .int (i % j)) modD := by
  intro M H σ Q d e v w m rd re h
  cases rd <;> cases re <;> first | exact h.elim | skip
  obtain ⟨hs, h⟩ := PostE.ite h
  exact ⟨_, _, rfl, rfl, hs, h _ H (Ext.refl H) (.int _)⟩
theorem of_fdiv : OpF X W fla flb fl (rI CDiv fun i j => .int (i / j)) fdivD := by
  intro M H σ Q d e v w m rd re h
  cases rd <;> cases re <;> first | exact h.elim | skip
  obtain ⟨hs, h⟩ := PostE.ite h
  exact ⟨_, _, rfl, rfl, hs, h _ H (Ext.refl H) (.int _)⟩
theorem of_pow : OpF X W fla flb fl (rI CPow fun i j => .int (i ^ j.toNat)) powD := by
  intro M H σ Q d e v w m rd re h
  cases rd <;> cases re <;> first | exact h.elim | skip
  obtain ⟨hs, h⟩ := PostE.ite h
  exact ⟨_, _, rfl, rfl, hs, h _ H (Ext.refl H) (.int _)⟩
theorem of_lt : OpF X W fla flb fl (rI0 fun i j => .bl (decide (i < j))) ltD := by
  intro M H σ Q d e v w m rd re h
  cases rd <;> cases re <;> first | exact h.elim | skip
  exact ⟨_, _, rfl, rfl, h _ H (Ext.refl H) (.bl _)⟩
theorem of_le : OpF X W fla flb fl (rI0 fun i j => .bl (decide (i ≤ j))) leD := by
  intro M H σ Q d e v w m rd re h
  cases rd <;> cases re <;> first | exact h.elim | skip
  exact ⟨_, _, rfl, rfl, h _ H (Ext.refl H) (.bl _)⟩
theorem of_gt : OpF X W fla flb fl (rI0 fun i j => .bl (decide (j < i))) gtD := by
  intro M H σ Q d e v w m rd re h
  cases rd <;> cases re <;> first | exact h.elim | skip
  exact ⟨_, _, rfl, rfl, h _ H (Ext.refl H) (.bl _)⟩
theorem of_ge : OpF X W fla flb fl (rI0 fun i j => .bl (decide (j ≤ i))) geD := by
  intro M H σ Q d e v w m rd re h
  cases rd <;> cases re <;> first | exact h.elim | skip
  exact ⟨_, _, rfl, rfl, h _ H (Ext.refl H) (.bl _)⟩
theorem of_eq : OpF X W fla flb fl (rEqD X.K) eqO := by
  intro M H σ Q d e v w m rd re h
  obtain ⟨hs, h⟩ := PostE.ite h
  obtain ⟨p1, s1⟩ := Bool.and_eq_true_iff.mp hs.1
  obtain ⟨p2, s2⟩ := Bool.and_eq_true_iff.mp hs.2
  exact ⟨toPy d, toPy e, (rd.mono (vis_le fla M _)).dp p1, (re.mono (vis_le flb M _)).dp p2, s1, s2, h _ H (Ext.refl H) (.bl _)⟩
theorem of_ne : OpF X W fla flb fl (rNeD X.K) neO := by
  intro M H σ Q d e v w m rd re h
  obtain ⟨hs, h⟩ := PostE.ite h
  obtain ⟨p1, s1⟩ := Bool.and_eq_true_iff.mp hs.1
  obtain ⟨p2, s2⟩ := Bool.and_eq_true_iff.mp hs.2
  exact ⟨toPy d, toPy e, (rd.mono (vis_le fla M _)).dp p1, (re.mono (vis_le flb M _)).dp p2, s1, s2, h _ H (Ext.refl H) (.bl _)⟩
theorem isNon_of {mg : Gm} {G : Vw} {d : D} {v : V} (r : Rp mg G d v) : decide (v = .non) = isNon d := by
  cases r <;> first | rfl | exact decide_eq_false (by intro q; cases q)
theorem of_isN : OpF X W fla flb fl (fun x y H Q => y = .non ∧ Q (.bl (decide (x = .non))) H) isNO := by
  intro M H σ Q d e v w m rd re h
  cases re <;> first | exact h.elim | skip
  refine ⟨rfl, ?_⟩
  rw [isNon_of rd]
  exact h _ H (Ext.refl H) (.bl _)
theorem of_notN : OpF X W fla flb fl (fun x y H Q => y = .non ∧ Q (.bl (!decide (x = .non))) H) notNO := by
  intro M H σ Q d e v w m rd re h
  cases re <;> first | exact h.elim | skip
  refine ⟨rfl, ?_⟩
  rw [isNon_of rd]
  exact h _ H (Ext.refl H) (.bl _)
end
end VL

set_option maxRecDepth 100000
set_option maxHeartbeats 2000000
namespace VL
open PySem L2

def flatD : D → Bool
  | .non => true | .bl _ => true | .int _ => true | .str _ => true
  | _ => false
mutual
def eqK : D → D → Bool
  | .non, .non => true
  | .bl a, .bl b => a == b
  | .int a, .int b => a == b
  | .str a, .str b => a == b
  | .tup xs, .tup ys => eqKs xs ys
  | _, _ => false
def eqKs : List D → List D → Bool
  | [], [] => true
  | x :: xs, y :: ys => eqK x y && eqKs xs ys
  | _, _ => false
end
def keyOf : D → Option Key
  | .int i => some (.inl i)
  | .str s => some (.inr s)
  | _ => none
def keysOf : List D → Option (List Key)
  | [] => some []
  | d :: ds => match keyOf d, keysOf ds with
    | some k, some ks => some (k :: ks)
    | _, _ => none
def lookD (es : List (D × D)) (k : D) : Option D := (es.find? fun p => eqK p.1 k).map (·.2)
def inD : D → D → Res D
  | d, .lst es => if cmpOk d = true ∧ cmpOk (.lst es) = true then .ok (.bl (es.any fun z => eqD z d)) else .bad
  | d, .tup es => if flatD d = true ∧ es.all flatD = true then .ok (.bl (es.any fun z => eqD z d)) else .bad
  | .str c, .str z => match c.cps.toList with
    | [x] => .ok (.bl (decide (x ∈ z.cps.toList)))
    | _ => .bad
  | _, _ => .bad
def notD : D → Res D
  | .bl b => .ok (.bl (!b))
  | _ => .bad
theorem eqV_eq {mg : Gm} {G : Vw} {d e : D} {v w : V} (r : Rp mg G d v) (q : Rp mg G e w) (hd : flatD d = true) (he : flatD e = true) : eqV v w = eqD d e := by
  cases r <;> first | (cases hd; done) | skip
  all_goals (cases q <;> first | (cases he; done) | skip)
  all_goals (simp only [eqV, eqD, toPy, PyData.eqv])
theorem flat_of {mg : Gm} {G : Vw} {d : D} {v : V} (r : Rp mg G d v) (h : flatD d = true) : flatV v = true := by
  cases r <;> first | rfl | (cases h; done)
theorem any_eqD {mg : Gm} {G : Vw} {e : D} {w : V} (q : Rp mg G e w) (he : flatD e = true) : ∀ {ds : List D} {vs : List V}, RpL mg G ds vs → ds.all flatD = true → (vs.all flatV = true) ∧ (vs.any fun y => eqV y w) = ds.any fun z => eqD z e
  | _, _, .nil, _ => ⟨rfl, rfl⟩
  | _, _, .cons r t, h => by
    rw [List.all_cons] at h
    obtain ⟨h1, h2⟩ := Bool.and_eq_true_iff.mp h
    obtain ⟨i1, i2⟩ := any_eqD q he t h2
    rw [List.all_cons, List.any_cons, List.any_cons, i1, i2, flat_of r h1, eqV_eq r q h1 he]
    exact ⟨rfl, rfl⟩
section
variable {X : Cx} {W : WX} {fl fla flb : Bool}
def rInA (K : PySem.W.Frag) : R2 := fun x y H Q => rInD K x y H Q ∨ rIn K false x y H Q ∨ ∃ (c : Nat) (z : Str), x = .str ⟨#[c]⟩ ∧ y = .str z ∧ Q (.bl (decide (c ∈ z.cps.toList))) H
theorem op_inA (hu : X.A.units + 65 < cLine) : OpR X (compareOp .In) (rInA X.K) := (op_inD hu).or (op_in_seq.or op_in_sign)
def rNotInA (K : PySem.W.Frag) : R2 := fun x y H Q => rNotInD K x y H Q ∨ rIn K true x y H Q ∨ ∃ (c : Nat) (z : Str), x = .str ⟨#[c]⟩ ∧ y = .str z ∧ Q (.bl (!decide (c ∈ z.cps.toList))) H
theorem op_notInA (hu : X.A.units + 65 < cLine) : OpR X (compareOp .NotIn) (rNotInA X.K) := (op_notInD hu).or (op_notIn_seq.or op_notIn_sign)
theorem str_one {c : Str} {x : Nat} (h : c.cps.toList = [x]) : c = ⟨#[x]⟩ := by
  cases c with
  | mk a =>
    have h' : a.toList = [x] := h
    have : a = #[x] := Array.toList_inj.mp h'
    rw [this]
theorem inD_lst (d : D) (es : List D) : inD d (.lst es) = if cmpOk d = true ∧ cmpOk (.lst es) = true then .ok (.bl (es.any fun z => eqD z d)) else .bad := by cases d <;> rfl
theorem inD_tup (d : D) (es : List D) : inD d (.tup es) = if flatD d = true ∧ es.all flatD = true then .ok (.bl (es.any fun z => eqD z d)) else .bad := by cases d <;> rfl
theorem toPys_any (d : D) : ∀ es : List D, ((toPys es).any fun z => PyData.eqv z (toPy d)) = es.any fun z => eqD z d
  | [] => by rw [toPys]; rfl
  | e :: es => by
    rw [toPys, List.any_cons, List.any_cons, toPys_any d es]
    rfl
theorem rIn_of {M : Addr → Bool} {H : Hp} {d : D} {v : V} {es : List D} {w : V} (rd : Rp (gm X) (vis fla M (vw H)) d v) (re : Rp (gm X) (vis flb M (vw H)) (.lst es) w)
    (hs : cmpOk d = true ∧ cmpOk (.lst es) = true) : ∃ x ds, Dp X.K H v x ∧ Dp X.K H w (.list ds) ∧ SeqAt.shaped x = true ∧ SeqAt.shaped (.list ds) = true ∧ (ds.any fun z => PyData.eqv z x) = es.any fun z => eqD z d := by
  obtain ⟨p1, s1⟩ := Bool.and_eq_true_iff.mp hs.1
  obtain ⟨p2, s2⟩ := Bool.and_eq_true_iff.mp hs.2
  have e : toPy (.lst es) = .list (toPys es) := by rw [toPy]
  have q := (re.mono (vis_le flb M _)).dp p2
  rw [e] at q s2
  exact ⟨toPy d, toPys es, (rd.mono (vis_le fla M _)).dp p1, q, s1, s2, toPys_any d es⟩
theorem of_in : OpF X W fla flb fl (rInA X.K) inD := by
  intro M H σ Q d e v w m rd re h
  have rd' := rd.mono (vis_le fla M _)
  have re' := re.mono (vis_le flb M _)
  cases e with
  | lst es =>
    rw [inD_lst] at h
    obtain ⟨hs, h⟩ := PostE.ite h
    obtain ⟨x, ds, a1, a2, a3, a4, a5⟩ := rIn_of (X := X) rd re hs
    refine .inl ⟨x, ds, a1, a2, a3, a4, ?_⟩
    rw [a5]
    exact h _ H (Ext.refl H) (.bl _)
  | tup es =>
    rw [inD_tup] at h
    obtain ⟨hs, h⟩ := PostE.ite h
    cases re' with
    | tup hb rb =>
      obtain ⟨i1, i2⟩ := any_eqD rd' hs.1 rb hs.2
      refine .inr (.inl ⟨_, _, rfl, .inr (.inl (.inl (vw_tup hb))), flat_of rd' hs.1, i1, ?_⟩)
      show Q (.bl (if false = true then _ else inV v _)) H
      rw [if_neg Bool.false_ne_true]
      unfold inV
      rw [i2]
      exact h _ H (Ext.refl H) (.bl _)
  | str z =>
    cases d with
    | str c =>
      cases rd'
      cases re'
      have h' : PostE X W fl M σ H Q (match c.cps.toList with | [x] => .ok (.bl (decide (x ∈ z.cps.toList))) | _ => .bad) := h
      cases q : c.cps.toList with
      | nil => rw [q] at h'; exact h'.elim
      | cons x r =>
        cases r with
        | nil =>
          rw [q] at h'
          refine .inr (.inr ⟨x, z, ?_, rfl, h' _ H (Ext.refl H) (.bl _)⟩)
          rw [str_one q]
        | cons y r => rw [q] at h'; exact h'.elim
    | _ => exact h.elim
  | _ => cases d <;> exact h.elim
def notInD (d e : D) : Res D := (inD d e).bind notD
theorem of_notIn : OpF X W fla flb fl (rNotInA X.K) notInD := by
  intro M H σ Q d e v w m rd re h
  have rd' := rd.mono (vis_le fla M _)
  have re' := re.mono (vis_le flb M _)
  cases e with
  | lst es =>
    have h' : PostE X W fl M σ H Q (if cmpOk d = true ∧ cmpOk (.lst es) = true then .ok (.bl (!es.any fun z => eqD z d)) else .bad) := by
      unfold notInD at h
      rw [inD_lst] at h
      by_cases c : cmpOk d = true ∧ cmpOk (.lst es) = true
      · rw [if_pos c] at h ⊢; exact h
      · rw [if_neg c] at h; exact h.elim
    obtain ⟨hs, h2⟩ := PostE.ite h'
    obtain ⟨x, ds, a1, a2, a3, a4, a5⟩ := rIn_of (X := X) rd re hs
    refine .inl ⟨x, ds, a1, a2, a3, a4, ?_⟩
    rw [a5]
    exact h2 _ H (Ext.refl H) (.bl _)
  | tup es =>
    have h' : PostE X W fl M σ H Q (if flatD d = true ∧ es.all flatD = true then .ok (.bl (!es.any fun z => eqD z d)) else .bad) := by
      unfold notInD at h
      rw [inD_tup] at h
      by_cases c : flatD d = true ∧ es.all flatD = true
      · rw [if_pos c] at h ⊢; exact h
      · rw [if_neg c] at h; exact h.elim
    obtain ⟨hs, h2⟩ := PostE.ite h'
    cases re' with
    | tup hb rb =>
      obtain ⟨i1, i2⟩ := any_eqD rd' hs.1 rb hs.2
      refine .inr (.inl ⟨_, _, rfl, .inr (.inl (.inl (vw_tup hb))), flat_of rd' hs.1, i1, ?_⟩)
      show Q (.bl (if true = true then !inV v _ else _)) H
      rw [if_pos rfl]
      unfold inV
      rw [i2]
      exact h2 _ H (Ext.refl H) (.bl _)
  | str z =>
    cases d with
    | str c =>
      cases rd'
      cases re'
      have h' : PostE X W fl M σ H Q (Res.bind (match c.cps.toList with | [x] => .ok (.bl (decide (x ∈ z.cps.toList))) | _ => .bad) notD) := h
      cases q : c.cps.toList with
      | nil => rw [q] at h'; exact h'.elim
      | cons x r =>
        cases r with
        | nil =>
          rw [q] at h'
          refine .inr (.inr ⟨x, z, ?_, rfl, h' _ H (Ext.refl H) (.bl _)⟩)
          rw [str_one q]
        | cons y r => rw [q] at h'; exact h'.elim
    | _ => exact h.elim
  | _ => cases d <;> exact h.elim
end

section
variable {X : Cx} {W : WX} {fl fla flb flc : Bool} {e a b c : Expr} {rest : List Expr} {pos : Pos} {φ φa φb φc : Env → Res D} {τ τa τb : Env → Res Bool}
def chE (f f' : D → D → Res D) (φa φb φc : Env → Res D) (env : Env) : Res D := (φa env).bind fun x => (φb env).bind fun y => (f x y).bind fun z => match z with
  | .bl true => (φc env).bind fun w => f' y w
  | .bl false => .ok (.bl false)
  | _ => .bad
theorem chain_go {op op' : CmpOp} {r r' : R2} {f f' : D → D → Res D} {ta tb tc : TE} (hf : OpF X W fla flb true r f) (hf' : OpF X W flb flc true r' f')
    (ra : ∀ (H0 : Hp) (M0 M : Addr → Bool) (H : Hp) (σ : L2.St) (env : Env) (Q : VK), Good (gm X) H0 M0 M H σ env → PostE X W fla M σ H Q (φa env) → ta σ H Q)
    (rb : ∀ (H0 : Hp) (M0 M : Addr → Bool) (H : Hp) (σ : L2.St) (env : Env) (Q : VK), Good (gm X) H0 M0 M H σ env → PostE X W flb M σ H Q (φb env) → tb σ H Q)
    (rc : ∀ (H0 : Hp) (M0 M : Addr → Bool) (H : Hp) (σ : L2.St) (env : Env) (Q : VK), Good (gm X) H0 M0 M H σ env → PostE X W flc M σ H Q (φc env) → tc σ H Q)
    (H0 : Hp) (M0 M : Addr → Bool) (H : Hp) (σ : L2.St) (env : Env) (Q : VK) (g : Good (gm X) H0 M0 M H σ env) (h : PostE X W true M σ H Q (chE f f' φa φb φc env)) : tChain r r' ta tb tc σ H Q := by
  refine ra H0 M0 M H σ env _ g (PostE.seq h fun d v H1 e1 r1 h1 => ?_)
  refine rb H0 M0 M H1 σ env _ (g.mono e1) (PostE.seq h1 fun d2 v2 H2 e2 r2 h2 => ?_)
  refine hf M H2 σ _ d d2 v v2 ((g.ok.mono e1).mono e2) (r1.mono (vis_mono e2.v)) r2 (PostE.seq h2 fun d3 v3 H3 e3 r3 h3 => ?_)
  cases d3 with
  | bl k =>
    cases r3
    refine ⟨k, rfl, ?_⟩
    cases k with
    | true =>
      rw [if_pos rfl]
      refine rc H0 M0 M H3 σ env _ (((g.mono e1).mono e2).mono e3) (PostE.seq h3 fun d4 v4 H4 e4 r4 h4 => ?_)
      exact hf' M H4 σ Q d2 d4 v2 v4 ((((g.ok.mono e1).mono e2).mono e3).mono e4) (r2.mono (vis_mono (e3.trans e4).v)) r4 h4
    | false =>
      rw [if_neg Bool.false_ne_true]
      exact h3 _ H3 (Ext.refl _) (.bl false)
  | _ => exact h3.elim
theorem vt_chain {op op' : CmpOp} {r r' : R2} {f f' : D → D → Res D} (ho : OpR X (compareOp op) r) (hf : OpF X W fla flb true r f) (ho' : OpR X (compareOp op') r') (hf' : OpF X W flb flc true r' f')
    (ha : VE X W fla a φa) (hb : VE X W flb b φb) (hc : VE X W flc c φc) (hm : lastMarks [op, op'] [b, c] = false := by with_unfolding_all rfl) : VT X W (.Compare a [op, op'] [b, c] pos) (tE (chE f f' φa φb φc)) := by
  obtain ⟨ta, pa, ra⟩ := ha
  obtain ⟨tb, pb, rb⟩ := hb
  obtain ⟨tc, pc, rc⟩ := hc
  refine ⟨_, pt_chain ho ho' pa pb pc hm, fun H0 M0 M H σ env Q g h => ?_⟩
  refine chain_go (op := op) (op' := op') hf hf' ra rb rc H0 M0 M H σ env _ g (PostT.seq h fun d v H1 e1 r1 h1 => ?_)
  cases d with
  | bl k => cases r1; exact ⟨k, rfl, h1 H1 (Ext.refl _)⟩
  | _ => exact h1.elim
def andT (τa τb : Env → Res Bool) (env : Env) : Res Bool := (τa env).bind fun b => if b = true then τb env else .ok false
def orT (τa τb : Env → Res Bool) (env : Env) : Res Bool := (τa env).bind fun b => if b = true then .ok true else τb env
def notT (τ : Env → Res Bool) (env : Env) : Res Bool := (τ env).bind fun b => .ok (!b)
def VW (X : Cx) (W : WX) (e : Expr) (τ : Env → Res Bool) : Prop :=
  ∃ t : TT, PW X e t ∧ ∀ (H0 : Hp) (M0 M : Addr → Bool) (H : Hp) (σ : L2.St) (env : Env) (Q : Bool → Hp → Prop), Good (gm X) H0 M0 M H σ env → PostT X W M σ H Q (τ env) → t σ H Q
theorem vt_w (h : VW X W e τ) : VT X W e τ := by
  obtain ⟨t, p, r⟩ := h
  exact ⟨t, p.pt, r⟩
theorem vw_and1 (h : VT X W a τ) : VW X W (.BoolOp .And [a] pos) τ := by
  obtain ⟨t, p, r⟩ := h
  exact ⟨t, pw_and1 p, r⟩
theorem vw_or1 (h : VT X W a τ) : VW X W (.BoolOp .Or [a] pos) τ := by
  obtain ⟨t, p, r⟩ := h
  exact ⟨t, pw_or1 p, r⟩
theorem vw_and (ha : VT X W a τa) (hb : VW X W (.BoolOp .And (b :: rest) pos) τb) : VW X W (.BoolOp .And (a :: b :: rest) pos) (andT τa τb) := by
  obtain ⟨t, p, r⟩ := ha
  obtain ⟨t', p', r'⟩ := hb
  refine ⟨_, pw_and p p', fun H0 M0 M H σ env Q g h => ?_⟩
  refine r H0 M0 M H σ env _ g (PostT.tst h fun k H1 e1 h1 => ?_)
  cases k with
  | true => rw [if_pos rfl] at h1 ⊢; exact r' H0 M0 M H1 σ env Q (g.mono e1) h1
  | false => rw [if_neg Bool.false_ne_true] at h1 ⊢; exact h1 H1 (Ext.refl _)
theorem vw_or (ha : VT X W a τa) (hb : VW X W (.BoolOp .Or (b :: rest) pos) τb) : VW X W (.BoolOp .Or (a :: b :: rest) pos) (orT τa τb) := by
  obtain ⟨t, p, r⟩ := ha
  obtain ⟨t', p', r'⟩ := hb
  refine ⟨_, pw_or p p', fun H0 M0 M H σ env Q g h => ?_⟩
  refine r H0 M0 M H σ env _ g (PostT.tst h fun k H1 e1 h1 => ?_)
  cases k with
  | true => rw [if_pos rfl] at h1 ⊢; exact h1 H1 (Ext.refl _)
  | false => rw [if_neg Bool.false_ne_true] at h1 ⊢; exact r' H0 M0 M H1 σ env Q (g.mono e1) h1
theorem vt_not (h : VT X W a τ) : VT X W (.UnaryOp .Not a pos) (notT τ) := by
  obtain ⟨t, p, r⟩ := h
  refine ⟨_, pt_not p, fun H0 M0 M H σ env Q g h => ?_⟩
  exact r H0 M0 M H σ env _ g (PostT.tst h fun k H1 e1 h1 => h1 H1 (Ext.refl _))
def andE (φa φb : Env → Res D) (env : Env) : Res D := (φa env).bind fun d => match d with
  | .bl true => φb env
  | .bl false => .ok (.bl false)
  | _ => .bad
def orE (φa φb : Env → Res D) (env : Env) : Res D := (φa env).bind fun d => match d with
  | .bl true => .ok (.bl true)
  | .bl false => φb env
  | _ => .bad
def notE (φ : Env → Res D) (env : Env) : Res D := (φ env).bind notD
theorem ve_one {op} (h : VE X W fl a φ) : VE X W fl (.BoolOp op [a] pos) φ := by
  obtain ⟨t, p, r⟩ := h
  exact ⟨t, pe_one p, r⟩
theorem ve_and (ha : VE X W fla a φa) (hb : VE X W fl (.BoolOp .And (b :: rest) pos) φb) : VE X W fl (.BoolOp .And (a :: b :: rest) pos) (andE φa φb) := by
  obtain ⟨t, p, r⟩ := ha
  obtain ⟨t', p', r'⟩ := hb
  refine ⟨_, pe_and p p', fun H0 M0 M H σ env Q g h => ?_⟩
  refine r H0 M0 M H σ env _ g (PostE.seq h fun d v H1 e1 r1 h1 => ?_)
  cases d with
  | bl k =>
    cases r1
    refine ⟨k, rfl, ?_⟩
    cases k with
    | true => rw [if_pos rfl]; exact r' H0 M0 M H1 σ env Q (g.mono e1) h1
    | false => rw [if_neg Bool.false_ne_true]; exact h1 _ H1 (Ext.refl _) (.bl false)
  | _ => exact h1.elim
theorem ve_not (h : VE X W fla a φ) : VE X W fl (.UnaryOp .Not a pos) (notE φ) := by
  obtain ⟨t, p, r⟩ := h
  refine ⟨_, pe_not p, fun H0 M0 M H σ env Q g h => ?_⟩
  refine r H0 M0 M H σ env _ g (PostE.seq h fun d v H1 e1 r1 h1 => ?_)
  cases d with
  | bl k => cases r1; exact ⟨k, rfl, h1 _ H1 (Ext.refl _) (.bl _)⟩
  | _ => exact h1.elim
def ifE (τ : Env → Res Bool) (φa φb : Env → Res D) (env : Env) : Res D := (τ env).bind fun b => if b = true then φa env else φb env
end
end VL

set_option maxRecDepth 100000
set_option maxHeartbeats 2000000
namespace VL
open PySem L2

theorem eqK_key {k : D} {key : Key} (h : keyOf k = some key) (a : Key) : eqK (keyD a) k = decide (a = key) := by
  cases k <;> first | (cases h; done) | skip
  case int j =>
    cases h
    cases a with
    | inl i => show (i == j) = _; rw [← key_ll i j]
    | inr x => exact (decide_eq_false (fun q => by cases q)).symm
  case str s =>
    cases h
    cases a with
    | inl i => exact (decide_eq_false (fun q => by cases q)).symm
    | inr x =>
      show (x == s) = _
      rw [key_rr]
      by_cases e : x = s
      · subst e; simp
      · rw [decide_eq_false e]; simpa using e
theorem eqKs_keys : ∀ {ds : List D} {ks : List Key}, keysOf ds = some ks → ∀ as : List Key, eqKs (as.map keyD) ds = decide (as = ks)
  | [], _, h, as => by
    cases h
    cases as with
    | nil => rfl
    | cons a r => exact (decide_eq_false (fun q => by cases q)).symm
  | d :: ds, _, h, as => by
    unfold keysOf at h
    cases h1 : keyOf d with
    | none => rw [h1] at h; cases h
    | some k =>
      cases h2 : keysOf ds with
      | none => rw [h1, h2] at h; cases h
      | some ks =>
        rw [h1, h2] at h
        cases h
        cases as with
        | nil => exact (decide_eq_false (fun q => by cases q)).symm
        | cons a r =>
          show (eqK (keyD a) d && eqKs (r.map keyD) ds) = _
          rw [eqK_key h1, eqKs_keys h2]
          by_cases e1 : a = k
          · by_cases e2 : r = ks
            · subst e1; subst e2; simp
            · rw [decide_eq_true e1, decide_eq_false e2, decide_eq_false (fun q => e2 (List.cons.inj q).2)]; rfl
          · rw [decide_eq_false e1, decide_eq_false (fun q => e1 (List.cons.inj q).1)]; rfl
theorem look_of {κ : Type} [DecidableEq κ] {mg : Gm} {G : Vw} {f : κ → D} {k : D} {key : κ} (hk : ∀ a, eqK (f a) k = decide (a = key)) : ∀ {es : List (D × D)} {kvs : List (κ × V)}, es.map (·.1) = kvs.map (fun p => f p.1) → RpL mg G (es.map (·.2)) (kvs.map (·.2)) →
    match lookD es k with
    | some d => ∃ v, valV kvs key = some v ∧ Rp mg G d v
    | none => valV kvs key = none
  | [], [], _, _ => rfl
  | [], _ :: _, e, _ => by cases e
  | _ :: _, [], e, _ => by cases e
  | p :: es, q :: kvs, e, r => by
    rw [List.map_cons, List.map_cons] at e
    obtain ⟨e1, e2⟩ := List.cons.inj e
    have r' : RpL mg G (p.2 :: es.map (·.2)) (q.2 :: kvs.map (·.2)) := r
    cases r' with
    | cons r1 r2 =>
      have ih := look_of hk e2 r2
      by_cases c : q.1 = key
      · have h1 : lookD (p :: es) k = some p.2 := by
          unfold lookD
          rw [List.find?_cons_of_pos (by show eqK p.1 k = true; rw [e1, hk, decide_eq_true c])]
          rfl
        rw [h1]
        exact ⟨q.2, valV_pos c, r1⟩
      · have h1 : lookD (p :: es) k = lookD es k := by
          unfold lookD
          rw [List.find?_cons_of_neg (by show ¬ eqK p.1 k = true; rw [e1, hk, decide_eq_false c]; exact Bool.false_ne_true)]
        rw [h1, valV_neg c]
        exact ih
def keyFit (t : Nat) (k : D) : Bool := match t, k with
  | 0, k => (keyOf k).isSome
  | 1, .tup ds => (keysOf ds).isSome
  | _, _ => false
theorem rp_key {mg : Gm} {G : Vw} {k : D} {key : Key} {v : V} (r : Rp mg G k v) (h : keyOf k = some key) : v = kV key := by
  cases r <;> first | (cases h; done) | skip
  all_goals (cases h; rfl)
theorem rp_keys {mg : Gm} {G : Vw} : ∀ {ds : List D} {ks : List Key} {xs : List V}, RpL mg G ds xs → keysOf ds = some ks → xs = ks.map kV
  | [], _, _, .nil, h => by cases h; rfl
  | d :: ds, _, _, .cons r t, h => by
    unfold keysOf at h
    cases h1 : keyOf d with
    | none => rw [h1] at h; cases h
    | some k =>
      cases h2 : keysOf ds with
      | none => rw [h1, h2] at h; cases h
      | some ks =>
        rw [h1, h2] at h
        cases h
        rw [rp_key r h1, rp_keys t h2]
        rfl
def Got (mg : Gm) (G : Vw) (H : Hp) (a : Addr) (y : V) : Option D → Prop
  | some d => ∃ v, DGet H a y (some v) ∧ Rp mg G d v
  | none => DGet H a y none
theorem gotK {mg : Gm} {H : Hp} {G : Vw} {es : List (D × D)} {kvs : List (Key × V)} {a : Addr} {k : D} {y : V} (h : Rd H a (.dK kvs)) (e : es.map (·.1) = kvs.map (fun p => keyD p.1)) (r : RpL mg G (es.map (·.2)) (kvs.map (·.2)))
    (rk : Rp mg (vw H) k y) (hf : keyFit 0 k = true) : Got mg G H a y (lookD es k) := by
  cases q : keyOf k with
  | none => rw [show keyFit 0 k = (keyOf k).isSome by cases k <;> rfl, q] at hf; cases hf
  | some key =>
    have hl := look_of (eqK_key q) e r
    rw [rp_key rk q]
    cases z : lookD es k with
    | none => rw [z] at hl; exact .inl ⟨_, key, h, rfl, hl.symm⟩
    | some d =>
      rw [z] at hl
      obtain ⟨v, e1, e2⟩ := hl
      exact ⟨v, .inl ⟨_, key, h, rfl, e1.symm⟩, e2⟩
theorem gotT {mg : Gm} {H : Hp} {G : Vw} {es : List (D × D)} {kvs : List (List Key × V)} {a : Addr} {k : D} {y : V} (h : Rd H a (.dT kvs)) (e : es.map (·.1) = kvs.map (fun p => .tup (p.1.map keyD))) (r : RpL mg G (es.map (·.2)) (kvs.map (·.2)))
    (rk : Rp mg (vw H) k y) (hf : keyFit 1 k = true) : Got mg G H a y (lookD es k) := by
  cases k with
  | tup ds =>
    cases q : keysOf ds with
    | none =>
      have : keyFit 1 (.tup ds) = (keysOf ds).isSome := rfl
      rw [this, q] at hf; cases hf
    | some ks =>
      have hk : ∀ b : List Key, eqK (.tup (b.map keyD)) (.tup ds) = decide (b = ks) := fun b => by
        have : eqK (.tup (b.map keyD)) (.tup ds) = eqKs (b.map keyD) ds := by rw [eqK]
        rw [this]; exact eqKs_keys q b
      have hl := look_of hk e r
      cases rk with
      | tup hb rb =>
        have ex := rp_keys rb q
        subst ex
        cases z : lookD es (.tup ds) with
        | none => rw [z] at hl; exact .inr ⟨_, ks, _, h, rfl, vw_tup hb, hl.symm⟩
        | some d =>
          rw [z] at hl
          obtain ⟨v, e1, e2⟩ := hl
          exact ⟨v, .inr ⟨_, ks, _, h, rfl, vw_tup hb, e1.symm⟩, e2⟩
  | _ => cases hf
theorem dget_of {mg : Gm} {H : Hp} {G : Vw} {t : Nat} {es : List (D × D)} {a : Addr} {k : D} {y : V} (le : VEx G (vw H)) (rd : Rp mg G (.dic t es) (.ref a)) (rk : Rp mg (vw H) k y) (hf : keyFit t k = true) : Got mg G H a y (lookD es k) := by
  cases rd with
  | dicK h e r => exact gotK (vw_dK (le _ _ h)) e r rk hf
  | dicT h e r => exact gotT (vw_dT (le _ _ h)) e r rk hf
  | dicN h n e r => cases k <;> cases hf
theorem dget_ow {mg : Gm} {H : Hp} {M : Addr → Bool} {es : List (D × D)} {a : Addr} {k : D} {y : V} (rk : Rp mg (vw H) k y) : ∀ {t : Nat}, OwOk mg M H a (.dic t es) → keyFit t k = true → Got mg (Sh M (vw H)) H a y (lookD es k)
  | 0, ⟨kvs, h, e, r⟩, hf => gotK (.of h) e r rk hf
  | 1, ⟨kvs, h, e, r⟩, hf => gotT (.of h) e r rk hf
  | 2, _, hf => by cases k <;> cases hf
  | _ + 3, h, _ => h.elim

def seqGet (ds : List D) (i : Int) : Res D := match atI ds i with
  | some d => .ok d
  | none => .bad
def strGet (z : Str) (i : Int) : Res D := if z.length ≤ sizeLine then (match atI z.cps.toList i with | some c => .ok (.str ⟨#[c]⟩) | none => .bad) else .bad
def getD : D → D → Res D
  | .lst ds, .int i => seqGet ds i
  | .scr ns, .int i => seqGet (ns.map .int) i
  | .tup ds, .int i => seqGet ds i
  | .str z, .int i => strGet z i
  | .dic t es, k => if keyFit t k = true then (match lookD es k with | some d => .ok d | none => .bad) else .bad
  | _, _ => .bad
theorem atI_rp {mg : Gm} {G : Vw} {ds : List D} {vs : List V} {i : Int} {d : D} (r : RpL mg G ds vs) (h : atI ds i = some d) : ∃ v, atI vs i = some v ∧ Rp mg G d v := by
  unfold atI at h ⊢
  rw [r.length] at h
  cases q : ixN vs.length i with
  | none => rw [q] at h; cases h
  | some j => rw [q] at h; exact r.get h
theorem rpl_ints {mg : Gm} {G : Vw} : ∀ ns : List Int, RpL mg G (ns.map D.int) (ns.map V.int)
  | [] => .nil
  | n :: ns => .cons (.int n) (rpl_ints ns)
theorem pe_or {X : Cx} {e : Expr} {t u : TE} (h1 : PE X e t) (h2 : PE X e u) : PE X e (fun σ H Q => t σ H Q ∨ u σ H Q) :=
  ⟨fun pins s σ H Q I h => h.elim (h1.run pins s σ H Q I) (h2.run pins s σ H Q I)⟩
def isDic : D → Bool
  | .dic _ _ => true
  | _ => false
section
variable {X : Cx} {W : WX} {fl fla flb flc : Bool} {e a b c : Expr} {es : List Expr} {pos : Pos} {φ φa φb φc : Env → Res D}
theorem seq_read {M : Addr → Bool} {H : Hp} {σ : L2.St} {Q : VK} {d k : D} {v w : V} (nd : isDic d = false) (rd : Rp (gm X) (vis fl M (vw H)) d v) (rk : Rp (gm X) (vis flb M (vw H)) k w) (h : PostE X W fl M σ H Q (getD d k)) : rIx X.K v w H Q := by
  cases rd <;> first | (cases nd; done) | skip
  all_goals (cases rk <;> first | exact h.elim | skip)
  case str.int z i =>
    obtain ⟨hs, h⟩ := PostE.ite h
    cases q : atI z.cps.toList i with
    | none => rw [q] at h; exact h.elim
    | some c => rw [q] at h; exact .inr (.inr ⟨z, i, c, rfl, rfl, hs, q, h _ H (Ext.refl H) (.str _)⟩)
  case scr.int a ns ha i =>
    have h' : PostE X W fl M σ H Q (seqGet (ns.map .int) i) := h
    unfold seqGet at h'
    cases q : atI (ns.map D.int) i with
    | none => rw [q] at h'; exact h'.elim
    | some d =>
      rw [q] at h'
      obtain ⟨v, q1, r1⟩ := atI_rp (mg := gm X) (G := vis fl M (vw H)) (rpl_ints ns) q
      exact .inl ⟨a, _, i, v, rfl, rfl, (ha.mono (vis_le fl M _)).sq, q1, h' _ H (Ext.refl H) r1⟩
  case tup.int a xs ds ha ra i =>
    have h' : PostE X W fl M σ H Q (seqGet ds i) := h
    unfold seqGet at h'
    cases q : atI ds i with
    | none => rw [q] at h'; exact h'.elim
    | some d =>
      rw [q] at h'
      obtain ⟨v, q1, r1⟩ := atI_rp ra q
      exact .inr (.inl ⟨a, xs, i, v, rfl, rfl, .inl (.inl (vw_tup (vis_get ha))), q1, h' _ H (Ext.refl H) r1⟩)
  case lst.int a xs ds ha ra i =>
    have h' : PostE X W fl M σ H Q (seqGet ds i) := h
    unfold seqGet at h'
    cases q : atI ds i with
    | none => rw [q] at h'; exact h'.elim
    | some d =>
      rw [q] at h'
      obtain ⟨v, q1, r1⟩ := atI_rp ra q
      exact .inl ⟨a, xs, i, v, rfl, rfl, .inl (vw_lst (vis_get ha)), q1, h' _ H (Ext.refl H) r1⟩
theorem dic_read {M : Addr → Bool} {H : Hp} {σ : L2.St} {Q : VK} {t : Nat} {es : List (D × D)} {k : D} {v w : V} (rd : Rp (gm X) (vis fl M (vw H)) (.dic t es) v) (rk : Rp (gm X) (vis flb M (vw H)) k w) (h : PostE X W fl M σ H Q (getD (.dic t es) k)) :
    ∃ a x, v = .ref a ∧ DGet H a w (some x) ∧ Q x H := by
  have e1 : getD (.dic t es) k = if keyFit t k = true then (match lookD es k with | some d => .ok d | none => .bad) else .bad := by cases k <;> rfl
  rw [e1] at h
  obtain ⟨hs, h⟩ := PostE.ite h
  have hr : ∃ a, v = .ref a := by cases rd <;> exact ⟨_, rfl⟩
  obtain ⟨a, rfl⟩ := hr
  have hl := dget_of (vis_le fl M (vw H)) rd (rk.mono (vis_le flb M _)) hs
  cases q : lookD es k with
  | none => rw [q] at h; exact h.elim
  | some d =>
    rw [q] at h hl
    obtain ⟨x, g, r⟩ := hl
    exact ⟨a, x, rfl, g, h x H (Ext.refl H) r⟩
theorem ve_ix (hu : X.A.units + 1 < cLine) (ha : VE X W fl a φa) (hb : VE X W flb b φb) (hs : PlainIx b := by exact fun _ _ => rfl) (hs2 : NoSl b := by exact fun _ _ => rfl) : VE X W fl (.Subscript a b pos) (op2 getD φa φb) := by
  obtain ⟨ta, pa, ra⟩ := ha
  obtain ⟨tb, pb, rb⟩ := hb
  refine ⟨_, pe_or (pe_ix ix_seq pa pb hs) (pe_dget hu pa pb hs2), fun H0 M0 M H σ env Q g h => ?_⟩
  by_cases hd : ∃ t es, φa env = .ok (.dic t es)
  · obtain ⟨t, es, hd⟩ := hd
    refine .inr ?_
    have h' : PostE X W fl M σ H Q ((Res.ok (.dic t es)).bind fun d => (φb env).bind fun e => getD d e) := by
      have : op2 getD φa φb env = (φa env).bind fun d => (φb env).bind fun e => getD d e := rfl
      rw [this, hd] at h; exact h
    refine ra H0 M0 M H σ env _ g ?_
    rw [hd]
    intro v H1 e1 r1
    refine rb H0 M0 M H1 σ env _ (g.mono e1) (PostE.seq (PostE.mono h' e1) fun d2 v2 H2 e2 r2 h2 => ?_)
    exact dic_read (r1.mono (vis_mono e2.v)) r2 h2
  · refine .inl ?_
    have h0 : PostE X W fl M σ H Q ((φa env).bind fun d => (φb env).bind fun e => getD d e) := h
    refine ra H0 M0 M H σ env _ g ?_
    cases q : φa env with
    | ok d =>
      rw [q] at h0
      intro v H1 e1 r1
      refine rb H0 M0 M H1 σ env _ (g.mono e1) (PostE.seq (PostE.mono h0 e1) fun d2 v2 H2 e2 r2 h2 => ?_)
      refine seq_read ?_ (r1.mono (vis_mono e2.v)) r2 h2
      cases d <;> first | rfl | exact absurd ⟨_, _, q⟩ hd
    | exc c fs => rw [q] at h0; exact h0
    | bad => rw [q] at h0; exact h0
def cutD (xs : List D) (lo hi : Option Int) : List D := (xs.drop (HT.sIx xs.length 0 lo)).take (HT.sIx xs.length xs.length hi - HT.sIx xs.length 0 lo)
def sliceD : D → Option Int → Option Int → Res D
  | .str z, lo, hi => if z.length ≤ sizeLine then .ok (.str (cutS z lo hi)) else .bad
  | .tup xs, lo, hi => .ok (.tup (cutD xs lo hi))
  | .lst xs, lo, hi => .ok (.lst (cutD xs lo hi))
  | _, _, _ => .bad
def VO (X : Cx) (W : WX) (e : Option Expr) (φ : Env → Res (Option Int)) : Prop :=
  ∃ t : TO, PO X e t ∧ ∀ (H0 : Hp) (M0 M : Addr → Bool) (H : Hp) (σ : L2.St) (env : Env) (Q : Option Int → Hp → Prop), Good (gm X) H0 M0 M H σ env → PostT X W M σ H Q (φ env) → t σ H Q
def noO (_ : Env) : Res (Option Int) := .ok none
def toI : D → Res (Option Int)
  | .int i => .ok (some i)
  | _ => .bad
def someO (φ : Env → Res D) (env : Env) : Res (Option Int) := (φ env).bind toI
theorem vo_none : VO X W none noO := ⟨_, po_none, fun H0 M0 M H σ env Q g h => h H (Ext.refl H)⟩
theorem vo_some (h : VE X W fl e φ) : VO X W (some e) (someO φ) := by
  obtain ⟨t, p, r⟩ := h
  refine ⟨_, po_some p, fun H0 M0 M H σ env Q g h => ?_⟩
  refine r H0 M0 M H σ env _ g (PostT.seq h fun d v H1 e1 r1 h1 => ?_)
  cases d with
  | int i => cases r1; exact ⟨i, rfl, h1 H1 (Ext.refl _)⟩
  | _ => exact h1.elim
def slE (φ : Env → Res D) (ml mh : Env → Res (Option Int)) (env : Env) : Res D := (φ env).bind fun d => (ml env).bind fun l => (mh env).bind fun u => sliceD d l u
theorem cutD_rp {mg : Gm} {G : Vw} {ds : List D} {vs : List V} (r : RpL mg G ds vs) (lo hi : Option Int) : RpL mg G (cutD ds lo hi) (cutV vs lo hi) := by
  unfold cutD cutV
  rw [r.length]
  exact (r.drop _).take _
theorem cutV_whole {xs : List V} {lo hi : Option Int} (h : HT.sIx xs.length 0 lo = 0 ∧ HT.sIx xs.length xs.length hi = xs.length) : cutV xs lo hi = xs := by
  unfold cutV
  rw [h.1, h.2]
  simp
theorem ve_sl {lo hi : Option Expr} {p2 : Pos} {ml mh : Env → Res (Option Int)} (he : VE X W fl e φ) (hl : VO X W lo ml) (hh : VO X W hi mh) : VE X W fl (.Subscript e (.Slice lo hi none p2) pos) (slE φ ml mh) := by
  obtain ⟨t, p, r⟩ := he
  obtain ⟨tl, pl, rl⟩ := hl
  obtain ⟨th, ph, rh⟩ := hh
  refine ⟨_, pe_slice (sl_str.or (sl_tupA.or sl_list)) p pl ph, fun H0 M0 M H σ env Q g h => ?_⟩
  refine r H0 M0 M H σ env _ g (PostE.seq h fun d v H1 e1 r1 h1 => ?_)
  refine rl H0 M0 M H1 σ env _ (g.mono e1) (PostE.tst h1 fun l H2 e2 h2 => ?_)
  refine rh H0 M0 M H2 σ env _ ((g.mono e1).mono e2) (PostE.tst h2 fun u H3 e3 h3 => ?_)
  have m := ((g.ok.mono e1).mono e2).mono e3
  have r3 := r1.mono (vis_mono (e2.trans e3).v)
  cases r3 <;> first | exact h3.elim | skip
  case str z =>
    obtain ⟨hs, h3⟩ := PostE.ite h3
    exact .inl ⟨z, rfl, hs, h3 _ H3 (Ext.refl _) (.str _)⟩
  case tup a xs ds ha ra =>
    refine .inr (.inl ⟨a, xs, rfl, .inl (.inl (vw_tup (vis_get ha))), fun hw => ?_, fun _ q hq => ?_⟩)
    · refine h3 _ H3 (Ext.refl _) (.tup ha ?_)
      have := cutD_rp ra l u
      rw [cutV_whole hw] at this
      exact this
    · exact h3 _ _ (Ext.new hq) (rp_newT m hq (cutD_rp ra l u))
  case lst a xs ds ha ra =>
    exact .inr (.inr ⟨a, xs, rfl, .inl (vw_lst (vis_get ha)), fun q hq => h3 _ _ (Ext.new hq) (rp_newL m hq (cutD_rp ra l u))⟩)
theorem ve_ixo (i : Nat) {x : Str} {p : Pos} (hu : X.A.units + 1 < cLine) (hb : VE X W flb b φb) (hs : PlainIx b := by exact fun _ _ => rfl) (hs2 : NoSl b := by exact fun _ _ => rfl)
    (hN : X.N[i]? = some x := by rfl) (hv : Vis X.env.scope x := by first | exact Or.inl rfl | exact Or.inr (Or.inl rfl) | exact Or.inr (Or.inr rfl)) (hd : (x == ("__debug__" : Str)) = false := by decide)
    (hcd : (x == ("__classdict__" : Str)) = false := by decide) : VE X W fl (.Subscript (.Name x p) b pos) (op2 getD (getB i) φb) := by
  obtain ⟨tb, pb, rb⟩ := hb
  have pa : PE X (.Name x p) (tVar i) := pe_var hN hv hd hcd
  refine ⟨_, pe_or (pe_ix ix_seq pa pb hs) (pe_dget hu pa pb hs2), fun H0 M0 M H σ env Q g h => ?_⟩
  have h0 : PostE X W fl M σ H Q ((getB i env).bind fun d => (φb env).bind fun e => getD d e) := h
  unfold getB at h0
  cases q : env[i]? with
  | none => rw [q] at h0; exact h0.elim
  | some s =>
    rw [q] at h0
    cases s with
    | no => exact h0.elim
    | sh d =>
      obtain ⟨v, e, r⟩ := g.sl i _ q
      by_cases hd : isDic d = true
      · cases d <;> first | (cases hd; done) | skip
        refine .inr ⟨v, e, ?_⟩
        exact rb H0 M0 M H σ env _ g (PostE.seq h0 fun d2 v2 H2 e2 r2 h2 => dic_read ((r.mono (Sh_vis fl M _)).mono (vis_mono e2.v)) r2 h2)
      · refine .inl ⟨v, e, ?_⟩
        exact rb H0 M0 M H σ env _ g (PostE.seq h0 fun d2 v2 H2 e2 r2 h2 => seq_read (by simpa using hd) ((r.mono (Sh_vis fl M _)).mono (vis_mono e2.v)) r2 h2)
    | ow d =>
      obtain ⟨pa', e, mm, m0, r⟩ := g.sl i _ q
      cases d with
      | lst ds =>
        obtain ⟨xs, hx, rx⟩ := r
        refine .inl ⟨_, e, ?_⟩
        refine rb H0 M0 M H σ env _ g (PostE.seq h0 fun d2 v2 H2 e2 r2 h2 => ?_)
        cases r2 <;> first | exact h2.elim | skip
        rename_i j
        have h' : PostE X W fl M σ H2 Q (seqGet ds j) := h2
        unfold seqGet at h'
        cases qj : atI ds j with
        | none => rw [qj] at h'; exact h'.elim
        | some d =>
          rw [qj] at h'
          obtain ⟨v, q1, r1⟩ := atI_rp (rx.mono (Sh_mono e2.v)) qj
          exact .inl ⟨pa', xs, j, v, rfl, rfl, SqL.of (e2 _ _ hx), q1, h' _ H2 (Ext.refl _) (r1.mono (Sh_vis fl M _))⟩
      | dic t es =>
        refine .inr ⟨_, e, ?_⟩
        refine rb H0 M0 M H σ env _ g (PostE.seq h0 fun d2 v2 H2 e2 r2 h2 => ?_)
        have e1 : getD (.dic t es) d2 = if keyFit t d2 = true then (match lookD es d2 with | some d => .ok d | none => .bad) else .bad := by cases d2 <;> rfl
        rw [e1] at h2
        obtain ⟨hs, h2⟩ := PostE.ite h2
        have ow2 := OwOk.mono e2 r
        have hl := dget_ow (r2.mono (vis_le flb M _)) ow2 hs
        cases z : lookD es d2 with
        | none => rw [z] at h2; exact h2.elim
        | some d =>
          rw [z] at h2 hl
          obtain ⟨v, g1, r1⟩ := hl
          exact ⟨pa', v, rfl, g1, h2 v H2 (Ext.refl _) (r1.mono (Sh_vis fl M _))⟩
      | ins c gs =>
        refine .inl ⟨_, e, ?_⟩
        refine rb H0 M0 M H σ env _ g (PostE.seq h0 fun d2 v2 H2 e2 r2 h2 => ?_)
        cases d2 <;> exact h2.elim
      | sel x c gs =>
        refine .inl ⟨_, e, ?_⟩
        refine rb H0 M0 M H σ env _ g (PostE.seq h0 fun d2 v2 H2 e2 r2 h2 => ?_)
        cases d2 <;> exact h2.elim
      | _ => exact r.elim
end
end VL

set_option maxRecDepth 100000
set_option maxHeartbeats 2000000
namespace VL
open PySem L2

def nilA (_ : Env) : Res (List D) := .ok []
def consA (φ : Env → Res D) (φs : Env → Res (List D)) (env : Env) : Res (List D) := (φ env).bind fun d => (φs env).bind fun ds => .ok (d :: ds)
def tupD (ds : List D) : Res D := if ds.length ≤ sizeLine then .ok (.tup ds) else .bad
def lstD (ds : List D) : Res D := if ds.length ≤ sizeLine then .ok (.lst ds) else .bad
def aE (f : List D → Res D) (φs : Env → Res (List D)) (env : Env) : Res D := (φs env).bind f
section
variable {X : Cx} {W : WX} {fl fla flb flc : Bool} {e a b c : Expr} {es : List Expr} {pos : Pos} {φ φa φb φc : Env → Res D} {φs : Env → Res (List D)}
theorem va_nil : VA X W fl [] nilA := ⟨_, pa_nil, fun H0 M0 M H σ env Q g h => h [] H (Ext.refl H) .nil⟩
theorem va_cons (ha : VE X W fl e φ) (hr : VA X W fl es φs) (hs : starEach (e :: es) X.env = (false, eval e X.env) :: starEach es X.env := by rfl) : VA X W fl (e :: es) (consA φ φs) := by
  obtain ⟨t, p, r⟩ := ha
  obtain ⟨t', p', r'⟩ := hr
  refine ⟨_, pa_cons p p' hs, fun H0 M0 M H σ env Q g h => ?_⟩
  refine r H0 M0 M H σ env _ g (PostA.head h fun d v H1 e1 r1 h1 => ?_)
  refine r' H0 M0 M H1 σ env _ (g.mono e1) (PostA.tail h1 fun ds vs H2 e2 r2 h2 => ?_)
  exact h2 _ H2 (Ext.refl _) (.cons (r1.mono (vis_mono e2.v)) r2)
theorem ve_tup {k} (h : VA X W fl es φs) : VE X W fl (.Tuple es k pos) (aE tupD φs) := by
  obtain ⟨t, p, r⟩ := h
  refine ⟨_, pe_tup p, fun H0 M0 M H σ env Q g h => ?_⟩
  refine r H0 M0 M H σ env _ g (PostE.args h fun ds vs H1 e1 r1 h1 => ?_)
  obtain ⟨hs, h1⟩ := PostE.ite h1
  rw [r1.length] at hs
  exact ⟨hs, fun q hq => h1 _ _ (Ext.new hq) (rp_newT (g.ok.mono e1) hq r1)⟩
theorem ve_lst (h : VA X W fl es φs) : VE X W fl (.List es pos) (aE lstD φs) := by
  obtain ⟨t, p, r⟩ := h
  refine ⟨_, pe_lst p, fun H0 M0 M H σ env Q g h => ?_⟩
  refine r H0 M0 M H σ env _ g (PostE.args h fun ds vs H1 e1 r1 h1 => ?_)
  obtain ⟨hs, h1⟩ := PostE.ite h1
  rw [r1.length] at hs
  exact ⟨hs, fun q hq => h1 _ _ (Ext.new hq) (rp_newL (g.ok.mono e1) hq r1)⟩

def CallF (X : Cx) (W : WX) (fla fl : Bool) (r : List V → Hp → VK → Prop) (f : List D → Res D) : Prop :=
  ∀ (M : Addr → Bool) (H : Hp) (σ : L2.St) (Q : VK) (ds : List D) (vs : List V), MOk M H → RpL (gm X) (vis fla M (vw H)) ds vs → PostE X W fl M σ H Q (f ds) → r vs H Q
theorem ve_bi {x : Str} {id : String} {r : List V → Hp → VK → Prop} {f : List D → Res D} {p : Pos} (hc : CallR X (.builtin id) r) (hf : CallF X W fla fl r f) (hm : X.mg x = none) (hv : bootBuiltins x = some (.builtin id)) (ha : VA X W fla (e :: es) φs)
    (hg : Gl X x := by rfl) (hn : x ≠ "__name__" := by decide) (hdb : (x == ("__debug__" : Str)) = false := by decide) (he : starEach (e :: es) X.env = (false, eval e X.env) :: starEach es X.env := by rfl) (hpl : (backTo pos (starEach es X.env)).any (·.1) = false := by rfl) :
    VE X W fl (.Call (.Name x p) (e :: es) [] pos) (aE f φs) := by
  obtain ⟨t, pt, r'⟩ := ha
  refine ⟨_, pe_callB hc hg hm hv pt hn hdb he hpl, fun H0 M0 M H σ env Q g h => ?_⟩
  exact r' H0 M0 M H σ env _ g (PostE.args h fun ds vs H1 e1 r1 h1 => hf M H1 σ Q ds vs (g.ok.mono e1) r1 h1)
theorem ve_ty {x : Str} {T : String} {r : List V → Hp → VK → Prop} {f : List D → Res D} {p : Pos} (hc : CallR X (.type T) r) (hf : CallF X W fla fl r f) (hm : X.mg x = none) (hv : bootBuiltins x = some (.type T)) (ha : VA X W fla (e :: es) φs)
    (hg : Gl X x := by rfl) (hn : x ≠ "__name__" := by decide) (hdb : (x == ("__debug__" : Str)) = false := by decide) (he : starEach (e :: es) X.env = (false, eval e X.env) :: starEach es X.env := by rfl) (hpl : (backTo pos (starEach es X.env)).any (·.1) = false := by rfl) :
    VE X W fl (.Call (.Name x p) (e :: es) [] pos) (aE f φs) := by
  obtain ⟨t, pt, r'⟩ := ha
  refine ⟨_, pe_callTy hc hg hm hv pt hn hdb he hpl, fun H0 M0 M H σ env Q g h => ?_⟩
  exact r' H0 M0 M H σ env _ g (PostE.args h fun ds vs H1 e1 r1 h1 => hf M H1 σ Q ds vs (g.ok.mono e1) r1 h1)
def lenF : List D → Res D
  | [.str s] => if s.length ≤ sizeLine then .ok (.int s.length) else .bad
  | [.lst ds] => .ok (.int ds.length)
  | [.scr ns] => .ok (.int ns.length)
  | [.tup ds] => .ok (.int ds.length)
  | _ => .bad
theorem cf_len : CallF X W fla fl (fun xs H Q => ∃ x n, xs = [x] ∧ LenV X.K x H n ∧ Q (.int n) H) lenF := by
  intro M H σ Q ds vs m r h
  cases r with
  | nil => exact h.elim
  | cons r t =>
    cases t with
    | cons _ _ => cases r <;> exact h.elim
    | nil =>
      cases r <;> first | exact h.elim | skip
      case str s =>
        obtain ⟨hs, h⟩ := PostE.ite h
        exact ⟨_, s.length, rfl, ⟨hs, rfl⟩, h _ H (Ext.refl H) (.int _)⟩
      case scr a ns ha =>
        refine ⟨_, (ns.map V.int).length, rfl, .inl ⟨_, (ha.mono (vis_le fla M _)).sq, rfl⟩, ?_⟩
        have h' := h (.int ns.length) H (Ext.refl H) (.int _)
        rw [List.length_map]
        exact h'
      case tup a xs ds ha ra =>
        refine ⟨_, xs.length, rfl, .inr ⟨xs, .inl (.inl (vw_tup (vis_get ha))), rfl⟩, ?_⟩
        have h' := h (.int ds.length) H (Ext.refl H) (.int _)
        rw [ra.length] at h'
        exact h'
      case lst a xs ds ha ra =>
        refine ⟨_, xs.length, rfl, .inl ⟨xs, .inl (vw_lst (vis_get ha)), rfl⟩, ?_⟩
        have h' := h (.int ds.length) H (Ext.refl H) (.int _)
        rw [ra.length] at h'
        exact h'
def intF : List D → Res D
  | [.int i] => .ok (.int i)
  | [.bl b] => .ok (.int (if b = true then 1 else 0))
  | _ => .bad
theorem cf_int : CallF X W fla fl (fun xs H Q => (∃ i, xs = [.int i] ∧ Q (.int i) H) ∨ ∃ k, xs = [.bl k] ∧ Q (.int (if k then 1 else 0)) H) intF := by
  intro M H σ Q ds vs m r h
  cases r with
  | nil => exact h.elim
  | cons r t =>
    cases t with
    | cons _ _ => cases r <;> exact h.elim
    | nil =>
      cases r <;> first | exact h.elim | skip
      · exact .inr ⟨_, rfl, h _ H (Ext.refl H) (.int _)⟩
      · exact .inl ⟨_, rfl, h _ H (Ext.refl H) (.int _)⟩
def listF : List D → Res D
  | [.lst ds] => .ok (.lst ds)
  | [.tup ds] => .ok (.lst ds)
  | _ => .bad
theorem cf_list : CallF X W fl fl (fun xs H Q => ∃ p ys, xs = [.ref p] ∧ (SqL X.K H p ys ∨ SqT X.K H p ys) ∧ ∀ l, H l = none → Q (.ref l) (upd H l (.lst ys))) listF := by
  intro M H σ Q ds vs m r h
  cases r with
  | nil => exact h.elim
  | cons r t =>
    cases t with
    | cons _ _ => cases r <;> exact h.elim
    | nil =>
      cases r <;> first | exact h.elim | skip
      case tup a xs ds ha ra => exact ⟨a, xs, rfl, .inr (.inl (.inl (vw_tup (vis_get ha)))), fun l hl => h _ _ (Ext.new hl) (rp_newL m hl ra)⟩
      case lst a xs ds ha ra => exact ⟨a, xs, rfl, .inl (.inl (vw_lst (vis_get ha))), fun l hl => h _ _ (Ext.new hl) (rp_newL m hl ra)⟩
def tyName : D → Option String
  | .non => some "NoneType"
  | .bl _ => some "bool"
  | .int _ => some "int"
  | .str _ => some "str"
  | .tup _ => some "tuple"
  | .lst _ => some "list"
  | .dic 0 _ => some "dict"
  | _ => none
def isT (T : String) (d : D) : Res D := match tyName d with
  | some S => (match kitB S T with | some b => .ok (.bl b) | none => .bad)
  | none => .bad
theorem ty_of {H : Hp} {d : D} {v : V} {S : String} (r : Rp (gm X) (vw H) d v) (h : tyName d = some S) : TyX X.K H v (.type S) := by
  cases r <;> first | (cases h; done) | skip
  case non => cases h; exact .base .non
  case bl b => cases h; exact .base (.bl b)
  case int b => cases h; exact .base (.int b)
  case str b => cases h; exact .base (.str b)
  case tup a xs ds ha ra => cases h; exact .base (.tup (vw_tup ha))
  case lst a xs ds ha ra =>
    cases h
    rcases vw_lst ha with q | ⟨o, q⟩
    · exact .base (.lst q)
    · exact .base (.frz q)
  case dicK a kvs es ha e ra =>
    cases h
    rcases vw_dK ha with q | ⟨o, q⟩
    · exact .base (.dK q)
    · exact .fDict q
def isTE (T : String) (φ : Env → Res D) (env : Env) : Res D := (φ env).bind (isT T)
theorem ve_isT {T : String} {x : Str} {xi p : Pos} (h : VE X W fla e φ) (hmi : X.mg "isinstance" = none) (hm : X.mg x = none) (hv : bootBuiltins x = some (.type T)) (hgi : Gl X "isinstance" := by rfl) (hg : Gl X x := by rfl)
    (hn : x ≠ "__name__" := by decide) (hd : (x == ("__debug__" : Str)) = false := by decide) (hs : starEach (e :: [.Name x p]) X.env = (false, eval e X.env) :: starEach [.Name x p] X.env := by rfl)
    (hs2 : starEach ((.Name x p) :: []) X.env = (false, eval (.Name x p) X.env) :: starEach [] X.env := by rfl) (hpl : (backTo pos (starEach [.Name x p] X.env)).any (·.1) = false := by rfl) :
    VE X W fl (.Call (.Name "isinstance" xi) [e, .Name x p] [] pos) (isTE T φ) := by
  obtain ⟨t, pt, r⟩ := h
  refine ⟨_, pe_callB call_isi hgi hmi (by decide +kernel) (pa_cons pt (pa_cons (pe_bltn (v := .ty T) hg hm hv rfl hn hd) pa_nil hs2) hs) (by decide) (by decide) hs hpl, fun H0 M0 M H σ env Q g h => ?_⟩
  refine r H0 M0 M H σ env _ g (PostE.seq h fun d v H1 e1 r1 h1 => ?_)
  unfold isT at h1
  cases q : tyName d with
  | none => rw [q] at h1; exact h1.elim
  | some S =>
    rw [q] at h1
    cases z : kitB S T with
    | none =>
      have h2 : PostE X W fl M σ H1 Q (match kitB S T with | some b => .ok (.bl b) | none => .bad) := h1
      rw [z] at h2; exact h2.elim
    | some b =>
      have h2 : PostE X W fl M σ H1 Q (match kitB S T with | some b => .ok (.bl b) | none => .bad) := h1
      rw [z] at h2
      exact ⟨v, .ty T, .type S, .type T, b, rfl, .ty T, ty_of (r1.mono (vis_le fla M _)) q, kit_ty z, h2 _ H1 (Ext.refl _) (.bl b)⟩
end

def PostF (mg : Gm) (M : Addr → Bool) (H : Hp) (Q : VK) (E : XK) : Res D → Prop
  | .ok d => ∀ v H', Ext H H' → Rp mg (Sh M (vw H')) d v → Q v H'
  | .exc c fs => ∀ cls dd H', Ext H H' → RpX mg (Sh M (vw H')) c fs cls dd → E cls dd H'
  | .bad => False
def spV (mg : Gm) (n : Nat) (F : List D → Res D) : Sp := fun vs H Q E => vs.length = n ∧ ∃ (M : Addr → Bool) (ds : List D), MOk M H ∧ RpL mg (Sh M (vw H)) ds vs ∧ PostF mg M H Q E (F ds)
def immuts (fs : List (Str × D)) : Bool := fs.all fun p => immut p.2
def guardX : Res D → Res D
  | .exc c fs => if immuts fs = true then .exc c fs else .bad
  | r => r
section
variable {X : Cx} {W : WX} {fl fla flb flc : Bool} {e a b c : Expr} {es : List Expr} {pos : Pos} {φ φa φb φc : Env → Res D} {φs : Env → Res (List D)}
variable {k n : Nat} {f : Addr} {fd : FuncData} {ps : List Str} {F : List D → Res D} {x : Str} {p : Pos}
theorem ve_call (tk : L2N.Takes X W) (hF : FnOk X.prog X.w X.K X.mg X.base (L2N.CX X.prog X.w) k f fd ps (spV (gm X) n F)) (hr : Room k X.A) (hm : X.mg x = some (.ref f)) (hk : PySem.W.keepIn X.K (.ref f) = true) (hb : Binds X.K fd ps [])
    (ha : VA X W true (e :: es) φs) (hn : (e :: es).length = n) (hl : ∀ env ds, φs env = .ok ds → ds.length = n) (hg : Gl X x := by rfl) (hdb : (x == ("__debug__" : Str)) = false := by decide)
    (he : starEach (e :: es) X.env = (false, eval e X.env) :: starEach es X.env := by rfl) (hpl : (backTo pos (starEach es X.env)).any (·.1) = false := by rfl) : VE X W fl (.Call (.Name x p) (e :: es) [] pos) (aE F φs) := by
  obtain ⟨t, pt, r⟩ := ha
  refine ⟨_, pe_callS hF hr hg hm hk hb (fun σ => L2N.passAt tk σ) pt hdb he hpl, fun H0 M0 M H σ env Q g h => ?_⟩
  have h0 : PostE X W fl M σ H Q ((φs env).bind F) := h
  refine r H0 M0 M H σ env _ g ?_
  cases q : φs env with
  | ok ds =>
    rw [q] at h0
    intro vs H1 e1 r1
    refine ⟨(r1.length.symm).trans (hl env ds q), M, ds, g.ok.mono e1, r1, ?_⟩
    have h1 : PostE X W fl M σ H1 Q (F ds) := PostE.mono h0 e1
    cases z : F ds with
    | ok d => rw [z] at h1; exact fun v H2 e2 r2 => h1 v H2 e2 (r2.mono (Sh_vis fl M _))
    | exc c fs => rw [z] at h1; exact fun cls dd H2 e2 r2 => h1 cls dd H2 e2 r2
    | bad => rw [z] at h1; exact h1
  | exc c fs => rw [q] at h0; exact h0
  | bad => rw [q] at h0; exact h0
end
end VL

set_option maxRecDepth 100000
set_option maxHeartbeats 2000000
namespace VL
open PySem L2

inductive SRes where
  | nx (env : Env) | rt (d : D) | bk (env : Env) | ct (env : Env) | xc (c : Str) (fs : List (Str × D)) (env : Env) | bad | ro (d : D)
def addM (M : Addr → Bool) (p : Addr) : Addr → Bool := fun a => M a || decide (a = p)
def PostS (X : Cx) (W : WX) (H0 : Hp) (M0 M : Addr → Bool) (H : Hp) (D : Ends) : SRes → Prop
  | .nx env => ∀ M' H' σ', Good (gm X) H0 M0 M' H' σ' env → VEx (Sh M (vw H)) (Sh M' (vw H')) → D.nx σ' H'
  | .bk env => ∀ M' H' σ', Good (gm X) H0 M0 M' H' σ' env → VEx (Sh M (vw H)) (Sh M' (vw H')) → D.bk σ' H'
  | .ct env => ∀ M' H' σ', Good (gm X) H0 M0 M' H' σ' env → VEx (Sh M (vw H)) (Sh M' (vw H')) → D.ct σ' H'
  | .rt d => ∀ v H', Ext H0 H' → Rp (gm X) (Sh M0 (vw H')) d v → D.rt v H'
  | .xc c fs env => ∀ M' H' σ' cls dd, Good (gm X) H0 M0 M' H' σ' env → VEx (Sh M (vw H)) (Sh M' (vw H')) → RpX (gm X) (Sh M' (vw H')) c fs cls dd → W cls dd σ' H'
  | .bad => False
  | .ro d => ∀ p H', Ext H0 H' → H0 p = none → OwOk (gm X) (addM M0 p) H' p d → D.rt (.ref p) H'
def VS (X : Cx) (W : WX) (st : Stmt) (ψ : Env → SRes) : Prop :=
  ∃ t : TS, PS X st t ∧ ∀ (H0 : Hp) (M0 M : Addr → Bool) (H : Hp) (σ : L2.St) (env : Env) (D : Ends), Good (gm X) H0 M0 M H σ env → PostS X W H0 M0 M H D (ψ env) → t D σ H
def VB (X : Cx) (W : WX) (st : List Stmt) (ψ : Env → SRes) : Prop :=
  ∃ t : TS, PSs X st t ∧ ∀ (H0 : Hp) (M0 M : Addr → Bool) (H : Hp) (σ : L2.St) (env : Env) (D : Ends), Good (gm X) H0 M0 M H σ env → PostS X W H0 M0 M H D (ψ env) → t D σ H
def VG (X : Cx) (tg : Expr) (γ : D → Env → Option Env) : Prop :=
  ∃ g : TG, PG X tg g ∧ ∀ (H0 : Hp) (M0 M : Addr → Bool) (H : Hp) (σ : L2.St) (env env' : Env) (d : D) (v : V) (Q : L2.St → Hp → Prop), Good (gm X) H0 M0 M H σ env → Rp (gm X) (Sh M (vw H)) d v → γ d env = some env' → (∀ σ', Good (gm X) H0 M0 M H σ' env' → Q σ' H) → g v σ H Q
def VGs (X : Cx) (tg : List Expr) (γ : List D → Env → Option Env) : Prop :=
  ∃ g : TGs, PGs X tg g ∧ ∀ (H0 : Hp) (M0 M : Addr → Bool) (H : Hp) (σ : L2.St) (env env' : Env) (d : List D) (v : List V) (Q : L2.St → Hp → Prop), Good (gm X) H0 M0 M H σ env → RpL (gm X) (Sh M (vw H)) d v → γ d env = some env' → (∀ σ', Good (gm X) H0 M0 M H σ' env' → Q σ' H) → g v σ H Q

theorem addM_self {M : Addr → Bool} {p : Addr} : addM M p p = true := by unfold addM; rw [decide_eq_true rfl, Bool.or_true]
theorem addM_ne {M : Addr → Bool} {p a : Addr} (h : a ≠ p) : addM M p a = M a := by unfold addM; rw [decide_eq_false h, Bool.or_false]
section
variable {mg : Gm} {H0 H H' : Hp} {M0 M : Addr → Bool} {σ : L2.St} {env : Env}
theorem get_set_ne {α : Type} {l : List α} {i j : Nat} {x : α} (h : j ≠ i) : (l.set i x)[j]? = l[j]? := List.getElem?_set_ne (Ne.symm h)
theorem isOw_sh {i : Nat} {s : Sl} (hs : isOw (some s) = false) : isOw (env.set i s)[i]? = false := by
  by_cases h : i < env.length
  · rw [List.getElem?_set_self h]; exact hs
  · rw [List.getElem?_eq_none (by rw [List.length_set]; omega)]; rfl
theorem Good.set (g : Good mg H0 M0 M H σ env) {i : Nat} {d : D} {v : V} (r : Rp mg (Sh M (vw H)) d v) : Good mg H0 M0 M H (σ.set i (some v)) (env.set i (.sh d)) where
  len := by rw [List.length_set, List.length_set]; exact g.len
  ok := g.ok
  sub := g.sub
  new := g.new
  ok0 := g.ok0
  ex := g.ex
  sl := fun j s h => by
    by_cases e : j = i
    · subst e
      have hj : j < env.length := by
        have := (List.getElem?_eq_some_iff.mp h).1
        rw [List.length_set] at this; exact this
      rw [List.getElem?_set_self hj] at h
      cases h
      exact ⟨v, List.getElem?_set_self (by rw [g.len]; exact hj), r⟩
    · rw [get_set_ne e] at h ⊢
      exact g.sl j s h
  inj := fun j k p hne h1 h2 h3 => by
    by_cases e1 : j = i
    · subst e1; rw [isOw_sh rfl] at h1; cases h1
    · by_cases e2 : k = i
      · subst e2; rw [isOw_sh rfl] at h2; cases h2
      · rw [get_set_ne e1] at h1 h3
        rw [get_set_ne e2] at h2 ⊢
        exact g.inj j k p hne h1 h2 h3
theorem Good.h0 (g : Good mg H0 M0 M H σ env) {p : Addr} (hp : H p = none) : H0 p = none := g.ex.fresh hp
theorem Good.nm (g : Good mg H0 M0 M H σ env) {p : Addr} (hp : H p = none) : M p = false ∧ M0 p = false := by
  constructor
  · cases q : M p with
    | false => rfl
    | true => obtain ⟨o, e⟩ := g.ok.dom p q; rw [hp] at e; cases e
  · cases q : M0 p with
    | false => rfl
    | true => obtain ⟨o, e⟩ := g.ok0.dom p q; rw [g.h0 hp] at e; cases e
theorem OwOk.obj {p : Addr} : ∀ {d : D}, OwOk mg M H p d → ∃ o, H p = some o ∧ (∀ xs, o ≠ .tup xs) ∧ (∀ fs, o ≠ .xd fs)
  | .lst ds, ⟨xs, h, _⟩ => ⟨_, h, (fun _ z => nomatch z), (fun _ z => nomatch z)⟩
  | .dic 0 es, ⟨kvs, h, _⟩ => ⟨_, h, (fun _ z => nomatch z), (fun _ z => nomatch z)⟩
  | .dic 1 es, ⟨kvs, h, _⟩ => ⟨_, h, (fun _ z => nomatch z), (fun _ z => nomatch z)⟩
  | .dic 2 es, ⟨kvs, h, _⟩ => ⟨_, h, (fun _ z => nomatch z), (fun _ z => nomatch z)⟩
  | .dic (_ + 3) _, h => h.elim
  | .ins c gs, ⟨C, dx, fs, m, h, _⟩ => ⟨_, h, (fun _ z => nomatch z), (fun _ z => nomatch z)⟩
  | .non, h => h.elim
  | .bl _, h => h.elim
  | .int _, h => h.elim
  | .str _, h => h.elim
  | .tup _, h => h.elim
  | .scr _, h => h.elim
  | .exn _ _, h => h.elim
  | .sel x c gs, ⟨_, C, dx, fs, m, h, _⟩ => ⟨_, h, (fun _ z => nomatch z), (fun _ z => nomatch z)⟩
theorem sh_add (e : Ext H H') {p : Addr} (hp : H p = none) : VEx (Sh M (vw H)) (Sh (addM M p) (vw H')) := fun a u h => by
  obtain ⟨h1, h2⟩ := Sh_some h
  have hne : a ≠ p := fun q => by rw [q, vw_none.mpr hp] at h2; cases h2
  rw [Sh_of (by rw [addM_ne hne]; exact h1)]
  exact e.v a u h2
theorem OwOk.imp {M' : Addr → Bool} {p : Addr} (v : VEx (Sh M (vw H)) (Sh M' (vw H'))) (hp : ∀ o, H p = some o → H' p = some o) : ∀ {d : D}, OwOk mg M H p d → OwOk mg M' H' p d
  | .lst ds, ⟨xs, h, r⟩ => ⟨xs, hp _ h, r.mono v⟩
  | .dic 0 es, ⟨kvs, h, k, r⟩ => ⟨kvs, hp _ h, k, r.mono v⟩
  | .dic 1 es, ⟨kvs, h, k, r⟩ => ⟨kvs, hp _ h, k, r.mono v⟩
  | .dic 2 es, ⟨kvs, h, n, k, r⟩ => ⟨kvs, hp _ h, fun x hx => (n x hx).mono v, k, r.mono v⟩
  | .dic (_ + 3) _, h => h.elim
  | .ins c gs, ⟨C, dx, fs, m, h, k, r⟩ => ⟨C, dx, fs, m, hp _ h, k, r.mono v⟩
  | .non, h => h.elim
  | .bl _, h => h.elim
  | .int _, h => h.elim
  | .str _, h => h.elim
  | .tup _, h => h.elim
  | .scr _, h => h.elim
  | .exn _ _, h => h.elim
  | .sel x c gs, ⟨q, C, dx, fs, m, h, k, r⟩ => ⟨q, C, dx, fs, m, hp _ h, k, r.mono v⟩
theorem SlotOk.imp {M' : Addr → Bool} {v : Option (Option V)} (x : VEx (Sh M (vw H)) (Sh M' (vw H'))) (hm : ∀ p, v = some (some (.ref p)) → M p = true → M' p = true ∧ ∀ o, H p = some o → H' p = some o) :
    ∀ {s : Sl}, SlotOk mg M0 M H v s → SlotOk mg M0 M' H' v s
  | .no, _ => trivial
  | .sh d, ⟨y, h, r⟩ => ⟨y, h, r.mono x⟩
  | .ow d, ⟨p, h, m, m0, r⟩ => ⟨p, h, (hm p h m).1, m0, r.imp x (hm p h m).2⟩
theorem Good.own (g : Good mg H0 M0 M H σ env) {i : Nat} {d : D} {p : Addr} (hp : H p = none) (e : Ext H H') (r : OwOk mg (addM M p) H' p d) : Good mg H0 M0 (addM M p) H' (σ.set i (some (.ref p))) (env.set i (.ow d)) where
  len := by rw [List.length_set, List.length_set]; exact g.len
  ok := by
    obtain ⟨o, ho, n1, n2⟩ := r.obj
    have m := g.ok.mono e
    refine ⟨fun a h => ?_, fun a xs h z => ?_, fun a fs h z => ?_⟩
    · by_cases q : a = p
      · subst q; exact ⟨o, ho⟩
      · rw [addM_ne q] at h; exact m.dom a h
    · by_cases q : a = p
      · subst q; rw [ho] at z; cases z; exact n1 xs rfl
      · rw [addM_ne q] at h; exact m.tup a xs h z
    · by_cases q : a = p
      · subst q; rw [ho] at z; cases z; exact n2 fs rfl
      · rw [addM_ne q] at h; exact m.xd a fs h z
  sub := fun a h => by
    by_cases q : a = p
    · subst q; exact addM_self
    · rw [addM_ne q]; exact g.sub a h
  new := fun a h => by
    by_cases q : a = p
    · subst q; exact .inr (g.h0 hp)
    · rw [addM_ne q] at h; exact g.new a h
  ok0 := g.ok0
  ex := g.ex.trans e
  sl := fun j s h => by
    by_cases q : j = i
    · subst q
      have hj : j < env.length := by
        have := (List.getElem?_eq_some_iff.mp h).1
        rw [List.length_set] at this; exact this
      rw [List.getElem?_set_self hj] at h
      cases h
      exact ⟨p, List.getElem?_set_self (by rw [g.len]; exact hj), addM_self, (g.nm hp).2, r⟩
    · rw [get_set_ne q] at h ⊢
      refine (g.sl j s h).imp (sh_add e hp) fun a _ ha => ⟨?_, fun o ho => e a o ho⟩
      have : a ≠ p := fun z => by rw [z, (g.nm hp).1] at ha; cases ha
      rw [addM_ne this]; exact ha
  inj := fun j k a hne h1 h2 h3 h4 => by
    have key : ∀ m, m ≠ i → isOw (env.set i (.ow d))[m]? = true → (σ.set i (some (.ref p)))[m]? ≠ some (some (.ref p)) := fun m hm ho hr => by
      rw [get_set_ne hm] at ho hr
      cases q : env[m]? with
      | none => rw [q] at ho; cases ho
      | some s =>
        rw [q] at ho
        cases s with
        | ow d' =>
          obtain ⟨p', e1, m1, _⟩ := g.sl m _ q
          rw [hr] at e1
          cases e1
          rw [(g.nm hp).1] at m1; cases m1
        | no => cases ho
        | sh _ => cases ho
    have at_i : ∀ m, m = i → (σ.set i (some (.ref p)))[m]? = some (some (.ref a)) → a = p := fun m hm hr => by
      subst hm
      have hj : m < σ.length := by
        have := (List.getElem?_eq_some_iff.mp hr).1
        rw [List.length_set] at this; exact this
      rw [List.getElem?_set_self hj] at hr
      cases hr; rfl
    by_cases e1 : j = i
    · have := at_i j e1 h3
      subst this
      exact key k (fun z => hne (e1.trans z.symm)) h2 h4
    · by_cases e2 : k = i
      · have := at_i k e2 h4
        subst this
        exact key j e1 h1 h3
      · rw [get_set_ne e1] at h1 h3
        rw [get_set_ne e2] at h2 h4
        exact g.inj j k a hne h1 h2 h3 h4
theorem sh_mut {p : Addr} {o : HO} (hm : M p = true) : Sh M (vw (upd H p o)) = Sh M (vw H) := by
  funext a
  by_cases q : M a = true
  · unfold Sh; rw [if_pos q, if_pos q]
  · have hne : a ≠ p := fun z => q (z ▸ hm)
    unfold Sh; rw [if_neg q, if_neg q, vw_upd_ne hne]
theorem Good.mut (g : Good mg H0 M0 M H σ env) {i : Nat} {d0 d : D} {p : Addr} {o : HO} (hi : env[i]? = some (.ow d0)) (hv : σ[i]? = some (some (.ref p))) (r : OwOk mg M (upd H p o) p d) : Good mg H0 M0 M (upd H p o) σ (env.set i (.ow d)) := by
  obtain ⟨p', e1, mp, m0, _⟩ := g.sl i _ hi
  rw [hv] at e1
  obtain rfl : p' = p := by cases e1; rfl
  have hil : i < env.length := (List.getElem?_eq_some_iff.mp hi).1
  have ows : ∀ j, isOw (env.set i (.ow d))[j]? = isOw env[j]? := fun j => by
    by_cases q : j = i
    · subst q; rw [List.getElem?_set_self hil, hi]; rfl
    · rw [get_set_ne q]
  refine ⟨by rw [List.length_set]; exact g.len, ?_, g.sub, g.new, g.ok0, ?_, fun j s h => ?_, fun j k a hne h1 h2 h3 => ?_⟩
  · obtain ⟨o', ho, n1, n2⟩ := r.obj
    refine ⟨fun a h => ?_, fun a xs h z => ?_, fun a fs h z => ?_⟩
    · by_cases q : a = p'
      · subst q; exact ⟨_, upd_same⟩
      · rw [upd_ne q]; exact g.ok.dom a h
    · by_cases q : a = p'
      · subst q; rw [ho] at z; cases z; exact n1 xs rfl
      · rw [upd_ne q] at z; exact g.ok.tup a xs h z
    · by_cases q : a = p'
      · subst q; rw [ho] at z; cases z; exact n2 fs rfl
      · rw [upd_ne q] at z; exact g.ok.xd a fs h z
  · refine g.ex.mut ?_
    rcases g.new p' mp with z | z
    · rw [m0] at z; cases z
    · exact z
  · by_cases q : j = i
    · subst q
      rw [List.getElem?_set_self hil] at h
      cases h
      exact ⟨p', hv, mp, m0, r⟩
    · rw [get_set_ne q] at h
      cases s with
      | no => trivial
      | sh d' =>
        obtain ⟨x, e2, r2⟩ := g.sl j _ h
        exact ⟨x, e2, by rw [sh_mut mp]; exact r2⟩
      | ow d' =>
        obtain ⟨a, e2, m2, m3, r2⟩ := g.sl j _ h
        have hne : a ≠ p' := fun z => by
          subst z
          exact g.inj j i a q (by rw [h]; rfl) (by rw [hi]; rfl) e2 hv
        exact ⟨a, e2, m2, m3, r2.imp (by rw [sh_mut mp]; exact .refl _) fun o' ho' => by rw [upd_ne hne]; exact ho'⟩
  · rw [ows] at h1 h2
    exact g.inj j k a hne h1 h2 h3
def subM (M : Addr → Bool) (p : Addr) : Addr → Bool := fun a => M a && !decide (a = p)
theorem subM_ne {p a : Addr} (h : a ≠ p) : subM M p a = M a := by unfold subM; rw [decide_eq_false h]; exact Bool.and_true _
theorem subM_self {p : Addr} : subM M p p = false := by unfold subM; rw [decide_eq_true rfl]; exact Bool.and_false _
theorem sh_sub {p : Addr} : VEx (Sh M (vw H)) (Sh (subM M p) (vw H)) := fun a u h => by
  obtain ⟨h1, h2⟩ := Sh_some h
  rw [Sh_of]
  · exact h2
  · unfold subM; rw [h1]; rfl
theorem OwOk.give {p : Addr} : ∀ {d : D}, OwOk mg M H p d → Rp mg (Sh (subM M p) (vw H)) d (.ref p)
  | .lst ds, ⟨xs, h, r⟩ => .lst (by rw [Sh_of subM_self]; exact vw_of h trivial) (r.mono sh_sub)
  | .dic 0 es, ⟨kvs, h, k, r⟩ => .dicK (by rw [Sh_of subM_self]; exact vw_of h trivial) k (r.mono sh_sub)
  | .dic 1 es, ⟨kvs, h, k, r⟩ => .dicT (by rw [Sh_of subM_self]; exact vw_of h trivial) k (r.mono sh_sub)
  | .dic 2 es, ⟨kvs, h, n, k, r⟩ => .dicN (by rw [Sh_of subM_self]; exact vw_of h trivial) (fun x hx => (n x hx).mono sh_sub) k (r.mono sh_sub)
  | .dic (_ + 3) _, h => h.elim
  | .ins c gs, ⟨C, dx, fs, m, h, k, r⟩ => .ins m (by rw [Sh_of subM_self]; exact vw_of h trivial) k (r.mono sh_sub)
  | .non, h => h.elim
  | .bl _, h => h.elim
  | .int _, h => h.elim
  | .str _, h => h.elim
  | .tup _, h => h.elim
  | .scr _, h => h.elim
  | .exn _ _, h => h.elim
  | .sel x c gs, ⟨q, C, dx, fs, m, h, k, r⟩ => by
    subst q
    exact .sel m (by rw [Sh_of subM_self]; exact vw_of h trivial) k (r.mono sh_sub)
def give (i : Nat) (env : Env) : Env := match env[i]? with
  | some (.ow d) => env.set i (.sh d)
  | _ => env
theorem Good.give (g : Good mg H0 M0 M H σ env) (i : Nat) : ∃ M', Good mg H0 M0 M' H σ (VL.give i env) ∧ VEx (Sh M (vw H)) (Sh M' (vw H)) := by
  unfold VL.give
  cases q : env[i]? with
  | none => exact ⟨M, g, .refl _⟩
  | some s =>
    cases s with
    | no => exact ⟨M, g, .refl _⟩
    | sh d => exact ⟨M, g, .refl _⟩
    | ow d =>
      obtain ⟨p, hv, mp, m0, r⟩ := g.sl i _ q
      have hil : i < env.length := (List.getElem?_eq_some_iff.mp q).1
      refine ⟨subM M p, ⟨by rw [List.length_set]; exact g.len, ?_, fun a h => ?_, fun a h => ?_, g.ok0, g.ex, fun j s h => ?_, fun j k a hne h1 h2 h3 => ?_⟩, sh_sub⟩
      · have le : ∀ a, subM M p a = true → M a = true := fun a h => (Bool.and_eq_true_iff.mp h).1
        exact ⟨fun a h => g.ok.dom a (le a h), fun a xs h => g.ok.tup a xs (le a h), fun a fs h => g.ok.xd a fs (le a h)⟩
      · have : a ≠ p := fun z => by rw [z, m0] at h; cases h
        rw [subM_ne this]; exact g.sub a h
      · exact g.new a (Bool.and_eq_true_iff.mp h).1
      · by_cases e : j = i
        · subst e
          rw [List.getElem?_set_self hil] at h
          cases h
          exact ⟨_, hv, r.give⟩
        · rw [get_set_ne e] at h
          cases s with
          | no => trivial
          | sh d' =>
            obtain ⟨x, e2, r2⟩ := g.sl j _ h
            exact ⟨x, e2, r2.mono sh_sub⟩
          | ow d' =>
            obtain ⟨a, e2, m2, m3, r2⟩ := g.sl j _ h
            have hne : a ≠ p := fun z => by
              subst z
              exact g.inj j i a e (by rw [h]; rfl) (by rw [q]; rfl) e2 hv
            exact ⟨a, e2, by rw [subM_ne hne]; exact m2, m3, r2.imp sh_sub fun o ho => ho⟩
      · have nt : ∀ m, isOw (env.set i (.sh d))[m]? = true → isOw env[m]? = true := fun m h => by
          by_cases e : m = i
          · subst e; rw [isOw_sh rfl] at h; cases h
          · rw [get_set_ne e] at h; exact h
        exact g.inj j k a hne (nt j h1) (nt k h2) h3
end
theorem PostS.mono {X : Cx} {W : WX} {H0 : Hp} {M0 M M' : Addr → Bool} {H H' : Hp} {D : Ends} {r : SRes} (h : PostS X W H0 M0 M H D r) (e : VEx (Sh M (vw H)) (Sh M' (vw H'))) : PostS X W H0 M0 M' H' D r := by
  cases r with
  | nx env => exact fun M2 H2 σ2 g2 e2 => h M2 H2 σ2 g2 (e.trans e2)
  | bk env => exact fun M2 H2 σ2 g2 e2 => h M2 H2 σ2 g2 (e.trans e2)
  | ct env => exact fun M2 H2 σ2 g2 e2 => h M2 H2 σ2 g2 (e.trans e2)
  | rt d => exact h
  | xc c fs env => exact fun M2 H2 σ2 cls dd g2 e2 r2 => h M2 H2 σ2 cls dd g2 (e.trans e2) r2
  | bad => exact h
  | ro d => exact h
end VL

set_option maxRecDepth 100000
set_option maxHeartbeats 2000000
namespace VL
open PySem L2

def nxS (env : Env) : SRes := .nx env
def seqS (ψ χ : Env → SRes) (env : Env) : SRes := match ψ env with
  | .nx env' => χ env'
  | r => r
def ofE (r : Res D) (env : Env) (k : D → SRes) : SRes := match r with
  | .ok d => k d
  | .exc c fs => .xc c fs env
  | .bad => .bad
def ofA (r : Res (List D)) (env : Env) (k : List D → SRes) : SRes := match r with
  | .ok d => k d
  | .exc c fs => .xc c fs env
  | .bad => .bad
def ofT (r : Res Bool) (env : Env) (k : Bool → SRes) : SRes := match r with
  | .ok d => k d
  | .exc c fs => .xc c fs env
  | .bad => .bad
section
variable {X : Cx} {W : WX} {fl fla flb : Bool} {e : Expr} {st : Stmt} {sts a b : List Stmt} {pos : Pos} {φ : Env → Res D} {τ : Env → Res Bool} {φs : Env → Res (List D)} {ψ χ : Env → SRes}
variable {H0 H : Hp} {M0 M : Addr → Bool} {σ : L2.St} {env : Env} {D : Ends}
theorem PostS.ofE {r : Res VL.D} {k : VL.D → SRes} {Q : VK} (g : Good (gm X) H0 M0 M H σ env) (h : PostS X W H0 M0 M H D (ofE r env k))
    (q : ∀ d v H1, Ext H H1 → Good (gm X) H0 M0 M H1 σ env → Rp (gm X) (vis fl M (vw H1)) d v → PostS X W H0 M0 M H1 D (k d) → Q v H1) : PostE X W fl M σ H Q r := by
  cases r with
  | ok d => exact fun v H1 e1 r1 => q d v H1 e1 (g.mono e1) r1 (PostS.mono h (Sh_mono e1.v))
  | exc c fs => exact fun cls dd H1 e1 r1 => h M H1 σ cls dd (g.mono e1) (Sh_mono e1.v) r1
  | bad => exact h
theorem PostS.ofT {r : Res Bool} {k : Bool → SRes} {Q : Bool → Hp → Prop} (g : Good (gm X) H0 M0 M H σ env) (h : PostS X W H0 M0 M H D (ofT r env k))
    (q : ∀ d H1, Ext H H1 → Good (gm X) H0 M0 M H1 σ env → PostS X W H0 M0 M H1 D (k d) → Q d H1) : PostT X W M σ H Q r := by
  cases r with
  | ok d => exact fun H1 e1 => q d H1 e1 (g.mono e1) (PostS.mono h (Sh_mono e1.v))
  | exc c fs => exact fun cls dd H1 e1 r1 => h M H1 σ cls dd (g.mono e1) (Sh_mono e1.v) r1
  | bad => exact h
theorem PostS.seq (h : PostS X W H0 M0 M H D (seqS ψ χ env)) {N : L2.St → Hp → Prop} (k : ∀ env' M' H' σ', Good (gm X) H0 M0 M' H' σ' env' → PostS X W H0 M0 M' H' D (χ env') → N σ' H') : PostS X W H0 M0 M H { D with nx := N } (ψ env) := by
  unfold seqS at h
  cases q : ψ env with
  | nx env' => rw [q] at h; exact fun M' H' σ' g' e' => k env' M' H' σ' g' (h.mono e')
  | bk env' => rw [q] at h; exact h
  | ct env' => rw [q] at h; exact h
  | rt d => rw [q] at h; exact h
  | xc c fs env' => rw [q] at h; exact h
  | bad => rw [q] at h; exact h
  | ro d => rw [q] at h; exact h
theorem vb_nil : VB X W [] nxS := ⟨_, pss_nil, fun H0 M0 M H σ env D g h => h M H σ g (.refl _)⟩
theorem vb_cons (h1 : VS X W st ψ) (h2 : VB X W sts χ) : VB X W (st :: sts) (seqS ψ χ) := by
  obtain ⟨t, p, r⟩ := h1
  obtain ⟨t', p', r'⟩ := h2
  refine ⟨_, pss_cons p p', fun H0 M0 M H σ env D g h => ?_⟩
  exact r H0 M0 M H σ env _ g (h.seq fun env' M' H' σ' g' h' => r' H0 M0 M' H' σ' env' D g' h')
theorem vb_one (h1 : VS X W st ψ) : VB X W [st] ψ := by
  obtain ⟨t, p, r⟩ := h1
  exact ⟨_, pss_one p, r⟩
def giveS (i : Nat) (ψ : Env → SRes) (env : Env) : SRes := ψ (give i env)
theorem vs_give (i : Nat) (h : VS X W st ψ) : VS X W st (giveS i ψ) := by
  obtain ⟨t, p, r⟩ := h
  refine ⟨t, p, fun H0 M0 M H σ env D g h => ?_⟩
  obtain ⟨M', g', e'⟩ := g.give i
  exact r H0 M0 M' H σ _ D g' (PostS.mono h e')
def bkS (env : Env) : SRes := .bk env
def ctS (env : Env) : SRes := .ct env
def dropS (φ : Env → Res VL.D) (env : Env) : SRes := ofE (φ env) env fun _ => .nx env
theorem vs_expr (h : VE X W fl e φ) (hs : swapsWith e none pos.line X.env = pure false := by rfl) : VS X W (.Expr e pos) (dropS φ) := by
  obtain ⟨t, p, r⟩ := h
  refine ⟨_, ps_expr p hs, fun H0 M0 M H σ env D g h => ?_⟩
  exact r H0 M0 M H σ env _ g (PostS.ofE g h fun d v H1 e1 g1 r1 h1 => h1 M H1 σ g1 (.refl _))
def retS (φ : Env → Res VL.D) (env : Env) : SRes := ofE (φ env) env fun d => .rt d
theorem Good.rt (g : Good (gm X) H0 M0 M H σ env) : VEx (Sh M (vw H)) (Sh M0 (vw H)) := fun a u h => by
  obtain ⟨h1, h2⟩ := Sh_some h
  rw [Sh_of]
  · exact h2
  · cases q : M0 a with
    | false => rfl
    | true => rw [g.sub a q] at h1; cases h1
theorem vs_ret (h : VE X W true e φ) : VS X W (.Return (some e) pos) (retS φ) := by
  obtain ⟨t, p, r⟩ := h
  refine ⟨_, ps_ret p, fun H0 M0 M H σ env D g h => ?_⟩
  exact r H0 M0 M H σ env _ g (PostS.ofE g h fun d v H1 e1 g1 r1 h1 => h1 v H1 g1.ex (r1.mono g1.rt))
def retNS (_ : Env) : SRes := .rt .non
def setS (i : Nat) (φ : Env → Res VL.D) (env : Env) : SRes := ofE (φ env) env fun d => .nx (env.set i (.sh d))
theorem vs_set (i : Nat) {x : Str} {pos' : Pos} (hN : X.N.Nodup) (h : VE X W true e φ) (hi : X.N[i]? = some x := by rfl) (hx : Loc X.env.scope x := by first | exact Or.inl rfl | exact Or.inr rfl) (hs : swapsWith e (some (.Name x pos')) pos.line X.env = pure false := by rfl)
    (hf : X.fn x = true ∨ X.env.scope.names.lookup x = some .local := by first | exact .inl rfl | exact .inr rfl | assumption) : VS X W (.Assign [.Name x pos'] e pos) (setS i φ) := by
  obtain ⟨t, p, r⟩ := h
  refine ⟨_, ps_set hN hi hx p hs hf, fun H0 M0 M H σ env D g h => ?_⟩
  exact r H0 M0 M H σ env _ g (PostS.ofE g h fun d v H1 e1 g1 r1 h1 => h1 M H1 _ (g1.set r1) (.refl _))
def PostN (X : Cx) (W : WX) (M : Addr → Bool) (σ : L2.St) (H : Hp) (Q : VK) : Res VL.D → Prop
  | .ok d => ∀ p H', H p = none → Ext H H' → OwOk (gm X) (addM M p) H' p d → Q (.ref p) H'
  | .exc c fs => ∀ cls dd H', Ext H H' → RpX (gm X) (Sh M (vw H')) c fs cls dd → W cls dd σ H'
  | .bad => False
def VF (X : Cx) (W : WX) (e : Expr) (φ : Env → Res VL.D) : Prop :=
  ∃ t : TE, PE X e t ∧ ∀ (H0 : Hp) (M0 M : Addr → Bool) (H : Hp) (σ : L2.St) (env : Env) (Q : VK), Good (gm X) H0 M0 M H σ env → PostN X W M σ H Q (φ env) → t σ H Q
theorem OwOk.rpN {H1 : Hp} {p : Addr} (m : M p = false) : ∀ {d : VL.D}, OwOk (gm X) (addM M p) H1 p d → Rp (gm X) (Sh M (vw H1)) d (.ref p) := by
  have le : VEx (Sh (addM M p) (vw H1)) (Sh M (vw H1)) := fun a u h => by
    obtain ⟨h1, h2⟩ := Sh_some h
    have : M a = false := by
      cases q : M a with
      | false => rfl
      | true => unfold addM at h1; rw [q] at h1; cases h1
    rw [Sh_of this]; exact h2
  intro d h
  match d, h with
  | .lst ds, ⟨xs, h, r⟩ => exact .lst (by rw [Sh_of m]; exact vw_of h trivial) (r.mono le)
  | .dic 0 es, ⟨kvs, h, k, r⟩ => exact .dicK (by rw [Sh_of m]; exact vw_of h trivial) k (r.mono le)
  | .dic 1 es, ⟨kvs, h, k, r⟩ => exact .dicT (by rw [Sh_of m]; exact vw_of h trivial) k (r.mono le)
  | .dic 2 es, ⟨kvs, h, n, k, r⟩ => exact .dicN (by rw [Sh_of m]; exact vw_of h trivial) (fun x hx => (n x hx).mono le) k (r.mono le)
  | .dic (_ + 3) _, h => exact h.elim
  | .ins c gs, ⟨C, dx, fs, mm, h, k, r⟩ => exact .ins mm (by rw [Sh_of m]; exact vw_of h trivial) k (r.mono le)
  | .non, h => exact h.elim
  | .bl _, h => exact h.elim
  | .int _, h => exact h.elim
  | .str _, h => exact h.elim
  | .tup _, h => exact h.elim
  | .scr _, h => exact h.elim
  | .exn _ _, h => exact h.elim
  | .sel x c gs, ⟨q, C, dx, fs, mm, h, k, r⟩ =>
    subst q
    exact .sel mm (by rw [Sh_of m]; exact vw_of h trivial) k (r.mono le)
theorem ve_new (h : VF X W e φ) : VE X W fl e φ := by
  obtain ⟨t, p, r⟩ := h
  refine ⟨t, p, fun H0 M0 M H σ env Q g h => ?_⟩
  refine r H0 M0 M H σ env Q g ?_
  cases q : φ env with
  | ok d =>
    rw [q] at h
    exact fun p H' hp e' o => h _ H' e' ((o.rpN (g.nm hp).1).mono (Sh_vis fl M _))
  | exc c fs => rw [q] at h; exact h
  | bad => rw [q] at h; exact h
def ownS (i : Nat) (φ : Env → Res VL.D) (env : Env) : SRes := ofE (φ env) env fun d => .nx (env.set i (.ow d))
theorem vs_own (i : Nat) {x : Str} {pos' : Pos} (hN : X.N.Nodup) (h : VF X W e φ) (hi : X.N[i]? = some x := by rfl) (hx : Loc X.env.scope x := by first | exact Or.inl rfl | exact Or.inr rfl) (hs : swapsWith e (some (.Name x pos')) pos.line X.env = pure false := by rfl)
    (hf : X.fn x = true ∨ X.env.scope.names.lookup x = some .local := by first | exact .inl rfl | exact .inr rfl | assumption) : VS X W (.Assign [.Name x pos'] e pos) (ownS i φ) := by
  obtain ⟨t, p, r⟩ := h
  refine ⟨_, ps_set hN hi hx p hs hf, fun H0 M0 M H σ env D g h => ?_⟩
  refine r H0 M0 M H σ env _ g ?_
  unfold ownS at h
  cases q : φ env with
  | ok d =>
    rw [q] at h
    exact fun p H' hp e' o => h _ H' _ (g.own hp e' o) (sh_add e' hp)
  | exc c fs => rw [q] at h; exact fun cls dd H1 e1 r1 => h M H1 σ cls dd (g.mono e1) (Sh_mono e1.v) r1
  | bad => rw [q] at h; exact h
theorem ow_newL {p : Addr} {ds : List VL.D} {xs : List V} (hp : H p = none) (r : RpL (gm X) (Sh M (vw H)) ds xs) : OwOk (gm X) (addM M p) (upd H p (.lst xs)) p (.lst ds) := ⟨xs, upd_same, r.mono (sh_add (Ext.new hp) hp)⟩
theorem vf_lst {es : List Expr} (h : VA X W true es φs) : VF X W (.List es pos) (aE lstD φs) := by
  obtain ⟨t, p, r⟩ := h
  refine ⟨_, pe_lst p, fun H0 M0 M H σ env Q g h => ?_⟩
  refine r H0 M0 M H σ env _ g ?_
  have h0 : PostN X W M σ H Q ((φs env).bind lstD) := h
  cases q : φs env with
  | ok ds =>
    rw [q] at h0
    intro vs H1 e1 r1
    have h1 : PostN X W M σ H Q (lstD ds) := h0
    unfold lstD at h1
    by_cases c : ds.length ≤ sizeLine
    · rw [if_pos c] at h1
      refine ⟨by rw [← r1.length]; exact c, fun p hp => h1 p _ (e1.fresh hp) (e1.trans (Ext.new hp)) (ow_newL hp r1)⟩
    · rw [if_neg c] at h1; exact h1.elim
  | exc c fs => rw [q] at h0; exact h0
  | bad => rw [q] at h0; exact h0
theorem vf_dic0 : VF X W (.Dict [] [] pos) (cE (.dic 0 [])) := ⟨_, pe_dnewK, fun H0 M0 M H σ env Q g h p hp => h p _ hp (Ext.new hp) ⟨[], upd_same, rfl, .nil⟩⟩
theorem vf_dic1 : VF X W (.Dict [] [] pos) (cE (.dic 1 [])) := ⟨_, pe_dnewT, fun H0 M0 M H σ env Q g h p hp => h p _ hp (Ext.new hp) ⟨[], upd_same, rfl, .nil⟩⟩
def appS (i : Nat) (φ : Env → Res VL.D) (env : Env) : SRes := match env[i]? with
  | some (.ow (.lst ds)) => ofE (φ env) env fun d => if ds.length < sizeLine then .nx (env.set i (.ow (.lst (ds ++ [d])))) else .bad
  | _ => .bad
theorem PostS.ite {c : Prop} [Decidable c] {r : SRes} (h : PostS X W H0 M0 M H D (if c then r else .bad)) : c ∧ PostS X W H0 M0 M H D r := by
  by_cases hc : c
  · rw [if_pos hc] at h; exact ⟨hc, h⟩
  · rw [if_neg hc] at h; exact h.elim
theorem vs_app (i : Nat) {x : Str} {px apos cpos : Pos} (h : VE X W true e φ) (hN : X.N[i]? = some x := by rfl) (hv : Vis X.env.scope x := by first | exact Or.inl rfl | exact Or.inr (Or.inl rfl) | exact Or.inr (Or.inr rfl))
    (hp : ∀ (ta : TE) (r : PE X (.Name x px) ta) (tb : TA) (rb : PA X [e] tb), PE X (.Call (.Attribute (.Name x px) "append" apos) [e] [] cpos) (tBM X.K "list" rAppend ta tb) := by exact fun _ r _ rb => pe_bm PySem.F.plainAttrs_list PySem.F.slot_list_append PySem.F.type_list_append mt_append r rb)
    (hd : (x == ("__debug__" : Str)) = false := by decide) (hcd : (x == ("__classdict__" : Str)) = false := by decide)
    (hs : swapsWith (.Call (.Attribute (.Name x px) "append" apos) [e] [] cpos) none pos.line X.env = pure false := by rfl) (hst : starEach (e :: []) X.env = (false, eval e X.env) :: starEach [] X.env := by rfl) :
    VS X W (.Expr (.Call (.Attribute (.Name x px) "append" apos) [e] [] cpos) pos) (appS i φ) := by
  obtain ⟨t, p, r⟩ := h
  refine ⟨_, ps_expr (hp _ (pe_var hN hv hd hcd) _ (pa_cons p pa_nil hst)) hs, fun H0 M0 M H σ env D g h => ?_⟩
  unfold appS at h
  cases q : env[i]? with
  | none => rw [q] at h; exact h.elim
  | some s =>
    rw [q] at h
    cases s with
    | no => exact h.elim
    | sh d => exact h.elim
    | ow d =>
      cases d with
      | lst ds =>
        obtain ⟨p', hv', mp, m0, xs, hx, rx⟩ := g.sl i _ q
        refine ⟨_, hv', .inl ⟨rfl, _, SqL.of hx⟩, ?_⟩
        refine r H0 M0 M H σ env _ g (PostS.ofE g h fun d v H1 e1 g1 r1 h1 => ?_)
        obtain ⟨hc, h1⟩ := PostS.ite h1
        have rx1 := rx.mono (Sh_mono e1.v)
        refine ⟨p', xs, v, rfl, rfl, e1 _ _ hx, by rw [← rx.length]; exact hc, ?_⟩
        have rr : OwOk (gm X) M (upd H1 p' (.lst (xs ++ [v]))) p' (.lst (ds ++ [d])) := ⟨_, upd_same, by rw [sh_mut mp]; exact rx1.append (.cons r1 .nil)⟩
        exact h1 M _ σ (g1.mut q hv' rr) (by rw [sh_mut mp]; exact .refl _)
      | _ => exact h.elim
def ifS (τ : Env → Res Bool) (ψ χ : Env → SRes) (env : Env) : SRes := ofT (τ env) env fun k => if k = true then ψ env else χ env
theorem vs_if (hc : VT X W e τ) (ha : VB X W a ψ) (hb : VB X W b χ) : VS X W (.If e a b pos) (ifS τ ψ χ) := by
  obtain ⟨t, p, r⟩ := hc
  obtain ⟨ta, pa, ra⟩ := ha
  obtain ⟨tb, pb, rb⟩ := hb
  refine ⟨_, ps_if p pa pb, fun H0 M0 M H σ env D g h => ?_⟩
  refine r H0 M0 M H σ env _ g (PostS.ofT g h fun k H1 e1 g1 h1 => ?_)
  cases k with
  | true => rw [if_pos rfl] at h1 ⊢; exact ra H0 M0 M H1 σ env D g1 h1
  | false => rw [if_neg Bool.false_ne_true] at h1 ⊢; exact rb H0 M0 M H1 σ env D g1 h1
def gnG (i : Nat) (d : VL.D) (env : Env) : Option Env := some (env.set i (.sh d))
theorem vg_n (i : Nat) {x : Str} (hN : X.N.Nodup) (hi : X.N[i]? = some x := by rfl) (hx : Loc X.env.scope x := by first | exact Or.inl rfl | exact Or.inr rfl) (hf : X.fn x = true ∨ X.env.scope.names.lookup x = some .local := by first | exact .inl rfl | exact .inr rfl | assumption) :
    VG X (.Name x pos) (gnG i) := ⟨_, pg_name hN hi hx hf, fun H0 M0 M H σ env env' d v Q g r e q => by cases e; exact q _ (g.set r)⟩
def nilG : List VL.D → Env → Option Env
  | [], env => some env
  | _ :: _, _ => none
def consG (γ : VL.D → Env → Option Env) (γs : List VL.D → Env → Option Env) : List VL.D → Env → Option Env
  | d :: ds, env => (γ d env).bind fun env' => γs ds env'
  | [], _ => none
theorem vgs_nil : VGs X [] nilG := ⟨_, pgs_nil, fun H0 M0 M H σ env env' d v Q g r e q => by
  cases r with
  | nil => cases e; exact ⟨rfl, q σ g⟩
  | cons _ _ => cases e⟩
theorem vgs_cons {es : List Expr} {γ : VL.D → Env → Option Env} {γs : List VL.D → Env → Option Env} (h1 : VG X e γ) (h2 : VGs X es γs) (hs : (assignEach (e :: es) X.env).map (·.2) = assign e X.env :: (assignEach es X.env).map (·.2) := by rfl) : VGs X (e :: es) (consG γ γs) := by
  obtain ⟨g1, p1, r1⟩ := h1
  obtain ⟨g2, p2, r2⟩ := h2
  refine ⟨_, pgs_cons p1 p2 hs, fun H0 M0 M H σ env env' d v Q g r e q => ?_⟩
  cases r with
  | nil => cases e
  | cons ra rb =>
    rename_i d ds v vs
    have e' : (γ d env).bind (fun env' => γs ds env') = some env' := e
    cases z : γ d env with
    | none => rw [z] at e'; cases e'
    | some env1 =>
      rw [z] at e'
      exact ⟨_, _, rfl, r1 H0 M0 M H σ env env1 d v _ g ra z fun σ1 g1 => r2 H0 M0 M H σ1 env1 env' ds vs Q g1 rb e' q⟩
def tupG (n : Nat) (γs : List VL.D → Env → Option Env) (d : VL.D) (env : Env) : Option Env := match d with
  | .tup ds => if ds.length = n then γs ds env else none
  | _ => none
theorem vg_tup {es : List Expr} {k n : Nat} {γs : List VL.D → Env → Option Env} (hc : X.calm = true) (h : VGs X es γs) (hn : (assignEach es X.env).length = n := by rfl) (hst : (assignEach es X.env).findIdx? (·.1) = none := by rfl) : VG X (.Tuple es k pos) (tupG n γs) := by
  obtain ⟨g1, p1, r1⟩ := h
  refine ⟨_, pg_tup hc p1 hn hst, fun H0 M0 M H σ env env' d v Q g r e q => ?_⟩
  cases r <;> first | (cases e; done) | skip
  case tup a xs ds ha ra =>
    have e' : (if ds.length = n then γs ds env else none) = some env' := e
    by_cases c : ds.length = n
    · rw [if_pos c] at e'
      exact ⟨a, xs, rfl, .inl (.inl (vw_tup (Sh_some ha).2)), by rw [← ra.length]; exact c, r1 H0 M0 M H σ env env' ds xs Q g ra e' q⟩
    · rw [if_neg c] at e'; cases e'
def asgS (γ : VL.D → Env → Option Env) (φ : Env → Res VL.D) (env : Env) : SRes := ofE (φ env) env fun d => match γ d env with
  | some env' => .nx env'
  | none => .bad
end
end VL

set_option maxRecDepth 100000
set_option maxHeartbeats 2000000
namespace VL
open PySem L2

def ItOk (mg : Gm) (H0 : Hp) (M : Addr → Bool) (H : Hp) (J : It) (ds : List D) : Prop :=
  ∀ (M' : Addr → Bool) (H' : Hp), MOk M' H' → Ext H0 H' → VEx (Sh M (vw H)) (Sh M' (vw H')) → ∀ i : Nat, (ds.length ≤ i → J.stop i H') ∧ ∀ d, ds[i]? = some d → J.go i H' ∧ ∀ x H2, J.yld i H' x H2 → Ext H' H2 ∧ Rp mg (Sh M' (vw H2)) d x
def PostI (X : Cx) (W : WX) (H0 : Hp) (M : Addr → Bool) (σ : L2.St) (H : Hp) (R : It → Hp → Prop) : Res (List D) → Prop
  | .ok ds => ∀ J H', Ext H H' → ItOk (gm X) H0 M H' J ds → R J H'
  | .exc c fs => ∀ cls dd H', Ext H H' → RpX (gm X) (Sh M (vw H')) c fs cls dd → W cls dd σ H'
  | .bad => False
def VI (X : Cx) (W : WX) (tg iter : Expr) (ι : Env → Res (List D)) : Prop :=
  ∃ wi : TI, PI X tg iter wi ∧ ∀ (H0 : Hp) (M0 M : Addr → Bool) (H : Hp) (σ : L2.St) (env : Env) (R : It → Hp → Prop), Good (gm X) H0 M0 M H σ env → PostI X W H0 M σ H R (ι env) → wi σ H R
theorem PostI.mono {X : Cx} {W : WX} {H0 : Hp} {M : Addr → Bool} {σ : L2.St} {H H' : Hp} {R : It → Hp → Prop} {r : Res (List D)} (h : PostI X W H0 M σ H R r) (e : Ext H H') : PostI X W H0 M σ H' R r := by
  cases r with
  | ok d => exact fun J H2 e2 r => h J H2 (e.trans e2) r
  | exc c fs => exact fun cls dd H2 e2 r => h cls dd H2 (e.trans e2) r
  | bad => exact h
theorem PostI.seq {X : Cx} {W : WX} {H0 : Hp} {fl : Bool} {M : Addr → Bool} {σ : L2.St} {H : Hp} {R : It → Hp → Prop} {r : Res D} {f : D → Res (List D)} {Q' : VK} (h : PostI X W H0 M σ H R (r.bind f))
    (k : ∀ d v H1, Ext H H1 → Rp (gm X) (vis fl M (vw H1)) d v → PostI X W H0 M σ H1 R (f d) → Q' v H1) : PostE X W fl M σ H Q' r := by
  cases r with
  | ok d => exact fun v H1 e1 r1 => k d v H1 e1 r1 (PostI.mono h e1)
  | exc c fs => exact h
  | bad => exact h
theorem PostI.args {X : Cx} {W : WX} {H0 : Hp} {fl : Bool} {M : Addr → Bool} {σ : L2.St} {H : Hp} {R : It → Hp → Prop} {r : Res (List D)} {f : List D → Res (List D)} {Q' : List V → Hp → Prop} (h : PostI X W H0 M σ H R (r.bind f))
    (k : ∀ d v H1, Ext H H1 → RpL (gm X) (vis fl M (vw H1)) d v → PostI X W H0 M σ H1 R (f d) → Q' v H1) : PostA X W fl M σ H Q' r := by
  cases r with
  | ok d => exact fun v H1 e1 r1 => k d v H1 e1 r1 (PostI.mono h e1)
  | exc c fs => exact h
  | bad => exact h
theorem pi_or {X : Cx} {tg iter : Expr} {w1 w2 : TI} (h1 : PI X tg iter w1) (h2 : PI X tg iter w2) : PI X tg iter (fun σ H R => w1 σ H R ∨ w2 σ H R) :=
  ⟨fun pins s σ H R I h => h.elim (h1.run pins s σ H R I) (h2.run pins s σ H R I)⟩
def strItems (z : Str) : List D := z.cps.toList.map fun c => .str ⟨#[c]⟩
def itemsD : D → Res (List D)
  | .lst ds => .ok ds
  | .tup ds => .ok ds
  | .str z => .ok (strItems z)
  | _ => .bad
def iE (φ : Env → Res D) (env : Env) : Res (List D) := (φ env).bind itemsD
section
variable {mg : Gm} {M M' : Addr → Bool} {H0 H H' : Hp} {K : PySem.W.Frag}
theorem itOk_list {a : Addr} {xs : List V} {ds : List D} (h : Sh M (vw H) a = some (.lst xs)) (r : RpL mg (Sh M (vw H)) ds xs) : ItOk mg H0 M H (Itl K a) ds := by
  intro M' H' m e0 e i
  have h' := e _ _ h
  have q : SqL K H' a xs := .inl (vw_lst (Sh_some h').2)
  refine ⟨fun hi => ⟨xs, q, by rw [← r.length]; exact hi⟩, fun d hd => ?_⟩
  obtain ⟨x, hx, rx⟩ := r.get hd
  refine ⟨⟨xs, x, q, hx⟩, fun y H2 z => ?_⟩
  obtain ⟨z1, z2⟩ := z
  subst z1
  have := (z2 xs q).symm.trans hx
  cases this
  exact ⟨Ext.refl _, rx.mono e⟩
theorem itOk_tup {a : Addr} {xs : List V} {ds : List D} (h : Sh M (vw H) a = some (.tup xs)) (r : RpL mg (Sh M (vw H)) ds xs) : ItOk mg H0 M H (Itt K a) ds := by
  intro M' H' m e0 e i
  have h' := e _ _ h
  have q : SqT K H' a xs := .inl (.inl (vw_tup (Sh_some h').2))
  refine ⟨fun hi => ⟨xs, q, by rw [← r.length]; exact hi⟩, fun d hd => ?_⟩
  obtain ⟨x, hx, rx⟩ := r.get hd
  refine ⟨⟨xs, x, q, hx⟩, fun y H2 z => ?_⟩
  obtain ⟨z1, z2⟩ := z
  subst z1
  have := (z2 xs q).symm.trans hx
  cases this
  exact ⟨Ext.refl _, rx.mono e⟩
theorem itOk_str {z : Str} : ItOk mg H0 M H (Its z) (strItems z) := by
  intro M' H' m e0 e i
  have hl : (strItems z).length = z.cps.size := by unfold strItems; rw [List.length_map]; exact Array.length_toList
  refine ⟨fun hi => by rw [hl] at hi; exact hi, fun d hd => ?_⟩
  unfold strItems at hd
  rw [List.getElem?_map] at hd
  cases q : z.cps.toList[i]? with
  | none => rw [q] at hd; cases hd
  | some c =>
    rw [q] at hd
    cases hd
    have q' : z.cps[i]? = some c := by rw [← Array.getElem?_toList]; exact q
    refine ⟨(Array.getElem?_eq_some_iff.mp q').1, fun x H2 y => ?_⟩
    obtain ⟨y1, c', y2, y3⟩ := y
    subst y1
    rw [q'] at y2
    cases y2
    subst y3
    exact ⟨Ext.refl _, .str _⟩
def rangeD (lo : Int) (n : Nat) : List D := (List.range n).map fun (i : Nat) => .int (lo + (i : Int))
theorem itOk_range {lo : Int} {n : Nat} : ItOk mg H0 M H (Itr lo n) (rangeD lo n) := by
  intro M' H' m e0 e i
  have hl : (rangeD lo n).length = n := by unfold rangeD; rw [List.length_map, List.length_range]
  refine ⟨fun hi => by rw [hl] at hi; exact hi, fun d hd => ?_⟩
  have hi : i < n := by
    have := (List.getElem?_eq_some_iff.mp hd).1
    rw [hl] at this; exact this
  unfold rangeD at hd
  rw [List.getElem?_map, List.getElem?_range hi] at hd
  cases hd
  refine ⟨hi, fun x H2 y => ?_⟩
  obtain ⟨y1, y2⟩ := y
  subst y1; subst y2
  exact ⟨Ext.refl _, .int _⟩
end
section
variable {X : Cx} {W : WX} {fl fla flb : Bool} {tg e iter : Expr} {es : List Expr} {sts : List Stmt} {pos : Pos} {φ : Env → Res D} {τ : Env → Res Bool} {φs : Env → Res (List D)} {ψ χ : Env → SRes} {ι : Env → Res (List D)} {γ : D → Env → Option Env}
theorem vi_seq (h : VE X W true e φ) : VI X W tg e (iE φ) := by
  obtain ⟨t, p, r⟩ := h
  refine ⟨_, pi_or (pi_list p) (pi_or (pi_tup p) (pi_str p)), fun H0 M0 M H σ env R g h => ?_⟩
  have h0 : PostI X W H0 M σ H R ((φ env).bind itemsD) := h
  have go : ∀ {Q' : VK}, (∀ d v H1, φ env = .ok d → Ext H H1 → Rp (gm X) (Sh M (vw H1)) d v → PostI X W H0 M σ H1 R (itemsD d) → Q' v H1) → t σ H Q' := fun {Q'} k => by
    refine r H0 M0 M H σ env _ g ?_
    cases q : φ env with
    | ok d => rw [q] at h0; exact fun v H1 e1 r1 => k d v H1 q e1 r1 (PostI.mono h0 e1)
    | exc c fs => rw [q] at h0; exact h0
    | bad => rw [q] at h0; exact h0
  have pick : (∃ ds, φ env = .ok (.tup ds)) ∨ (∃ z, φ env = .ok (.str z)) ∨ ∀ d, φ env = .ok d → (∀ ds, d ≠ .tup ds) ∧ ∀ z, d ≠ .str z := by
    cases q : φ env with
    | ok d =>
      cases d with
      | tup ds => exact .inl ⟨ds, rfl⟩
      | str z => exact .inr (.inl ⟨z, rfl⟩)
      | _ => exact .inr (.inr fun d hd => by cases hd; exact ⟨(fun _ z => nomatch z), (fun _ z => nomatch z)⟩)
    | exc c fs => exact .inr (.inr fun d hd => by cases hd)
    | bad => exact .inr (.inr fun d hd => by cases hd)
  rcases pick with ⟨ds, q⟩ | ⟨z, q⟩ | q
  · refine .inr (.inl (go fun d v H1 qd e1 r1 h1 => ?_))
    rw [q] at qd; cases qd
    cases r1 with
    | tup ha ra => exact ⟨_, rfl, ⟨_, .inl (.inl (vw_tup (Sh_some ha).2))⟩, h1 _ H1 (Ext.refl _) (itOk_tup ha ra)⟩
  · refine .inr (.inr (go fun d v H1 qd e1 r1 h1 => ?_))
    rw [q] at qd; cases qd
    cases r1
    exact ⟨z, rfl, h1 _ H1 (Ext.refl _) itOk_str⟩
  · refine .inl (go fun d v H1 qd e1 r1 h1 => ?_)
    obtain ⟨n1, n2⟩ := q d qd
    cases d with
    | lst ds =>
      cases r1 with
      | lst ha ra => exact ⟨_, rfl, ⟨_, .inl (vw_lst (Sh_some ha).2)⟩, h1 _ H1 (Ext.refl _) (itOk_list ha ra)⟩
    | tup ds => exact absurd rfl (n1 ds)
    | str z => exact absurd rfl (n2 z)
    | _ => exact h1.elim
def small62 (j : Int) : Bool := decide (j.natAbs.log2 < 62)
theorem small62_bd {j : Int} (h : small62 j = true) : -4611686018427387904 ≤ j ∧ j < 4611686018427387904 := by
  have h' : j.natAbs.log2 < 62 := of_decide_eq_true h
  by_cases hz : j.natAbs = 0
  · omega
  · have := (Nat.log2_lt hz).mp h'
    omega
theorem small62_of {j : Int} (h : -4611686018427387904 < j) (h2 : j < 4611686018427387904) : small62 j = true := by
  refine decide_eq_true ?_
  by_cases hz : j.natAbs = 0
  · rw [hz]; decide
  · exact (Nat.log2_lt hz).mpr (by omega)
def range1 : List D → Res (List D)
  | [.int j] => if small62 j = true then .ok (rangeD 0 j.toNat) else .bad
  | _ => .bad
def aI (f : List D → Res (List D)) (φs : Env → Res (List D)) (env : Env) : Res (List D) := (φs env).bind f
theorem PostI.ite {H0 : Hp} {M : Addr → Bool} {σ : L2.St} {H : Hp} {R : It → Hp → Prop} {c : Prop} [Decidable c] {r : Res (List D)} (h : PostI X W H0 M σ H R (if c then r else .bad)) : c ∧ PostI X W H0 M σ H R r := by
  by_cases hc : c
  · rw [if_pos hc] at h; exact ⟨hc, h⟩
  · rw [if_neg hc] at h; exact h.elim
theorem vi_range1 {a : Expr} {p : Pos} (hm : X.mg "range" = none) (ha : VA X W fl [a] φs) (hg : Gl X "range" := by rfl) (hs : starEach [a] X.env = [(false, eval a X.env)] := by rfl) : VI X W tg (.Call (.Name "range" p) [a] [] pos) (aI range1 φs) := by
  obtain ⟨t, pt, r⟩ := ha
  refine ⟨_, pi_range1 hg hm pt hs, fun H0 M0 M H σ env R g h => ?_⟩
  refine r H0 M0 M H σ env _ g (PostI.args h fun ds vs H1 e1 r1 h1 => ?_)
  cases r1 with
  | nil => exact h1.elim
  | cons r t =>
    cases t with
    | cons _ _ => cases r <;> exact h1.elim
    | nil =>
      cases r <;> first | exact h1.elim | skip
      obtain ⟨hs, h1⟩ := PostI.ite h1
      exact ⟨_, rfl, (small62_bd hs).1, (small62_bd hs).2, h1 _ H1 (Ext.refl _) itOk_range⟩
def flowL (r : SRes) (k : Env → SRes) : SRes := match r with
  | .nx env => k env
  | .ct env => k env
  | .bk env => .nx env
  | r => r
def forL (γ : D → Env → Option Env) (ψ : Env → SRes) : List D → Env → SRes
  | [], env => .nx env
  | d :: ds, env => match γ d env with
    | none => .bad
    | some env1 => flowL (ψ env1) (forL γ ψ ds)
def forS (γ : D → Env → Option Env) (ι : Env → Res (List D)) (ψ : Env → SRes) (env : Env) : SRes := ofA (ι env) env fun ds => forL γ ψ ds env
theorem vs_for (hp : PassesOwn (model X.prog X.w) X.A X.env X.xe) (hc : X.calm = true) (hi : VI X W tg iter ι) (hg : VG X tg γ) (hb : VB X W sts ψ) (hs : ∀ x, foldedSetIterable iter X.env x = pure x := by intro _; rfl) : VS X W (.For tg iter sts [] pos) (forS γ ι ψ) := by
  obtain ⟨wi, pi, ri⟩ := hi
  obtain ⟨tg', pg, rg⟩ := hg
  obtain ⟨tb, pb, rb⟩ := hb
  refine ⟨_, ps_for hp hc pi pg pb hs, fun H0 M0 M H σ env D g h => ?_⟩
  refine ri H0 M0 M H σ env _ g ?_
  unfold forS at h
  cases q : ι env with
  | bad => rw [q] at h; exact h
  | exc c fs => rw [q] at h; exact fun cls dd H1 e1 r1 => h M H1 σ cls dd (g.mono e1) (Sh_mono e1.v) r1
  | ok ds =>
    rw [q] at h
    intro J H1 e1 ok
    have h1 : PostS X W H0 M0 M H1 D (forL γ ψ ds env) := PostS.mono h (Sh_mono e1.v)
    refine ⟨fun i m σ' H' => m = ds.length - i ∧ ∃ M' env', Good (gm X) H0 M0 M' H' σ' env' ∧ VEx (Sh M (vw H1)) (Sh M' (vw H')) ∧ PostS X W H0 M0 M' H' D (forL γ ψ (ds.drop i) env'), ⟨ds.length, rfl, M, env, g.mono e1, .refl _, h1⟩, ?_⟩
    rintro i m σ' H' ⟨rfl, M', env', g', e', h'⟩
    obtain ⟨o1, o2⟩ := ok M' H' g'.ok g'.ex e' i
    cases qd : ds[i]? with
    | none =>
      have hi : ds.length ≤ i := List.getElem?_eq_none_iff.mp qd
      rw [List.drop_of_length_le hi] at h'
      exact .inl ⟨o1 hi, h' M' H' σ' g' (.refl _)⟩
    | some d =>
      obtain ⟨o3, o4⟩ := o2 d qd
      have hi : i < ds.length := (List.getElem?_eq_some_iff.mp qd).1
      have hdr : ds.drop i = d :: ds.drop (i + 1) := by
        rw [List.drop_eq_getElem_cons hi]
        rw [List.getElem?_eq_getElem hi] at qd
        cases qd; rfl
      rw [hdr] at h'
      unfold forL at h'
      cases qg : γ d env' with
      | none => rw [qg] at h'; exact h'.elim
      | some env1 =>
        rw [qg] at h'
        refine .inr ⟨o3, fun σ2 H2 => ∃ M2 env2, Good (gm X) H0 M0 M2 H2 σ2 env2 ∧ VEx (Sh M (vw H1)) (Sh M2 (vw H2)) ∧ PostS X W H0 M0 M2 H2 D (forL γ ψ (ds.drop (i + 1)) env2), fun σ2 H2 ⟨M2, env2, x1, x2, x3⟩ => ⟨ds.length - (i + 1), by omega, rfl, M2, env2, x1, x2, x3⟩, fun x H2 y => ?_⟩
        obtain ⟨ey, ry⟩ := o4 x H2 y
        refine rg H0 M0 M' H2 σ' env' env1 d x _ (g'.mono ey) ry qg fun σ3 g3 => ?_
        have h3 : PostS X W H0 M0 M' H2 D (flowL (ψ env1) (forL γ ψ (ds.drop (i + 1)))) := PostS.mono h' (Sh_mono (M := M') ey.v)
        have e3 := e'.trans (Sh_mono (M := M') ey.v)
        refine rb H0 M0 M' H2 σ3 env1 _ g3 ?_
        cases qb : ψ env1 with
        | nx env2 => rw [qb] at h3; exact fun M4 H4 σ4 g4 e4 => ⟨M4, env2, g4, e3.trans e4, PostS.mono h3 e4⟩
        | ct env2 => rw [qb] at h3; exact fun M4 H4 σ4 g4 e4 => ⟨M4, env2, g4, e3.trans e4, PostS.mono h3 e4⟩
        | bk env2 => rw [qb] at h3; exact h3
        | rt d => rw [qb] at h3; exact h3
        | xc c fs env2 => rw [qb] at h3; exact h3
        | bad => rw [qb] at h3; exact h3
        | ro d => rw [qb] at h3; exact h3
end
end VL

set_option maxRecDepth 100000
set_option maxHeartbeats 2000000
namespace VL
open PySem L2

def env0 (m : Nat) (ds : List D) : Env := ds.map .sh ++ List.replicate (m - ds.length) .no
def outS : SRes → Res D
  | .rt d => .ok d
  | .nx _ => .ok .non
  | .xc c fs _ => .exc c fs
  | _ => .bad
def defM (m : Nat) (ψ : Env → SRes) (ds : List D) : Res D := outS (ψ (env0 m ds))
theorem good0 {mg : Gm} {H : Hp} {M : Addr → Bool} {ds : List D} {vs : List V} {N : List Str} (m : MOk M H) (r : RpL mg (Sh M (vw H)) ds vs) : Good mg H M M H (L2.start N vs) (env0 N.length ds) where
  len := by unfold L2.start env0; rw [List.length_append, List.length_append, List.length_map, List.length_map, List.length_replicate, List.length_replicate, r.length]
  ok := m
  sub := fun a h => h
  new := fun a h => .inl h
  ok0 := m
  ex := .refl H
  sl := fun i s h => by
    unfold env0 at h
    by_cases hi : i < ds.length
    · rw [List.getElem?_append_left (by rw [List.length_map]; exact hi), List.getElem?_map] at h
      cases q : ds[i]? with
      | none => rw [q] at h; cases h
      | some d =>
        rw [q] at h
        cases h
        obtain ⟨v, hv, rv⟩ := r.get q
        refine ⟨v, ?_, rv⟩
        unfold L2.start
        rw [List.getElem?_append_left (by rw [List.length_map, ← r.length]; exact hi), List.getElem?_map, hv]
        rfl
    · rw [List.getElem?_append_right (by rw [List.length_map]; omega)] at h
      have := List.mem_of_getElem? h
      rw [List.mem_replicate] at this
      rw [this.2]
      trivial
  inj := fun i j p hne h1 h2 h3 => by
    have no : isOw (env0 N.length ds)[i]? = false := by
      unfold env0
      by_cases hi : i < ds.length
      · rw [List.getElem?_append_left (by rw [List.length_map]; exact hi), List.getElem?_map]
        cases ds[i]? <;> rfl
      · rw [List.getElem?_append_right (by rw [List.length_map]; omega)]
        cases q : (List.replicate (N.length - ds.length) Sl.no)[i - (List.map Sl.sh ds).length]? with
        | none => rfl
        | some s =>
          have := List.mem_of_getElem? q
          rw [List.mem_replicate] at this
          rw [this.2]; rfl
    rw [no] at h1; cases h1
abbrev WB (E : XK) : WX := fun cls d _ H => E cls d H
theorem fun_okN {P : Program} {w : World} {K : PySem.W.Frag} {mg : Str → Option Value} {base : Heap} {CX : CXT} {x qual : Str} {st : Stmt} {f : Addr} {fd : FuncData} {N ps : List Str} {k : Nat} {sp : Sp} (F : Fun K x qual st f fd) (S : FnScope N ps (defScope st)) (len : ∀ vs H Q E, sp vs H Q E → vs.length = ps.length)
    (hbody : ∀ (cdv : Value) (A : Around) (outer : List PySem.Env) (s : Shared) (H : Hp) (vs : List V) (Q : VK) (E : XK), Room k (A.deeper (PyProof.Rows.envOfC qual (defScope st) s.heap.objs.size f cdv)) → sp vs H Q E →
      ∃ t, PSs (cxOf CX P w K mg base N qual (defScope st) f cdv A outer s H E) (defBody st) t ∧ t { nx := fun _ H' => Q .non H', rt := Q } (L2.start N vs) H) : FnOk P w K mg base CX (k + 1) f fd ps sp := by
  obtain ⟨oc, od, kV, doc, pm, an, cdv, ct, osl, rfl, lk, hcd⟩ := F.ex
  exact fn_of lk hcd S len fun A outer s H vs Q E hr hsp => hbody cdv A outer s H vs Q E hr hsp
theorem fn_v {P : Program} {w : World} {K : PySem.W.Frag} {mg : Str → Option Value} {base : Heap} {x qual : Str} {st : Stmt} {f : Addr} {fd : FuncData} {N ps : List Str} {k n : Nat} {ψ : Env → SRes} (F : Fun K x qual st f fd) (S : FnScope N ps (defScope st)) (hn : ps.length = n)
    (body : ∀ (cdv : Value) (A : Around) (outer : List PySem.Env) (s : Shared) (H : Hp) (E : XK), Room k (A.deeper (PyProof.Rows.envOfC qual (defScope st) s.heap.objs.size f cdv)) →
      L2N.Takes (cxOf (L2N.CX P w) P w K mg base N qual (defScope st) f cdv A outer s H E) (WB E) →
      PassesOwn (model P w) (A.deeper (PyProof.Rows.envOfC qual (defScope st) s.heap.objs.size f cdv)) (PyProof.Rows.envOfC qual (defScope st) s.heap.objs.size f cdv) (cxOf (L2N.CX P w) P w K mg base N qual (defScope st) f cdv A outer s H E).xe →
      VB (cxOf (L2N.CX P w) P w K mg base N qual (defScope st) f cdv A outer s H E) (WB E) (defBody st) ψ) :
    FnOk P w K mg base (L2N.CX P w) (k + 1) f fd ps (spV ⟨P, w, K, mg⟩ n (defM N.length ψ)) := by
  refine fun_okN F S (fun vs H Q E h => h.1.trans hn.symm) fun cdv A outer s H vs Q E hr h => ?_
  obtain ⟨hl, M, ds, m, r, post⟩ := h
  obtain ⟨t, p, rr⟩ := body cdv A outer s H E hr (L2N.takes_of rfl rfl rfl rfl) (passes_of rfl)
  refine ⟨t, p, rr H M M H _ (env0 N.length ds) _ (good0 m r) ?_⟩
  unfold defM at post
  cases q : ψ (env0 N.length ds) with
  | rt d => rw [q] at post; exact fun v H' e r' => post v H' e r'
  | nx env => rw [q] at post; exact fun M' H' σ' g e => post .non H' g.ex .non
  | bk env => rw [q] at post; exact post.elim
  | ct env => rw [q] at post; exact post.elim
  | xc c fs env =>
    rw [q] at post
    exact fun M' H' σ' cls dd g e r' => post cls dd H' g.ex (r'.mono (Good.rt (X := cxOf (L2N.CX P w) P w K mg base N qual (defScope st) f cdv A outer s H E) g))
  | bad => rw [q] at post; exact post
  | ro d => rw [q] at post; exact post.elim
theorem fn_is {P : Program} {w : World} {K : PySem.W.Frag} {mg : Str → Option Value} {base : Heap} {CX : CXT} {f : Addr} {fd : FuncData} {ps : List Str} {k n : Nat} {gm : Gm} {F G : List D → Res D} (h : FnOk P w K mg base CX k f fd ps (spV gm n F)) (e : ∀ ds, G ds ≠ .bad → F ds = G ds) :
    FnOk P w K mg base CX k f fd ps (spV gm n G) := h.imp fun vs H Q E s => by
  obtain ⟨hl, M, ds, m, r, post⟩ := s
  refine ⟨hl, M, ds, m, r, ?_⟩
  by_cases c : G ds = .bad
  · rw [c] at post; exact post.elim
  · rw [e ds c]; exact post

def tVE (g : Gm) (X : Cx) (W : WX) (fl : Bool) (φ : Env → Res D) : TE := fun σ H Q => ∃ H0 M0 M env, Good g H0 M0 M H σ env ∧ PostE X W fl M σ H Q (φ env)
def tVT (g : Gm) (X : Cx) (W : WX) (τ : Env → Res Bool) : TT := fun σ H Q => ∃ H0 M0 M env, Good g H0 M0 M H σ env ∧ PostT X W M σ H Q (τ env)
def wipeE : Env → List Nat → Env
  | env, [] => env
  | env, v :: vs => (wipeE env vs).set v .no
theorem Good.no {mg : Gm} {H0 H : Hp} {M0 M : Addr → Bool} {σ : L2.St} {env : Env} (g : Good mg H0 M0 M H σ env) (i : Nat) (x : Option V) : Good mg H0 M0 M H (σ.set i x) (env.set i .no) where
  len := by rw [List.length_set, List.length_set]; exact g.len
  ok := g.ok
  sub := g.sub
  new := g.new
  ok0 := g.ok0
  ex := g.ex
  sl := fun j s h => by
    by_cases e : j = i
    · subst e
      have hj : j < env.length := by
        have := (List.getElem?_eq_some_iff.mp h).1
        rw [List.length_set] at this; exact this
      rw [List.getElem?_set_self hj] at h
      cases h
      trivial
    · rw [get_set_ne e] at h ⊢
      exact g.sl j s h
  inj := fun j k p hne h1 h2 h3 => by
    by_cases e1 : j = i
    · subst e1; rw [isOw_sh rfl] at h1; cases h1
    · by_cases e2 : k = i
      · subst e2; rw [isOw_sh rfl] at h2; cases h2
      · rw [get_set_ne e1] at h1 h3
        rw [get_set_ne e2] at h2 ⊢
        exact g.inj j k p hne h1 h2 h3
theorem Good.wipe {mg : Gm} {H0 H : Hp} {M0 M : Addr → Bool} {σ : L2.St} {env : Env} (g : Good mg H0 M0 M H σ env) : ∀ vs : List Nat, Good mg H0 M0 M H (L2.wipe σ vs) (wipeE env vs)
  | [] => g
  | v :: vs => (Good.wipe g vs).no v none
theorem Good.beside {mg : Gm} {H0 H H' : Hp} {M0 M : Addr → Bool} {σ : L2.St} {env : Env} (g : Good mg H0 M0 M H σ env) {p : Addr} (hp : H p = none) (e : Ext H H') {xs : List V} (hx : H' p = some (.lst xs)) : Good mg H0 M0 (addM M p) H' σ env where
  len := g.len
  ok := by
    have m := g.ok.mono e
    refine ⟨fun a h => ?_, fun a xs h z => ?_, fun a fs h z => ?_⟩
    · by_cases q : a = p
      · subst q; exact ⟨_, hx⟩
      · rw [addM_ne q] at h; exact m.dom a h
    · by_cases q : a = p
      · subst q; rw [hx] at z; cases z
      · rw [addM_ne q] at h; exact m.tup a xs h z
    · by_cases q : a = p
      · subst q; rw [hx] at z; cases z
      · rw [addM_ne q] at h; exact m.xd a fs h z
  sub := fun a h => by
    by_cases q : a = p
    · subst q; exact addM_self
    · rw [addM_ne q]; exact g.sub a h
  new := fun a h => by
    by_cases q : a = p
    · subst q; exact .inr (g.h0 hp)
    · rw [addM_ne q] at h; exact g.new a h
  ok0 := g.ok0
  ex := g.ex.trans e
  sl := fun j s h => (g.sl j s h).imp (sh_add e hp) fun a _ ha => ⟨by
    have : a ≠ p := fun z => by rw [z, (g.nm hp).1] at ha; cases ha
    rw [addM_ne this]; exact ha, fun o ho => e a o ho⟩
  inj := g.inj
theorem Good.turn {mg : Gm} {H0 H : Hp} {M0 M : Addr → Bool} {σ : L2.St} {env : Env} (g : Good mg H0 M0 M H σ env) {p : Addr} {xs : List V} (mp : M p = true) (h0 : H0 p = none) (hs : ∀ i : Nat, isOw env[i]? = true → σ[i]? ≠ some (some (V.ref p))) : Good mg H0 M0 M (upd H p (.lst xs)) σ env where
  len := g.len
  ok := by
    refine ⟨fun a h => ?_, fun a xs h z => ?_, fun a fs h z => ?_⟩
    · by_cases q : a = p
      · subst q; exact ⟨_, upd_same⟩
      · rw [upd_ne q]; exact g.ok.dom a h
    · by_cases q : a = p
      · subst q; rw [upd_same] at z; cases z
      · rw [upd_ne q] at z; exact g.ok.tup a xs h z
    · by_cases q : a = p
      · subst q; rw [upd_same] at z; cases z
      · rw [upd_ne q] at z; exact g.ok.xd a fs h z
  sub := g.sub
  new := g.new
  ok0 := g.ok0
  ex := g.ex.mut h0
  sl := fun j s h => by
    cases s with
    | no => trivial
    | sh d =>
      obtain ⟨x, e2, r2⟩ := g.sl j _ h
      exact ⟨x, e2, by rw [sh_mut mp]; exact r2⟩
    | ow d =>
      obtain ⟨a, e2, m2, m3, r2⟩ := g.sl j _ h
      have hne : a ≠ p := fun z => by subst z; exact hs j (by rw [h]; rfl) e2
      exact ⟨a, e2, m2, m3, r2.imp (by rw [sh_mut mp]; exact .refl _) fun o ho => by rw [upd_ne hne]; exact ho⟩
  inj := g.inj
end VL

set_option maxRecDepth 100000
set_option maxHeartbeats 2000000
namespace VL
open PySem L2

theorem wipe_get (σ : L2.St) : ∀ (vs : List Nat) (j : Nat), (L2.wipe σ vs)[j]? = if j ∈ vs ∧ j < σ.length then some none else if j ∈ vs then none else σ[j]?
  | [], j => by simp [L2.wipe]
  | v :: vs, j => by
    show ((L2.wipe σ vs).set v none)[j]? = _
    by_cases e : j = v
    · subst e
      by_cases hl : j < σ.length
      · rw [List.getElem?_set_self (by rw [L2.wipe_length]; exact hl), if_pos ⟨List.mem_cons_self, hl⟩]
      · rw [List.getElem?_eq_none (by rw [List.length_set, L2.wipe_length]; omega), if_neg (fun q => hl q.2), if_pos List.mem_cons_self]
    · rw [List.getElem?_set_ne (Ne.symm e), wipe_get σ vs j]
      have : j ∈ v :: vs ↔ j ∈ vs := by simp [e]
      simp only [this]
theorem wipe_set {σ : L2.St} {vs : List Nat} {i : Nat} {x : Option V} (h : i ∈ vs) : L2.wipe (σ.set i x) vs = L2.wipe σ vs := by
  apply List.ext_getElem?
  intro j
  rw [wipe_get, wipe_get, List.length_set]
  by_cases e : j = i
  · subst e
    simp only [h, true_and, if_true]
  · rw [List.getElem?_set_ne (Ne.symm e)]
theorem wipe_wipe {σ : L2.St} {vs : List Nat} : L2.wipe (L2.wipe σ vs) vs = L2.wipe σ vs := by
  apply List.ext_getElem?
  intro j
  rw [wipe_get, wipe_get, L2.wipe_length]
  by_cases h : j ∈ vs
  · simp only [h, true_and, if_true]
  · simp only [h, false_and, if_false]
def VGc (vs : List Nat) (X : Cx) (tg : Expr) (γ : D → Env → Option Env) : Prop :=
  ∃ g : TG, PG X tg g ∧ ∀ (H0 : Hp) (M0 M : Addr → Bool) (H : Hp) (σ : L2.St) (env env' : Env) (d : D) (v : V) (Q : L2.St → Hp → Prop), Good (gm X) H0 M0 M H σ env → Rp (gm X) (Sh M (vw H)) d v → γ d env = some env' → (∀ σ', Good (gm X) H0 M0 M H σ' env' → L2.wipe σ' vs = L2.wipe σ vs → Q σ' H) → g v σ H Q
def VTs (X : Cx) (W : WX) (ifs : List Expr) (τ : Env → Res Bool) : Prop :=
  ∃ t : TT, PTs X ifs t ∧ ∀ (H0 : Hp) (M0 M : Addr → Bool) (H : Hp) (σ : L2.St) (env : Env) (Q : Bool → Hp → Prop), Good (gm X) H0 M0 M H σ env → PostT X W M σ H Q (τ env) → t σ H Q
def yesT (_ : Env) : Res Bool := .ok true
abbrev W0 : WX := fun _ _ _ _ => False
section
variable {X : Cx} {W : WX} {vs : List Nat} {e : Expr} {pos : Pos} {τ : Env → Res Bool}
theorem vgc_n (i : Nat) {x : Str} (hm : i ∈ vs) (hN : X.N.Nodup) (hi : X.N[i]? = some x := by rfl) (hx : Loc X.env.scope x := by first | exact Or.inl rfl | exact Or.inr rfl) (hf : X.fn x = true ∨ X.env.scope.names.lookup x = some .local := by first | exact .inl rfl | exact .inr rfl | assumption) :
    VGc vs X (.Name x pos) (gnG i) := ⟨_, pg_name hN hi hx hf, fun H0 M0 M H σ env env' d v Q g r e q => by cases e; exact q _ (g.set r) (wipe_set hm)⟩
theorem vts_nil : VTs X W [] yesT := ⟨_, pts_nil, fun H0 M0 M H σ env Q g h => h H (Ext.refl H)⟩
theorem vts_one (h : VT X W e τ) : VTs X W [e] τ := by
  obtain ⟨t, p, r⟩ := h
  exact ⟨_, pts_one p, r⟩
end
def compL (γ : D → Env → Option Env) (τ : Env → Res Bool) (φ : Env → Res D) (env : Env) : List D → List D → Res D
  | [], acc => .ok (.lst acc)
  | d :: ds, acc => match γ d env with
    | none => .bad
    | some env1 => match τ env1 with
      | .ok true => (match φ env1 with
        | .ok y => if acc.length < sizeLine then compL γ τ φ env ds (acc ++ [y]) else .bad
        | _ => .bad)
      | .ok false => compL γ τ φ env ds acc
      | _ => .bad
def lcE (vs : List Nat) (γ : D → Env → Option Env) (ι : Env → Res (List D)) (τ : Env → Res Bool) (φ : Env → Res D) (env : Env) : Res D := (ι env).bind fun ds => compL γ τ φ (wipeE env vs) ds []
def tGc (g : Gm) (vs : List Nat) (γ : D → Env → Option Env) : TG := fun v σ H Q => ∃ (H0 : Hp) (M0 M : Addr → Bool) (env env' : Env) (d : D), Good g H0 M0 M H σ env ∧ Rp g (Sh M (vw H)) d v ∧ γ d env = some env' ∧ ∀ σ', Good g H0 M0 M H σ' env' → L2.wipe σ' vs = L2.wipe σ vs → Q σ' H
section
variable {X : Cx} {W : WX} {tg iter elt : Expr} {ifs : List Expr} {scope : Scope} {own : List (Str × Nat)} {pos : Pos} {ι : Env → Res (List D)} {γ : D → Env → Option Env} {τ : Env → Res Bool} {φ : Env → Res D}
theorem lc_parts {own : List (Str × Nat)} (hg : ∀ (s : Shared) (H : Hp) (C : Addr) (cl : List (Str × Addr)) (fp : List Addr), VGc (own.map (·.2)) (X.blk s H scope (compEnvC scope cl C X.env) fp) tg γ)
    (ht : ∀ (s : Shared) (H : Hp) (C : Addr) (cl : List (Str × Addr)) (fp : List Addr), VTs (X.blk s H scope (compEnvC scope cl C X.env) fp) W0 ifs τ)
    (he : ∀ (s : Shared) (H : Hp) (C : Addr) (cl : List (Str × Addr)) (fp : List Addr), VE (X.blk s H scope (compEnvC scope cl C X.env) fp) W0 true elt φ) :
    (∀ (s : Shared) (H : Hp) (C : Addr) (cl : List (Str × Addr)) (fp : List Addr), PG (X.blk s H scope (compEnvC scope cl C X.env) fp) tg (tGc (gm X) (own.map (·.2)) γ)) ∧
    (∀ (s : Shared) (H : Hp) (C : Addr) (cl : List (Str × Addr)) (fp : List Addr), PTs (X.blk s H scope (compEnvC scope cl C X.env) fp) ifs (tVT (gm X) X W0 τ)) ∧
    ∀ (s : Shared) (H : Hp) (C : Addr) (cl : List (Str × Addr)) (fp : List Addr), PE (X.blk s H scope (compEnvC scope cl C X.env) fp) elt (tVE (gm X) X W0 true φ) := by
  refine ⟨fun s H C cl fp => ?_, fun s H C cl fp => ?_, fun s H C cl fp => ?_⟩
  · obtain ⟨g, p, r⟩ := hg s H C cl fp
    exact ⟨fun pins s1 σ1 H1 v u Q I rv ⟨H0, M0, M, env, env', d, g0, rp, e, k⟩ => p.run pins s1 σ1 H1 v u Q I rv (r H0 M0 M H1 σ1 env env' d v Q g0 rp e k)⟩
  · obtain ⟨g, p, r⟩ := ht s H C cl fp
    exact ⟨fun pins s1 σ1 H1 Q I ⟨H0, M0, M, env, g0, k⟩ => p.run pins s1 σ1 H1 Q I (r H0 M0 M H1 σ1 env Q g0 k)⟩
  · obtain ⟨g, p, r⟩ := he s H C cl fp
    exact ⟨fun pins s1 σ1 H1 Q I ⟨H0, M0, M, env, g0, k⟩ => p.run pins s1 σ1 H1 Q I (r H0 M0 M H1 σ1 env Q g0 k)⟩
theorem lc_read {wi : TI} (vs : List Nat) {H0 : Hp} {M0 M : Addr → Bool} {H : Hp} {σ : L2.St} {env : Env} {Q : VK} (ri : ∀ R : It → Hp → Prop, PostI X W H0 M σ H R (ι env) → wi σ H R) (g : Good (gm X) H0 M0 M H σ env) (h : PostN X W M σ H Q (lcE vs γ ι τ φ env)) :
    tLc wi (tGc (gm X) vs γ) (tVT (gm X) X W0 τ) (tVE (gm X) X W0 true φ) vs σ H Q := by
  refine ri _ ?_
  have h0 : PostN X W M σ H Q ((ι env).bind fun ds => compL γ τ φ (wipeE env vs) ds []) := h
  cases q : ι env with
  | bad => rw [q] at h0; exact h0
  | exc c fs => rw [q] at h0; exact h0
  | ok ds =>
    rw [q] at h0
    have h1 : PostN X W M σ H Q (compL γ τ φ (wipeE env vs) ds []) := h0
    clear h0 h
    intro J H1 e1 ok1 Dd hD
    have gw := (g.mono e1).wipe vs
    have hs0 : ∀ i : Nat, isOw (wipeE env vs)[i]? = true → (L2.wipe σ vs)[i]? ≠ some (some (V.ref Dd)) := fun i ho hr => by
      cases z : (wipeE env vs)[i]? with
      | none => rw [z] at ho; cases ho
      | some s =>
        rw [z] at ho
        cases s with
        | ow d =>
          obtain ⟨p, hp, mp, _⟩ := gw.sl i _ z
          rw [hr] at hp
          cases hp
          rw [(gw.nm hD).1] at mp; cases mp
        | no => cases ho
        | sh _ => cases ho
    refine ⟨fun i m Hc => m = ds.length - i ∧ ∃ (acc : List V) (accD : List D), Good (gm X) H0 M0 (addM M Dd) Hc (L2.wipe σ vs) (wipeE env vs) ∧ Hc Dd = some (.lst acc) ∧ RpL (gm X) (Sh (addM M Dd) (vw Hc)) accD acc ∧
      VEx (Sh M (vw H1)) (Sh (addM M Dd) (vw Hc)) ∧ Ext H1 Hc ∧ PostN X W M σ H Q (compL γ τ φ (wipeE env vs) (ds.drop i) accD), ⟨ds.length, rfl, [], [], gw.beside hD (Ext.new hD) upd_same, upd_same, .nil, sh_add (Ext.new hD) hD, Ext.new hD, h1⟩, ?_⟩
    rintro i m Hc ⟨rfl, acc, accD, gc, hx, rx, ve, ex, hp⟩
    obtain ⟨o1, o2⟩ := ok1 _ Hc gc.ok gc.ex ve i
    cases qd : ds[i]? with
    | none =>
      have hi : ds.length ≤ i := List.getElem?_eq_none_iff.mp qd
      rw [List.drop_of_length_le hi] at hp
      exact .inl ⟨o1 hi, hp Dd Hc (e1.fresh hD) (e1.trans ex) ⟨acc, hx, rx⟩⟩
    | some d =>
      obtain ⟨o3, o4⟩ := o2 d qd
      have hi : i < ds.length := (List.getElem?_eq_some_iff.mp qd).1
      have hdr : ds.drop i = d :: ds.drop (i + 1) := by
        rw [List.drop_eq_getElem_cons hi]
        rw [List.getElem?_eq_getElem hi] at qd
        cases qd; rfl
      rw [hdr] at hp
      unfold compL at hp
      refine .inr ⟨o3, fun Hc' => ∃ (acc : List V) (accD : List D), Good (gm X) H0 M0 (addM M Dd) Hc' (L2.wipe σ vs) (wipeE env vs) ∧ Hc' Dd = some (.lst acc) ∧ RpL (gm X) (Sh (addM M Dd) (vw Hc')) accD acc ∧
        VEx (Sh M (vw H1)) (Sh (addM M Dd) (vw Hc')) ∧ Ext H1 Hc' ∧ PostN X W M σ H Q (compL γ τ φ (wipeE env vs) (ds.drop (i + 1)) accD), fun Hc' w => ⟨ds.length - (i + 1), by omega, rfl, w⟩, fun x H2 y => ?_⟩
      obtain ⟨ey, ry⟩ := o4 x H2 y
      cases qg : γ d (wipeE env vs) with
      | none => rw [qg] at hp; exact hp.elim
      | some env1 =>
        rw [qg] at hp
        refine ⟨H0, M0, addM M Dd, _, env1, d, gc.mono ey, ry, qg, fun σ2 g2 w2 => ⟨by rw [w2, wipe_wipe], ?_⟩⟩
        refine ⟨H0, M0, addM M Dd, env1, g2, ?_⟩
        have hp2 : PostN X W M σ H Q (match τ env1 with
          | .ok true => (match φ env1 with
            | .ok y => if accD.length < sizeLine then compL γ τ φ (wipeE env vs) (ds.drop (i + 1)) (accD ++ [y]) else .bad
            | _ => .bad)
          | .ok false => compL γ τ φ (wipeE env vs) (ds.drop (i + 1)) accD
          | _ => .bad) := hp
        cases qt : τ env1 with
        | bad => rw [qt] at hp2; exact hp2.elim
        | exc c fs => rw [qt] at hp2; exact hp2.elim
        | ok b =>
          rw [qt] at hp2
          intro H3 e3
          cases b with
          | false =>
            rw [if_neg Bool.false_ne_true]
            exact ⟨acc, accD, (gc.mono ey).mono e3, e3 _ _ (ey _ _ hx), rx.mono (Sh_mono (ey.trans e3).v), ve.trans (Sh_mono (ey.trans e3).v), (ex.trans ey).trans e3, hp2⟩
          | true =>
            rw [if_pos rfl]
            refine ⟨H0, M0, addM M Dd, env1, g2.mono e3, ?_⟩
            have hp3 : PostN X W M σ H Q (match φ env1 with
              | .ok y => if accD.length < sizeLine then compL γ τ φ (wipeE env vs) (ds.drop (i + 1)) (accD ++ [y]) else .bad
              | _ => .bad) := hp2
            cases qf : φ env1 with
            | bad => rw [qf] at hp3; exact hp3.elim
            | exc c fs => rw [qf] at hp3; exact hp3.elim
            | ok yD =>
              rw [qf] at hp3
              intro v H4 e4 r4
              have hp4 : PostN X W M σ H Q (if accD.length < sizeLine then compL γ τ φ (wipeE env vs) (ds.drop (i + 1)) (accD ++ [yD]) else .bad) := hp3
              by_cases cz : accD.length < sizeLine
              · rw [if_pos cz] at hp4
                have e34 : Ext Hc H4 := (ey.trans e3).trans e4
                have gm4 := gc.mono e34
                have rx4 : RpL (gm X) (Sh (addM M Dd) (vw H4)) accD acc := rx.mono (Sh_mono e34.v)
                refine ⟨acc, e34 _ _ hx, by rw [← rx.length]; exact cz, acc ++ [v], accD ++ [yD], gm4.turn addM_self (g.h0 (e1.fresh hD)) hs0, upd_same, ?_, ?_, ?_, hp4⟩
                · rw [sh_mut addM_self]; exact rx4.append (.cons r4 .nil)
                · rw [sh_mut addM_self]; exact ve.trans (Sh_mono e34.v)
                · exact (ex.trans e34).mut hD
              · rw [if_neg cz] at hp4; exact hp4.elim
theorem vf_lc (hc : X.calm = true) (hN : X.N.Nodup) (hi : VI X W tg iter ι) (ok : BlkOk X.N X.env.scope scope own)
    (hg : ∀ (s : Shared) (H : Hp) (C : Addr) (cl : List (Str × Addr)) (fp : List Addr), VGc (own.map (·.2)) (X.blk s H scope (compEnvC scope cl C X.env) fp) tg γ)
    (ht : ∀ (s : Shared) (H : Hp) (C : Addr) (cl : List (Str × Addr)) (fp : List Addr), VTs (X.blk s H scope (compEnvC scope cl C X.env) fp) W0 ifs τ)
    (he : ∀ (s : Shared) (H : Hp) (C : Addr) (cl : List (Str × Addr)) (fp : List Addr), VE (X.blk s H scope (compEnvC scope cl C X.env) fp) W0 true elt φ)
    (hs : ∀ x, foldedSetIterable iter X.env x = pure x := by intro _; rfl) : VF X W (.ListComp elt [⟨tg, iter, ifs, 0⟩] scope pos) (lcE (own.map (·.2)) γ ι τ φ) := by
  obtain ⟨wi, pi, ri⟩ := hi
  obtain ⟨pg, pt, pe⟩ := lc_parts hg ht he
  exact ⟨_, pe_lc hc hN pi ok pg pt pe hs, fun H0 M0 M H σ env Q g h => lc_read _ (fun R => ri H0 M0 M H σ env R g) g h⟩
theorem vs_lcSet (i : Nat) {y : Str} {py spos : Pos} (hc : X.calm = true) (hN : X.N.Nodup) (hi : VI X W tg iter ι) (ok : BlkOk X.N X.env.scope scope own)
    (hg : ∀ (s : Shared) (H : Hp) (C : Addr) (cl : List (Str × Addr)) (fp : List Addr), VGc (own.map (·.2)) (X.blk s H scope (compEnvC scope cl C X.env) fp) tg γ)
    (ht : ∀ (s : Shared) (H : Hp) (C : Addr) (cl : List (Str × Addr)) (fp : List Addr), VTs (X.blk s H scope (compEnvC scope cl C X.env) fp) W0 ifs τ)
    (he : ∀ (s : Shared) (H : Hp) (C : Addr) (cl : List (Str × Addr)) (fp : List Addr), VE (X.blk s H scope (compEnvC scope cl C X.env) fp) W0 true elt φ) (hy : X.N[i]? = some y := by rfl) (hyl : X.env.scope.names.lookup y = some .local := by rfl)
    (hsw : swapsWith (.ListComp elt [⟨tg, iter, ifs, 0⟩] scope pos) (some (.Name y py)) spos.line X.env = pure true := by exact sw_true rfl rfl rfl (by decide +kernel))
    (hs : ∀ x, foldedSetIterable iter X.env x = pure x := by intro _; rfl) : VS X W (.Assign [.Name y py] (.ListComp elt [⟨tg, iter, ifs, 0⟩] scope pos) spos) (setS i (lcE (own.map (·.2)) γ ι τ φ)) := by
  obtain ⟨wi, pi, ri⟩ := hi
  obtain ⟨pg, pt, pe⟩ := lc_parts hg ht he
  refine ⟨_, ps_setLc hc hN hy hyl hsw pi ok pg pt pe hs, fun H0 M0 M H σ env D g h => lc_read _ (fun R => ri H0 M0 M H σ env R g) g ?_⟩
  unfold setS at h
  cases q : lcE (own.map (·.2)) γ ι τ φ env with
  | ok d =>
    rw [q] at h
    exact fun p H' hp e' o => h M H' _ ((g.mono e').set (OwOk.rpN (g.nm hp).1 o)) (Sh_mono e'.v)
  | exc c fs => rw [q] at h; exact fun cls dd H1 e1 r1 => h M H1 σ cls dd (g.mono e1) (Sh_mono e1.v) r1
  | bad => rw [q] at h; exact h
def strsOf : List D → Option (List Str)
  | [] => some []
  | .str s :: r => (strsOf r).map fun l => s :: l
  | _ :: _ => none
def joinS (a : Str) (ds : List D) : Res D := match strsOf ds with
  | some ys => if (ys.map (·.length)).sum + ys.length * a.length ≤ 16777216 then .ok (.str (Txt.join a ys)) else .bad
  | none => .bad
def joinD (a : Str) : D → Res D
  | .lst ds => joinS a ds
  | .tup ds => joinS a ds
  | _ => .bad
def strE (f : Str → D → Res D) (φa φb : Env → Res D) (env : Env) : Res D := (φa env).bind fun d => match d with
  | .str a => (φb env).bind (f a)
  | _ => .bad
theorem strsOf_rp {mg : Gm} {G : Vw} : ∀ {ds : List D} {xs : List V} {ys : List Str}, RpL mg G ds xs → strsOf ds = some ys → xs = ys.map V.str
  | [], _, _, .nil, h => by cases h; rfl
  | d :: ds, _, ys, .cons r t, h => by
    cases d <;> first | (cases h; done) | skip
    rename_i s
    have h' : (strsOf ds).map (fun l => s :: l) = some ys := h
    cases q : strsOf ds with
    | none => rw [q] at h'; cases h'
    | some l =>
      rw [q] at h'
      cases h'
      cases r
      rw [strsOf_rp t q]
      rfl
end
section
variable {X : Cx} {W : WX} {fl fla flb : Bool} {o e : Expr} {apos pos : Pos} {φa φb : Env → Res D}
theorem ve_join (ha : VE X W fla o φa) (hb : VE X W flb e φb) (hs : starEach [e] X.env = [(false, eval e X.env)] := by rfl) (hbase : attributeBase o "join" X.env (eval o X.env) = eval o X.env := by rfl) (hline : (apos.endLine == pos.line) = true := by rfl) :
    VE X W fl (.Call (.Attribute o "join" apos) [e] [] pos) (strE joinD φa φb) := by
  obtain ⟨ta, pa, ra⟩ := ha
  obtain ⟨tb, pb, rb⟩ := hb
  refine ⟨_, pe_join pa pb hs hbase hline, fun H0 M0 M H σ env Q g h => ?_⟩
  refine ra H0 M0 M H σ env _ g (PostE.seq h fun d v H1 e1 r1 h1 => ?_)
  cases r1 <;> first | exact h1.elim | skip
  case str a =>
    refine ⟨⟨a, rfl⟩, rb H0 M0 M H1 σ env _ (g.mono e1) (PostE.seq h1 fun d2 v2 H2 e2 r2 h2 => ?_)⟩
    have r2' := r2.mono (vis_le flb M _)
    have go : ∀ {ds : List D} {xs : List V} {p : Addr}, RpL (gm X) (vw H2) ds xs → (SqL X.K H2 p xs ∨ SqT X.K H2 p xs) → PostE X W fl M σ H2 Q (joinS a ds) → ∃ a' p' , ∃ ys : List Str, V.str a = .str a' ∧ [V.ref p] = [.ref p'] ∧ (SqL X.K H2 p' (ys.map V.str) ∨ SqT X.K H2 p' (ys.map V.str)) ∧
        (ys.map (·.length)).sum + ys.length * a'.length ≤ 16777216 ∧ Q (.str (Txt.join a' ys)) H2 := fun {ds xs p} rp sq h3 => by
      unfold joinS at h3
      cases q : strsOf ds with
      | none => rw [q] at h3; exact h3.elim
      | some ys =>
        rw [q] at h3
        obtain ⟨hz, h3⟩ := PostE.ite h3
        have ex := strsOf_rp rp q
        subst ex
        exact ⟨a, p, ys, rfl, rfl, sq, hz, h3 _ H2 (Ext.refl _) (.str _)⟩
    cases r2' <;> first | exact h2.elim | skip
    case tup p xs ds hp rp => exact go rp (.inr (.inl (.inl (vw_tup hp)))) h2
    case lst p xs ds hp rp => exact go rp (.inl (.inl (vw_lst hp))) h2
end
end VL

set_option maxRecDepth 100000
set_option maxHeartbeats 2000000
namespace VL
open PySem L2

theorem ru1 {k : Nat} {A : Around} (r : Room k A) : A.units + 1 < cLine := by have := r.un; omega
theorem ru65 {k : Nat} {A : Around} (r : Room k A) : A.units + 65 < cLine := by have := r.un; omega
theorem tkW0 {X : Cx} : L2N.Takes X (fun _ _ _ _ => False) := fun _ _ ⟨_, _, _, _, _, _, _, _, _, _, _, _, _, _, _, _, w⟩ => w.elim
theorem la_nil : ∀ (env : Env) (ds : List D), nilA env = .ok ds → ds.length = 0 := fun _ _ h => by cases h; rfl
theorem la_cons {n : Nat} {φ : Env → Res D} {φs : Env → Res (List D)} (h : ∀ env ds, φs env = .ok ds → ds.length = n) : ∀ (env : Env) (ds : List D), consA φ φs env = .ok ds → ds.length = n + 1 := fun env ds e => by
  unfold consA at e
  cases q : φ env with
  | ok d =>
    rw [q] at e
    have e' : (φs env).bind (fun ds => Res.ok (d :: ds)) = .ok ds := e
    cases z : φs env with
    | ok ds' =>
      rw [z] at e'
      cases e'
      rw [List.length_cons, h env ds' z]
    | exc c fs => rw [z] at e'; cases e'
    | bad => rw [z] at e'; cases e'
  | exc c fs => rw [q] at e; cases e
  | bad => rw [q] at e; cases e
structure Raw (K : PySem.W.Frag) (mg : Str → Option Value) (x : Str) (st : Stmt) (ps : List Str) : Prop where
  ex : ∃ (f : Addr) (fd : FuncData), mg x = some (.ref f) ∧ Fun K x x st f fd ∧ Binds K fd ps []
structure DefOk (P : Program) (w : World) (K : PySem.W.Frag) (mg : Str → Option Value) (base : Heap) (x : Str) (k : Nat) (ps : List Str) (n : Nat) (F : List D → Res D) : Prop where
  ex : ∃ (f : Addr) (fd : FuncData), mg x = some (.ref f) ∧ PySem.W.keepIn K (.ref f) = true ∧ Binds K fd ps [] ∧ FnOk P w K mg base (L2N.CX P w) k f fd ps (spV ⟨P, w, K, mg⟩ n F)
  lk : ∀ f fd, mg x = some (.ref f) → (∃ oc od osl, K.lookup f = some ⟨oc, od, .func fd, osl⟩) → FnOk P w K mg base (L2N.CX P w) k f fd ps (spV ⟨P, w, K, mg⟩ n F)
section
variable {P : Program} {w : World} {K : PySem.W.Frag} {mg : Str → Option Value} {base : Heap} {x qual : Str} {st : Stmt} {N ps : List Str} {k n : Nat} {ψ : Env → SRes} {F G : List D → Res D}
theorem def_v (N : List Str) (ψ : Env → SRes) (R : Raw K mg x st ps) (S : FnScope N ps (defScope st)) (hn : ps.length = n) (hF : F = defM N.length ψ)
    (body : ∀ (f : Addr) (cdv : Value) (A : Around) (outer : List PySem.Env) (s : Shared) (H : Hp) (E : XK), Room k (A.deeper (PyProof.Rows.envOfC x (defScope st) s.heap.objs.size f cdv)) →
      L2N.Takes (cxOf (L2N.CX P w) P w K mg base N x (defScope st) f cdv A outer s H E) (WB E) →
      PassesOwn (model P w) (A.deeper (PyProof.Rows.envOfC x (defScope st) s.heap.objs.size f cdv)) (PyProof.Rows.envOfC x (defScope st) s.heap.objs.size f cdv) (cxOf (L2N.CX P w) P w K mg base N x (defScope st) f cdv A outer s H E).xe →
      VB (cxOf (L2N.CX P w) P w K mg base N x (defScope st) f cdv A outer s H E) (WB E) (defBody st) ψ) :
    DefOk P w K mg base x (k + 1) ps n F := by
  subst hF
  obtain ⟨f, fd, h1, h2, h3⟩ := R.ex
  refine ⟨⟨f, fd, h1, h2.kp, h3, fn_v h2 S hn (body f)⟩, fun f' fd' e h => ?_⟩
  rw [h1] at e
  cases e
  obtain ⟨_, _, _, h⟩ := h
  obtain ⟨_, _, _, _, _, _, _, _, _, _, h', _⟩ := h2.ex
  rw [h'] at h
  cases h
  exact fn_v h2 S hn (body f)
theorem DefOk.is (h : DefOk P w K mg base x k ps n F) (e : ∀ ds, G ds ≠ .bad → F ds = G ds) : DefOk P w K mg base x k ps n G := by
  obtain ⟨f, fd, h1, h2, h3, h4⟩ := h.ex
  exact ⟨⟨f, fd, h1, h2, h3, fn_is h4 e⟩, fun f fd e1 e2 => fn_is (h.lk f fd e1 e2) e⟩
variable {X : Cx} {W : WX} {fl : Bool} {e : Expr} {es : List Expr} {pos p : Pos} {φs : Env → Res (List D)}
theorem ve_def (h : DefOk X.prog X.w X.K X.mg X.base x k ps n F) (tk : L2N.Takes X W) (hr : Room k X.A) (ha : VA X W true (e :: es) φs) (hn : (e :: es).length = n) (hl : ∀ env ds, φs env = .ok ds → ds.length = n) (hg : Gl X x := by rfl) (hdb : (x == ("__debug__" : Str)) = false := by decide)
    (he : starEach (e :: es) X.env = (false, eval e X.env) :: starEach es X.env := by rfl) (hpl : (backTo pos (starEach es X.env)).any (·.1) = false := by rfl) : VE X W fl (.Call (.Name x p) (e :: es) [] pos) (aE F φs) := by
  obtain ⟨f, fd, h1, h2, h3, h4⟩ := h.ex
  exact ve_call tk h4 hr h1 h2 h3 ha hn hl hg hdb he hpl
end
theorem raw_mk {K : PySem.W.Frag} {h : Heap} {mg : Str → Option Value} {x : Str} {st : Stmt} {ps : List Str} {f : Addr} {oc : Value} {od an : Option Addr} {osl : Array (Option Value)} {kV doc pm cdv ct : Value} (X : K.In h) (G : h.Ns mainGlobals mg)
    (a : PySem.W.nsIn K mainGlobals x = some (some (.ref f))) (l : K.lookup f = some ⟨oc, od, .func (PySem.W.fnOf x x (defArgs st) (defBody st) (defScope st) .none kV doc pm an cdv ct), osl⟩) (c : PySem.W.codeIn K cdv x = true) (k : PySem.W.keepIn K (.ref f) = true)
    (hb : ∀ (kV doc pm : Value) (an : Option Addr) (cdv ct : Value) (us : List Value), us.length = ps.length → bindArgs (PySem.W.fnOf x x (defArgs st) (defBody st) (defScope st) .none kV doc pm an cdv ct) ⟨us, []⟩ = pure (ps.zip us)) : Raw K mg x st ps := by
  have F := fun_mk (st := st) l c k
  exact ⟨f, _, PySem.W.mg_of X G a, F, F.binds hb⟩
def spEnd (K : PySem.W.Frag) : Sp := fun vs H Q _ => ∃ (a : Addr) (ns : List Int), vs = [.ref a] ∧ SqL K H a (ns.map V.int) ∧ ns.length ≤ 63 ∧ (∀ z ∈ ns, Builtin.Int.intBits z ≤ 1048576) ∧ ∀ H', Q (.bl true) H'
theorem rd_vw {H : Hp} {a : Addr} {xs : List V} (h : Rd H a (.lst xs)) : vw H a = some (.lst xs) := by
  rcases h with h | ⟨o, h⟩
  · exact vw_of h trivial
  · unfold vw; rw [h]
theorem end_of {P : Program} {w : World} {K : PySem.W.Frag} {mg : Str → Option Value} {base : Heap} {CX : CXT} {f : Addr} {fd : FuncData} {ps : List Str} {k : Nat} {F : List D → Res D} (h : FnOk P w K mg base CX k f fd ps (spV ⟨P, w, K, mg⟩ 1 F))
    (e : ∀ ns : List Int, ns.length ≤ 63 → (∀ z ∈ ns, Builtin.Int.intBits z ≤ 1048576) → F [.scr ns] = .ok (.bl true)) : FnOk P w K mg base CX k f fd ps (spEnd K) := h.imp fun vs H Q E s => by
  obtain ⟨a, ns, rfl, hs, hl, hb, q⟩ := s
  refine ⟨rfl, fun _ => false, [.scr ns], MOk.empty, .cons (.scr ?_) .nil, ?_⟩
  · rcases hs with hs | hs
    · exact .inl (by rw [Sh_of rfl]; exact rd_vw hs)
    · exact .inr hs
  · rw [e ns hl hb]
    intro v H' _ r
    cases r
    exact q H'
theorem cx_end (P : Program) (w : World) (H : Hp) (s : Shared) (e : Value) (s' : Shared) (h : L2N.CX P w [] H s (fun _ _ _ => False) e s') : False := by
  obtain ⟨_, _, _, _, _, _, _, _, _, _, _, _, z⟩ := h
  exact z
end VL
namespace VL
open PySem L2
theorem law_fin {P : Program} {w : World} {K : PySem.W.Frag} {mg : Str → Option Value} {base : Heap} {x : Str} {ps : List Str} {k : Nat} {F : List D → Res D} {fa f : Addr} {fd : FuncData} {oc : Value} {od : Option Addr} {sl : Array (Option Value)}
    (h : DefOk P w K mg base x k ps 1 F) (hfa : mg x = some (.ref fa)) (hf : mg x = some (.ref f)) (l : K.lookup f = some ⟨oc, od, .func fd, sl⟩) (e : ∀ ns : List Int, ns.length ≤ 63 → (∀ z ∈ ns, Builtin.Int.intBits z ≤ 1048576) → F [.scr ns] = .ok (.bl true)) :
    FnOk P w K mg base (L2N.CX P w) k fa fd ps (spEnd K) := by
  rw [hfa] at hf
  cases hf
  exact end_of (h.lk _ _ hfa ⟨_, _, _, l⟩) e
end VL

set_option maxRecDepth 100000
set_option maxHeartbeats 2000000
namespace VL
open PySem L2
structure Post where
  nx : Env → Prop := fun _ => False
  ct : Env → Prop := fun _ => False
  bk : Env → Prop := fun _ => False
  rt : D → Prop := fun _ => False
  xc : Str → List (Str × D) → Env → Prop := fun _ _ _ => False
  ro : D → Prop := fun _ => False
def Sat (P : Post) : SRes → Prop
  | .nx e => P.nx e | .ct e => P.ct e | .bk e => P.bk e | .rt d => P.rt d | .xc c f e => P.xc c f e | .bad => False | .ro d => P.ro d
theorem Sat.mono {P Q : Post} {r : SRes} (h : Sat P r) (h1 : ∀ e, P.nx e → Q.nx e) (h2 : ∀ e, P.ct e → Q.ct e) (h3 : ∀ e, P.bk e → Q.bk e) (h4 : ∀ e, P.rt e → Q.rt e) (h5 : ∀ c f e, P.xc c f e → Q.xc c f e) (h6 : ∀ d, P.ro d → Q.ro d) : Sat Q r := by
  cases r with
  | nx e => exact h1 e h
  | ct e => exact h2 e h
  | bk e => exact h3 e h
  | rt d => exact h4 d h
  | xc c f e => exact h5 c f e h
  | bad => exact h
  | ro d => exact h6 d h
def Post.thn (P : Post) (χ : Env → SRes) : Post := { P with nx := fun e => Sat P (χ e) }
def Post.lp (P : Post) (I : Env → Prop) : Post := { P with nx := I, ct := I, bk := P.nx }
def rSeq (r : SRes) (χ : Env → SRes) : SRes := match r with
  | .nx env => χ env
  | r => r
theorem seq_eq (ψ χ : Env → SRes) (env : Env) : seqS ψ χ env = rSeq (ψ env) χ := rfl
theorem Sat.rseq {P : Post} {r : SRes} {χ : Env → SRes} (h : Sat (P.thn χ) r) : Sat P (rSeq r χ) := by
  unfold rSeq
  cases r <;> exact h
theorem Sat.seq {P : Post} {ψ χ : Env → SRes} {env : Env} (h : Sat (P.thn χ) (ψ env)) : Sat P (seqS ψ χ env) := Sat.rseq h
theorem Sat.flow {P : Post} {r : SRes} {k : Env → SRes} (h : Sat { P with nx := fun e => Sat P (k e), ct := fun e => Sat P (k e), bk := P.nx } r) : Sat P (flowL r k) := by
  unfold flowL
  cases r <;> exact h
theorem Sat.forL' {P : Post} {γ : D → Env → Option Env} {ψ : Env → SRes} (I : Nat → Env → Prop) : ∀ (ds : List D) (k : Nat) (env : Env), I k env →
    (∀ i d env, ds[i]? = some d → I (k + i) env → ∃ e1, γ d env = some e1 ∧ Sat (P.lp (I (k + i + 1))) (ψ e1)) → (∀ env, I (k + ds.length) env → P.nx env) → Sat P (VL.forL γ ψ ds env)
  | [], k, env, h0, _, hn => hn env h0
  | d :: ds, k, env, h0, hs, hn => by
    obtain ⟨e1, g1, s1⟩ := hs 0 d env rfl h0
    unfold VL.forL
    rw [g1]
    refine Sat.flow (s1.mono ?_ ?_ (fun _ h => h) (fun _ h => h) (fun _ _ _ h => h) (fun _ h => h))
    all_goals
      intro e he
      refine Sat.forL' I ds (k + 1) e he (fun i d env q h => ?_) (fun env h => hn env ?_)
      · have := hs (i + 1) d env (by rw [gs_]; exact q) (by rw [show k + (i + 1) = k + 1 + i by omega]; exact h)
        rw [show k + (i + 1) = k + 1 + i by omega] at this
        exact this
      · rw [List.length_cons, show k + (ds.length + 1) = k + 1 + ds.length by omega]; exact h
theorem Sat.forS {P : Post} {γ : D → Env → Option Env} {ι : Env → Res (List D)} {ψ : Env → SRes} {env : Env} (I : Nat → Env → Prop) {ds : List D} (hi : ι env = .ok ds) (h0 : I 0 env)
    (hs : ∀ i d env, ds[i]? = some d → I i env → ∃ e1, γ d env = some e1 ∧ Sat (P.lp (I (i + 1))) (ψ e1)) (hn : ∀ env, I ds.length env → P.nx env) : Sat P (VL.forS γ ι ψ env) := by
  unfold VL.forS ofA
  rw [hi]
  refine Sat.forL' I ds 0 env h0 (fun i d env q h => ?_) (fun env h => hn env (by rwa [Nat.zero_add] at h))
  rw [Nat.zero_add] at h ⊢
  exact hs i d env q h
theorem Sat.forS0 {P : Post} {γ : D → Env → Option Env} {ι : Env → Res (List D)} {ψ : Env → SRes} {env : Env} (I : Env → Prop) {ds : List D} (hi : ι env = .ok ds) (h0 : I env)
    (hs : ∀ d, d ∈ ds → ∀ env, I env → ∃ e1, γ d env = some e1 ∧ Sat (P.lp I) (ψ e1)) (hn : ∀ env, I env → P.nx env) : Sat P (VL.forS γ ι ψ env) :=
  Sat.forS (fun _ => I) hi h0 (fun i d env q h => hs d (List.mem_of_getElem? q) env h) hn
theorem m_ok {n : Nat} {b : Env → SRes} {ds : List D} {d : D} (h : Sat { rt := fun x => x = d } (b (env0 n ds))) : defM n b ds = .ok d := by
  unfold defM
  cases q : b (env0 n ds) <;> rw [q] at h <;> first | exact h.elim | skip
  show outS (.rt _) = _
  rw [show _ = d from h]
  rfl
theorem m_ex {n : Nat} {b : Env → SRes} {ds : List D} {p : D → Prop} (h : Sat { rt := p } (b (env0 n ds))) : ∃ d, defM n b ds = .ok d ∧ p d := by
  unfold defM
  cases q : b (env0 n ds) <;> rw [q] at h <;> first | exact h.elim | skip
  exact ⟨_, rfl, h⟩
theorem m_non {n : Nat} {b : Env → SRes} {ds : List D} (h : Sat { rt := fun x => x = .non, nx := fun _ => True } (b (env0 n ds))) : defM n b ds = .ok .non := by
  unfold defM
  cases q : b (env0 n ds) <;> rw [q] at h <;> first | exact h.elim | skip
  · rfl
  · show outS (.rt _) = _
    rw [show _ = D.non from h]
    rfl
theorem Sat.nx {P : Post} {r : SRes} {e : Env} (h : r = .nx e) (p : P.nx e) : Sat P r := by rw [h]; exact p
theorem Sat.rt {P : Post} {r : SRes} {e : D} (h : r = .rt e) (p : P.rt e) : Sat P r := by rw [h]; exact p
def r2 (f : D → D → Res D) (a b : Res D) : Res D := a.bind fun x => b.bind fun y => f x y
def r1 {α β : Type} (f : α → Res β) (a : Res α) : Res β := a.bind f
def rC (a : Res D) (b : Res (List D)) : Res (List D) := a.bind fun x => b.bind fun y => .ok (x :: y)
def rAnd (a b : Res Bool) : Res Bool := a.bind fun x => if x = true then b else .ok false
def rOr (a b : Res Bool) : Res Bool := a.bind fun x => if x = true then .ok true else b
def rNot (a : Res Bool) : Res Bool := a.bind fun x => .ok (!x)
def rAndE (a b : Res D) : Res D := a.bind fun d => match d with
  | .bl true => b
  | .bl false => .ok (.bl false)
  | _ => .bad
def rOrE (a b : Res D) : Res D := a.bind fun d => match d with
  | .bl true => .ok (.bl true)
  | .bl false => b
  | _ => .bad
def rIfE (t : Res Bool) (a b : Res D) : Res D := t.bind fun x => if x = true then a else b
def rSl (a : Res D) (l h : Res (Option Int)) : Res D := a.bind fun d => l.bind fun l => h.bind fun u => sliceD d l u
def rCh (f f' : D → D → Res D) (a b c : Res D) : Res D := a.bind fun x => b.bind fun y => (f x y).bind fun z => match z with
  | .bl true => c.bind fun w => f' y w
  | .bl false => .ok (.bl false)
  | _ => .bad
def rStr (f : Str → D → Res D) (a b : Res D) : Res D := a.bind fun d => match d with
  | .str a => b.bind (f a)
  | _ => .bad
def rImm (a : Res D) : Res D := a.bind fun d => if immut d = true then .ok d else .bad
def rSet (i : Nat) (r : Res D) (env : Env) : SRes := ofE r env fun d => .nx (env.set i (.sh d))
def rOwn (i : Nat) (r : Res D) (env : Env) : SRes := ofE r env fun d => .nx (env.set i (.ow d))
def rRet (r : Res D) (env : Env) : SRes := ofE r env fun d => .rt d
def rDrop (r : Res D) (env : Env) : SRes := ofE r env fun _ => .nx env
def rIf (t : Res Bool) (ψ χ : Env → SRes) (env : Env) : SRes := ofT t env fun k => if k = true then ψ env else χ env
def rAsg (γ : D → Env → Option Env) (r : Res D) (env : Env) : SRes := ofE r env fun d => match γ d env with
  | some env' => .nx env'
  | none => .bad
def rApp (i : Nat) (s : Option Sl) (r : Res D) (env : Env) : SRes := match s with
  | some (.ow (.lst ds)) => ofE r env fun d => if ds.length < sizeLine then .nx (env.set i (.ow (.lst (ds ++ [d])))) else .bad
  | _ => .bad
def rGet (s : Option Sl) : Res D := match s with
  | some (.sh d) => .ok d
  | _ => .bad
def rGetB (s : Option Sl) : Res D := match s with
  | some (.sh d) => .ok d
  | some (.ow d) => .ok d
  | _ => .bad
section
variable {f f' : D → D → Res D} {φ φa φb φc : Env → Res D} {φs : Env → Res (List D)} {τ τ' : Env → Res Bool} {env : Env} {i : Nat} {d e w : D} {ds : List D} {b c : Bool} {ψ χ : Env → SRes} {γ : D → Env → Option Env}
theorem getP_eq : getP i env = rGet env[i]? := rfl
theorem getB_eq : getB i env = rGetB env[i]? := rfl
theorem rGet_ok : rGet (some (.sh d)) = .ok d := rfl
theorem rGetB_ok : rGetB (some (.sh d)) = .ok d := rfl
theorem rGetB_ow : rGetB (some (.ow d)) = .ok d := rfl
theorem cE_eq : cE d env = .ok d := rfl
theorem op2_eq : op2 f φa φb env = r2 f (φa env) (φb env) := rfl
theorem r2_ok : r2 f (.ok d) (.ok e) = f d e := rfl
theorem aE_eq {g : List D → Res D} : aE g φs env = r1 g (φs env) := rfl
theorem aI_eq {g : List D → Res (List D)} : aI g φs env = r1 g (φs env) := rfl
theorem iE_eq : iE φ env = r1 itemsD (φ env) := rfl
theorem tE_eq : tE φ env = r1 toB (φ env) := rfl
theorem someO_eq : someO φ env = r1 toI (φ env) := rfl
theorem notE_eq : notE φ env = r1 notD (φ env) := rfl
theorem isTE_eq {T : String} : isTE T φ env = r1 (isT T) (φ env) := rfl
theorem r1_ok {α β : Type} {g : α → Res β} {a : α} : r1 g (.ok a) = g a := rfl
theorem toB_ok : toB (.bl b) = .ok b := rfl
theorem toI_ok {k : Int} : toI (.int k) = .ok (some k) := rfl
theorem notD_ok : notD (.bl b) = .ok (.bl (!b)) := rfl
theorem noO_eq : noO env = .ok none := rfl
theorem nilA_eq : nilA env = .ok [] := rfl
theorem consA_eq : consA φ φs env = rC (φ env) (φs env) := rfl
theorem rC_ok : rC (.ok d) (.ok ds) = .ok (d :: ds) := rfl
theorem andT_eq : andT τ τ' env = rAnd (τ env) (τ' env) := rfl
theorem orT_eq : orT τ τ' env = rOr (τ env) (τ' env) := rfl
theorem notT_eq : notT τ env = rNot (τ env) := rfl
theorem rAnd_t {r : Res Bool} : rAnd (.ok true) r = r := rfl
theorem rAnd_f {r : Res Bool} : rAnd (.ok false) r = .ok false := rfl
theorem rAnd_ok : rAnd (.ok b) (.ok c) = .ok (b && c) := by cases b <;> rfl
theorem rOr_t {r : Res Bool} : rOr (.ok true) r = .ok true := rfl
theorem rOr_f {r : Res Bool} : rOr (.ok false) r = r := rfl
theorem rOr_ok : rOr (.ok b) (.ok c) = .ok (b || c) := by cases b <;> rfl
theorem rNot_ok : rNot (.ok b) = .ok (!b) := rfl
theorem andE_eq : andE φa φb env = rAndE (φa env) (φb env) := rfl
theorem orE_eq : orE φa φb env = rOrE (φa env) (φb env) := rfl
theorem rAndE_t {r : Res D} : rAndE (.ok (.bl true)) r = r := rfl
theorem rAndE_f {r : Res D} : rAndE (.ok (.bl false)) r = .ok (.bl false) := rfl
theorem rAndE_ok : rAndE (.ok (.bl b)) (.ok (.bl c)) = .ok (.bl (b && c)) := by cases b <;> rfl
theorem rOrE_t {r : Res D} : rOrE (.ok (.bl true)) r = .ok (.bl true) := rfl
theorem rOrE_f {r : Res D} : rOrE (.ok (.bl false)) r = r := rfl
theorem rOrE_ok : rOrE (.ok (.bl b)) (.ok (.bl c)) = .ok (.bl (b || c)) := by cases b <;> rfl
theorem ifE_eq : ifE τ φa φb env = rIfE (τ env) (φa env) (φb env) := rfl
theorem rIfE_ok {r r' : Res D} : rIfE (.ok b) r r' = if b = true then r else r' := rfl
theorem slE_eq {ml mh : Env → Res (Option Int)} : slE φ ml mh env = rSl (φ env) (ml env) (mh env) := rfl
theorem rSl_ok {l h : Option Int} : rSl (.ok d) (.ok l) (.ok h) = sliceD d l h := rfl
theorem chE_eq : chE f f' φa φb φc env = rCh f f' (φa env) (φb env) (φc env) := rfl
theorem rCh_ok (h : f d e = .ok (.bl b)) (h' : f' e w = .ok (.bl c)) : rCh f f' (.ok d) (.ok e) (.ok w) = .ok (.bl (b && c)) := by
  show ((f d e).bind _) = _
  rw [h]
  cases b
  · rfl
  · exact h'
theorem rCh_le {i j k : Int} : rCh leD leD (.ok (.int i)) (.ok (.int j)) (.ok (.int k)) = .ok (.bl (decide (i ≤ j) && decide (j ≤ k))) := rCh_ok rfl rfl
theorem rCh_lelt {i j k : Int} : rCh leD ltD (.ok (.int i)) (.ok (.int j)) (.ok (.int k)) = .ok (.bl (decide (i ≤ j) && decide (j < k))) := rCh_ok rfl rfl
theorem rCh_ltlt {i j k : Int} : rCh ltD ltD (.ok (.int i)) (.ok (.int j)) (.ok (.int k)) = .ok (.bl (decide (i < j) && decide (j < k))) := rCh_ok rfl rfl
theorem rCh_ltle {i j k : Int} : rCh ltD leD (.ok (.int i)) (.ok (.int j)) (.ok (.int k)) = .ok (.bl (decide (i < j) && decide (j ≤ k))) := rCh_ok rfl rfl
theorem strE_eq {g : Str → D → Res D} : strE g φa φb env = rStr g (φa env) (φb env) := rfl
theorem rStr_ok {g : Str → D → Res D} {s : Str} : rStr g (.ok (.str s)) (.ok d) = g s d := rfl
theorem immE_eq : immE φ env = rImm (φ env) := rfl
theorem rImm_ok : rImm (.ok d) = if immut d = true then .ok d else .bad := rfl
theorem rSeq_nx : rSeq (.nx env) χ = χ env := rfl
theorem rSeq_rt : rSeq (.rt d) χ = .rt d := rfl
theorem rSeq_bk : rSeq (.bk env) χ = .bk env := rfl
theorem rSeq_ct : rSeq (.ct env) χ = .ct env := rfl
theorem rSeq_xc {C : Str} {fs : List (Str × D)} : rSeq (.xc C fs env) χ = .xc C fs env := rfl
theorem setS_eq : setS i φ env = rSet i (φ env) env := rfl
theorem rSet_ok : rSet i (.ok d) env = .nx (env.set i (.sh d)) := rfl
theorem ownS_eq : ownS i φ env = rOwn i (φ env) env := rfl
theorem rOwn_ok : rOwn i (.ok d) env = .nx (env.set i (.ow d)) := rfl
theorem retS_eq : retS φ env = rRet (φ env) env := rfl
theorem rRet_ok : rRet (.ok d) env = .rt d := rfl
theorem retNS_eq : retNS env = .rt .non := rfl
theorem nxS_eq : nxS env = .nx env := rfl
theorem bkS_eq : bkS env = .bk env := rfl
theorem ctS_eq : ctS env = .ct env := rfl
theorem dropS_eq : dropS φ env = rDrop (φ env) env := rfl
theorem rDrop_ok : rDrop (.ok d) env = .nx env := rfl
theorem ifS_eq : ifS τ ψ χ env = rIf (τ env) ψ χ env := rfl
theorem rIf_t : rIf (.ok true) ψ χ env = ψ env := rfl
theorem rIf_f : rIf (.ok false) ψ χ env = χ env := rfl
theorem Sat.ifb {P : Post} (h1 : b = true → Sat P (ψ env)) (h2 : b = false → Sat P (χ env)) : Sat P (rIf (.ok b) ψ χ env) := by
  cases b
  · exact h2 rfl
  · exact h1 rfl
theorem Sat.ifP {P : Post} {p : Prop} [Decidable p] (h1 : p → Sat P (ψ env)) (h2 : ¬p → Sat P (χ env)) : Sat P (rIf (.ok (decide p)) ψ χ env) :=
  Sat.ifb (fun h => h1 (of_decide_eq_true h)) (fun h => h2 (of_decide_eq_false h))
theorem asgS_eq : asgS γ φ env = rAsg γ (φ env) env := rfl
theorem appS_eq : appS i φ env = rApp i env[i]? (φ env) env := by
  unfold appS rApp
  rfl
theorem rApp_ok : rApp i (some (.ow (.lst ds))) (.ok d) env = if ds.length < sizeLine then .nx (env.set i (.ow (.lst (ds ++ [d])))) else .bad := rfl
theorem giveS_eq : giveS i ψ env = ψ (VL.give i env) := rfl
theorem gnG_eq : gnG i d env = some (env.set i (.sh d)) := rfl
theorem Sat_nx {P : Post} : Sat P (.nx env) = P.nx env := rfl
theorem Sat_rt {P : Post} : Sat P (.rt d) = P.rt d := rfl
theorem Sat_ct {P : Post} : Sat P (.ct env) = P.ct env := rfl
theorem Sat_bk {P : Post} : Sat P (.bk env) = P.bk env := rfl
theorem Sat_xc {P : Post} {C : Str} {fs : List (Str × D)} : Sat P (.xc C fs env) = P.xc C fs env := rfl
theorem thn_nx {P : Post} : (P.thn χ).nx env = Sat P (χ env) := rfl
theorem thn_rt {P : Post} : (P.thn χ).rt d = P.rt d := rfl
theorem thn_ct {P : Post} : (P.thn χ).ct env = P.ct env := rfl
theorem thn_bk {P : Post} : (P.thn χ).bk env = P.bk env := rfl
theorem thn_xc {P : Post} {C : Str} {fs : List (Str × D)} : (P.thn χ).xc C fs env = P.xc C fs env := rfl
theorem lp_nx {P : Post} {I : Env → Prop} : (P.lp I).nx env = I env := rfl
theorem lp_ct {P : Post} {I : Env → Prop} : (P.lp I).ct env = I env := rfl
theorem lp_bk {P : Post} {I : Env → Prop} : (P.lp I).bk env = P.nx env := rfl
theorem lp_rt {P : Post} {I : Env → Prop} : (P.lp I).rt d = P.rt d := rfl
theorem lp_xc {P : Post} {I : Env → Prop} {C : Str} {fs : List (Str × D)} : (P.lp I).xc C fs env = P.xc C fs env := rfl
theorem add_int {i j : Int} : addD (.int i) (.int j) = .ok (.int (i + j)) := rfl
theorem add_str {i j : Str} (h : i.length + j.length ≤ sizeLine) : addD (.str i) (.str j) = .ok (.str (i ++ j)) := if_pos h
theorem sub_int {i j : Int} : subD (.int i) (.int j) = .ok (.int (i - j)) := rfl
theorem mul_int {i j : Int} (h : i.natAbs.log2 + j.natAbs.log2 < 1000000) : mulD (.int i) (.int j) = .ok (.int (i * j)) := if_pos h
theorem mod_int {i j : Int} (h : 0 < j) : modD (.int i) (.int j) = .ok (.int (i % j)) := if_pos h
theorem fdiv_int {i j : Int} (h : 0 < j ∧ j < 1073741824) : fdivD (.int i) (.int j) = .ok (.int (i / j)) := if_pos h
theorem pow_int {i j : Int} (h : 0 ≤ j ∧ j ≤ 1000000 ∧ i.natAbs < 2 ^ 64) : powD (.int i) (.int j) = .ok (.int (i ^ j.toNat)) := if_pos h
theorem pow_18 : powD (.int 10) (.int 18) = .ok (.int 1000000000000000000) := pow_int (by decide)
theorem lt_int {i j : Int} : ltD (.int i) (.int j) = .ok (.bl (decide (i < j))) := rfl
theorem le_int {i j : Int} : leD (.int i) (.int j) = .ok (.bl (decide (i ≤ j))) := rfl
theorem gt_int {i j : Int} : gtD (.int i) (.int j) = .ok (.bl (decide (j < i))) := rfl
theorem ge_int {i j : Int} : geD (.int i) (.int j) = .ok (.bl (decide (j ≤ i))) := rfl
theorem isN_eq : isNO d .non = .ok (.bl (isNon d)) := rfl
theorem notN_eq : notNO d .non = .ok (.bl (!isNon d)) := rfl
theorem len_lst : lenF [.lst ds] = .ok (.int ds.length) := rfl
theorem len_tup : lenF [.tup ds] = .ok (.int ds.length) := rfl
theorem len_scr {ns : List Int} : lenF [.scr ns] = .ok (.int ns.length) := rfl
theorem len_str {s : Str} (h : s.length ≤ sizeLine) : lenF [.str s] = .ok (.int s.length) := if_pos h
theorem int_int {k : Int} : intF [.int k] = .ok (.int k) := rfl
theorem get_str {z : Str} {k : Int} : getD (.str z) (.int k) = strGet z k := rfl
theorem get_tup {k : Int} : getD (.tup ds) (.int k) = seqGet ds k := rfl
theorem get_lst {k : Int} : getD (.lst ds) (.int k) = seqGet ds k := rfl
theorem get_scr {ns : List Int} {k : Int} : getD (.scr ns) (.int k) = seqGet (ns.map .int) k := rfl
theorem items_str {z : Str} : itemsD (.str z) = .ok (strItems z) := rfl
theorem items_lst : itemsD (.lst ds) = .ok ds := rfl
theorem items_tup : itemsD (.tup ds) = .ok ds := rfl
theorem range1_ok {k : Int} (h : -4611686018427387904 < k ∧ k < 4611686018427387904) : range1 [.int k] = .ok (rangeD 0 k.toNat) := if_pos (small62_of h.1 h.2)
theorem range1_nat {k : Nat} (h : k < 4611686018427387904) : range1 [.int (k : Int)] = .ok (rangeD 0 k) := by rw [range1_ok (by omega), Int.toNat_natCast]
theorem lst_ok (h : ds.length ≤ sizeLine) : lstD ds = .ok (.lst ds) := if_pos h
theorem tup_ok (h : ds.length ≤ sizeLine) : tupD ds = .ok (.tup ds) := if_pos h
theorem lst_nil : lstD [] = .ok (.lst []) := if_pos (Nat.zero_le _)
theorem sl_str {z : Str} {l u : Option Int} (h : z.length ≤ sizeLine) : sliceD (.str z) l u = .ok (.str (cutS z l u)) := if_pos h
theorem sl_tup {l u : Option Int} : sliceD (.tup ds) l u = .ok (.tup (cutD ds l u)) := rfl
theorem sl_lst {l u : Option Int} : sliceD (.lst ds) l u = .ok (.lst (cutD ds l u)) := rfl
theorem isT_bl {b : Bool} : isT "bool" (.bl b) = .ok (.bl true) := rfl
end
theorem str_len (s : Str) : s.length = s.cps.toList.length := rfl
theorem str_app (s t : Str) : (s ++ t).cps.toList = s.cps.toList ++ t.cps.toList := by
  show (s.cps ++ t.cps).toList = _
  simp
theorem str_app_len (s t : Str) : (s ++ t).length = s.length + t.length := by
  rw [str_len, str_app, List.length_append]; rfl
theorem str_ext {s t : Str} (h : s.cps.toList = t.cps.toList) : s = t := by
  cases s; cases t
  exact congrArg Str.mk (Array.toList_inj.mp h)
theorem strGet_of {z : Str} {i : Nat} (hl : z.length ≤ sizeLine) (h : i < z.length) : ∃ c, z.cps.toList[i]? = some c ∧ strGet z i = .ok (.str ⟨#[c]⟩) := by
  have h' : i < z.cps.toList.length := h
  refine ⟨z.cps.toList[i], List.getElem?_eq_getElem h', ?_⟩
  unfold strGet
  rw [if_pos hl]
  unfold atI
  have : ixN z.cps.toList.length (i : Int) = some i := by
    unfold ixN
    rw [if_pos (by omega), if_pos (by omega)]; rfl
  rw [this]
  show (match z.cps.toList[i]? with | some c => Res.ok (D.str ⟨#[c]⟩) | none => .bad) = _
  rw [List.getElem?_eq_getElem h']
theorem seqGet_of {ds : List D} {i : Nat} {d : D} (h : ds[i]? = some d) : seqGet ds i = .ok d := by
  have h' : i < ds.length := (List.getElem?_eq_some_iff.mp h).1
  unfold seqGet atI
  have : ixN ds.length (i : Int) = some i := by
    unfold ixN
    rw [if_pos (by omega), if_pos (by omega)]; rfl
  rw [this]
  show (match ds[i]? with | some c => Res.ok c | none => .bad) = _
  rw [h]
theorem rangeD_get {lo : Int} {n i : Nat} {d : D} (h : (rangeD lo n)[i]? = some d) : i < n ∧ d = .int (lo + i) := by
  unfold rangeD at h
  rw [List.getElem?_map] at h
  cases q : (List.range n)[i]? with
  | none => rw [q] at h; cases h
  | some j =>
    rw [q] at h
    have := List.getElem?_eq_some_iff.mp q
    obtain ⟨h1, h2⟩ := this
    rw [List.getElem_range] at h2
    rw [List.length_range] at h1
    subst h2
    cases h
    exact ⟨h1, rfl⟩
theorem rangeD_len (lo : Int) (n : Nat) : (rangeD lo n).length = n := by unfold rangeD; rw [List.length_map, List.length_range]
theorem rangeD_mem {lo : Int} {n : Nat} {d : D} (h : d ∈ rangeD lo n) : ∃ i : Nat, i < n ∧ d = .int (lo + i) := by
  unfold rangeD at h
  obtain ⟨i, h1, h2⟩ := List.mem_map.mp h
  exact ⟨i, List.mem_range.mp h1, h2.symm⟩
theorem shaped_flat {p : PyData} (h : p.canLay0 = true) (d : p.depth ≤ 64) : SeqAt.shaped p = true := by
  unfold SeqAt.shaped
  rw [h, decide_eq_true d]; rfl
def okS (s : Str) : Bool := s.cps.all (· < 0x110000)
theorem cmp_str {s : Str} (h : okS s = true) : cmpOk (.str s) = true := by
  unfold cmpOk
  rw [show plain (.str s) = true from rfl, Bool.true_and]
  refine shaped_flat ?_ (by simp [toPy, PyData.depth])
  unfold toPy PyData.canLay0
  exact h
theorem cmp_int (i : Int) : cmpOk (.int i) = true := by
  unfold cmpOk
  rw [show plain (.int i) = true from rfl, Bool.true_and]
  exact shaped_flat (by simp [toPy, PyData.canLay0]) (by simp [toPy, PyData.depth])
theorem cmp_bl (i : Bool) : cmpOk (.bl i) = true := by
  unfold cmpOk
  rw [show plain (.bl i) = true from rfl, Bool.true_and]
  exact shaped_flat (by simp [toPy, PyData.canLay0]) (by simp [toPy, PyData.depth])
theorem eqD_str (s t : Str) : eqD (.str s) (.str t) = decide (s = t) := by
  unfold eqD
  simp only [toPy, PyData.eqv]
  rfl
theorem eqD_int (s t : Int) : eqD (.int s) (.int t) = decide (s = t) := by
  unfold eqD
  simp only [toPy, PyData.eqv]
  rfl
theorem eqD_bl (s t : Bool) : eqD (.bl s) (.bl t) = (s == t) := by
  unfold eqD
  simp only [toPy, PyData.eqv]
theorem eqO_str {s t : Str} (h1 : okS s = true) (h2 : okS t = true) : eqO (.str s) (.str t) = .ok (.bl (decide (s = t))) := by
  unfold eqO
  rw [if_pos ⟨cmp_str h1, cmp_str h2⟩, eqD_str]
theorem eqO_int (s t : Int) : eqO (.int s) (.int t) = .ok (.bl (decide (s = t))) := by
  unfold eqO
  rw [if_pos ⟨cmp_int s, cmp_int t⟩, eqD_int]
theorem eqO_bl (s t : Bool) : eqO (.bl s) (.bl t) = .ok (.bl (s == t)) := by
  unfold eqO
  rw [if_pos ⟨cmp_bl s, cmp_bl t⟩, eqD_bl]
theorem neO_int (s t : Int) : neO (.int s) (.int t) = .ok (.bl (!decide (s = t))) := by
  unfold neO
  rw [if_pos ⟨cmp_int s, cmp_int t⟩, eqD_int]
theorem canLay_ints : ∀ ns : List Int, PyData.canLayAll0 (ns.map .int) = true
  | [] => by simp [PyData.canLayAll0]
  | n :: ns => by simp [PyData.canLayAll0, PyData.canLay0, canLay_ints ns]
theorem depth_ints : ∀ ns : List Int, PyData.depthAll (ns.map .int) ≤ 1
  | [] => by simp [PyData.depthAll]
  | n :: ns => by
    have := depth_ints ns
    simp [PyData.depthAll, PyData.depth] at this ⊢
    try omega
theorem cmp_scr (ns : List Int) : cmpOk (.scr ns) = true := by
  unfold cmpOk
  rw [show plain (.scr ns) = true from rfl, Bool.true_and]
  have := depth_ints ns
  exact shaped_flat (by simp [toPy, PyData.canLay0, canLay_ints]) (by simp [toPy, PyData.depth]; omega)
theorem cmp_nil : cmpOk (.lst []) = true := by decide +kernel
theorem eqO_scr (ns : List Int) : eqO (.scr ns) (.lst []) = .ok (.bl ns.isEmpty) := by
  unfold eqO
  rw [if_pos ⟨cmp_scr ns, cmp_nil⟩]
  cases ns <;> simp [eqD, toPy, PyData.eqv, PyData.eqvAll, toPys, List.isEmpty]
theorem le_line {n : Nat} (h : n ≤ 1000000) : n ≤ sizeLine := Nat.le_trans h (by decide)
theorem pick_str (L : Str) (m : Int) (hl : L.length ≤ 1000000) (h0 : 0 < m) (hm : m ≤ L.length) (z : Int) : ∃ c, strGet L (z % m) = .ok (.str ⟨#[c]⟩) ∧ c ∈ L.cps.toList := by
  have a0 := Int.emod_nonneg z (show m ≠ 0 by omega)
  have a1 := Int.emod_lt_of_pos z h0
  generalize z % m = i at a0 a1
  obtain ⟨i, rfl⟩ := Int.eq_ofNat_of_zero_le a0
  obtain ⟨c, h1, h2⟩ := @strGet_of L i (le_line hl) (by omega)
  exact ⟨c, h2, List.mem_of_getElem? h1⟩
theorem pick_seq (ds : List D) (m : Int) (h0 : 0 < m) (hm : m ≤ ds.length) (z : Int) : ∃ d, seqGet ds (z % m) = .ok d ∧ d ∈ ds := by
  have a0 := Int.emod_nonneg z (show m ≠ 0 by omega)
  have a1 := Int.emod_lt_of_pos z h0
  generalize z % m = i at a0 a1
  obtain ⟨i, rfl⟩ := Int.eq_ofNat_of_zero_le a0
  have hi : i < ds.length := by omega
  exact ⟨ds[i], seqGet_of (List.getElem?_eq_getElem hi), List.getElem_mem hi⟩
theorem str_sing (c : Nat) : Str.length ⟨#[c]⟩ = 1 := rfl
end VL

set_option maxRecDepth 100000
set_option maxHeartbeats 2000000
namespace VL
open PySem L2
section
variable {γ : D → Env → Option Env} {τ : Env → Res Bool} {φ : Env → Res D} {env : Env} {ι : Env → Res (List D)} {vs : List Nat}
theorem compL_fil (p : D → Bool) (f : D → D) : ∀ (ds acc : List D), (∀ d ∈ ds, ∃ e1, γ d env = some e1 ∧ τ e1 = .ok (p d) ∧ (p d = true → φ e1 = .ok (f d))) → acc.length + ds.length ≤ sizeLine →
    compL γ τ φ env ds acc = .ok (.lst (acc ++ (ds.filter p).map f))
  | [], acc, _, _ => by simp [compL]
  | d :: ds, acc, h, hl => by
    obtain ⟨e1, h1, h2, h3⟩ := h d (List.mem_cons_self ..)
    rw [List.length_cons] at hl
    unfold compL
    rw [h1]
    simp only []
    rw [h2]
    cases q : p d with
    | true =>
      simp only [h3 q]
      rw [if_pos (by omega), compL_fil p f ds (acc ++ [f d]) (fun d hd => h d (List.mem_cons_of_mem _ hd)) (by simp; omega), List.filter_cons_of_pos q]
      simp
    | false =>
      simp only []
      rw [compL_fil p f ds acc (fun d hd => h d (List.mem_cons_of_mem _ hd)) (by omega), List.filter_cons_of_neg (by simp [q])]
theorem lcE_fil (p : D → Bool) (f : D → D) {ds : List D} (hi : ι env = .ok ds) (hl : ds.length ≤ sizeLine) (h : ∀ d ∈ ds, ∃ e1, γ d (wipeE env vs) = some e1 ∧ τ e1 = .ok (p d) ∧ (p d = true → φ e1 = .ok (f d))) :
    lcE vs γ ι τ φ env = .ok (.lst ((ds.filter p).map f)) := by
  unfold lcE
  rw [hi]
  exact (compL_fil p f ds [] h (by simpa using hl)).trans (by rw [List.nil_append])
theorem lcE_map (f : D → D) {ds : List D} (hi : ι env = .ok ds) (hl : ds.length ≤ sizeLine) (h : ∀ d ∈ ds, ∃ e1, γ d (wipeE env vs) = some e1 ∧ φ e1 = .ok (f d)) :
    lcE vs γ ι yesT φ env = .ok (.lst (ds.map f)) := by
  rw [lcE_fil (fun _ => true) f hi hl (fun d hd => by obtain ⟨e1, h1, h2⟩ := h d hd; exact ⟨e1, h1, rfl, fun _ => h2⟩)]
  rw [List.filter_eq_self.mpr (fun _ _ => rfl)]
theorem compL_ex (p : D → Prop) : ∀ (ds acc : List D), (∀ d ∈ ds, ∃ e1, γ d env = some e1 ∧ ∃ y, φ e1 = .ok y ∧ p y) → acc.length + ds.length ≤ sizeLine →
    ∃ ys, compL γ yesT φ env ds acc = .ok (.lst (acc ++ ys)) ∧ ys.length = ds.length ∧ ∀ y ∈ ys, p y
  | [], acc, _, _ => ⟨[], by simp [compL], rfl, by simp⟩
  | d :: ds, acc, h, hl => by
    obtain ⟨e1, h1, y, h2, h3⟩ := h d (List.mem_cons_self ..)
    rw [List.length_cons] at hl
    obtain ⟨ys, k1, k2, k3⟩ := compL_ex p ds (acc ++ [y]) (fun d hd => h d (List.mem_cons_of_mem _ hd)) (by simp; omega)
    refine ⟨y :: ys, ?_, by rw [List.length_cons, List.length_cons, k2], fun z hz => ?_⟩
    · unfold compL
      rw [h1]
      simp only [yesT]
      simp only [h2]
      rw [if_pos (by omega), k1]
      simp
    · rcases List.mem_cons.mp hz with rfl | hz
      · exact h3
      · exact k3 z hz
theorem lcE_ex (p : D → Prop) {ds : List D} (hi : ι env = .ok ds) (hl : ds.length ≤ sizeLine) (h : ∀ d ∈ ds, ∃ e1, γ d (wipeE env vs) = some e1 ∧ ∃ y, φ e1 = .ok y ∧ p y) :
    ∃ ys, lcE vs γ ι yesT φ env = .ok (.lst ys) ∧ ys.length = ds.length ∧ ∀ y ∈ ys, p y := by
  unfold lcE
  rw [hi]
  obtain ⟨ys, h1, h2, h3⟩ := compL_ex (env := wipeE env vs) p ds [] h (by simpa using hl)
  exact ⟨ys, h1, h2, h3⟩
end
theorem strsOf_map : ∀ l : List Str, strsOf (l.map .str) = some l
  | [] => rfl
  | s :: l => by
    rw [List.map_cons]
    show (strsOf (l.map .str)).map _ = _
    rw [strsOf_map l]; rfl
theorem sum_le (l : List Str) (k : Nat) (h : ∀ s ∈ l, s.length ≤ k) : (l.map (·.length)).sum ≤ l.length * k := by
  induction l with
  | nil => simp
  | cons s l ih =>
    have h1 := h s (List.mem_cons_self ..)
    have h2 := ih fun s hs => h s (List.mem_cons_of_mem _ hs)
    rw [List.map_cons, List.sum_cons, List.length_cons, Nat.succ_mul]
    omega
theorem join_of (a : Str) (l : List Str) (h : (l.map (·.length)).sum + l.length * a.length ≤ 16777216) : joinD a (.lst (l.map .str)) = .ok (.str (Txt.join a l)) := by
  show joinS a _ = _
  unfold joinS
  rw [strsOf_map]
  exact if_pos h
theorem joinL_nil : ∀ l : List (List Nat), TL.joinL [] l = l.flatten
  | [] => rfl
  | [p] => by simp [TL.joinL]
  | p :: q :: r => by
    show p ++ ([] ++ TL.joinL [] (q :: r)) = _
    rw [joinL_nil (q :: r)]
    simp
theorem tl_join0 (l : List Str) : (Txt.join (Str.ofString "") l).cps.toList = (l.map fun s => s.cps.toList).flatten := by
  have h : TL.tl (Txt.join (Str.ofString "") l) = TL.joinL (TL.tl (Str.ofString "")) (l.map TL.tl) := by rw [TL.join_eq, TL.tl_join]
  have h2 : TL.tl (Str.ofString "") = [] := by decide +kernel
  rw [h2, joinL_nil] at h
  exact h
end VL

set_option maxRecDepth 100000
set_option maxHeartbeats 2000000
namespace VL
open PySem L2
section
variable {X : Cx} {W : WX} {fl fla : Bool} {e a : Expr} {st : Stmt} {sts : List Stmt} {pos : Pos} {φ : Env → Res VL.D}
def negD : VL.D → Res VL.D
  | .int i => .ok (.int (-i))
  | _ => .bad
def negE (φ : Env → Res VL.D) (env : Env) : Res VL.D := (φ env).bind negD
theorem ve_neg (h : VE X W fla a φ) : VE X W fl (.UnaryOp .USub a pos) (negE φ) := by
  obtain ⟨t, p, r⟩ := h
  refine ⟨_, pe_un un_neg p, fun H0 M0 M H σ env Q g h => ?_⟩
  refine r H0 M0 M H σ env _ g (PostE.seq h fun d v H1 e1 r1 h1 => ?_)
  cases d with
  | int k => cases r1; exact ⟨k, rfl, h1 _ H1 (Ext.refl _) (.int _)⟩
  | _ => exact h1.elim
theorem negE_eq {env : Env} : negE φ env = r1 negD (φ env) := rfl
theorem neg_int {i : Int} : negD (.int i) = .ok (.int (-i)) := rfl
end
end VL

set_option maxRecDepth 100000
set_option maxHeartbeats 2000000
namespace VL
open PySem L2
section
variable {X : Cx} {W : WX} {fl fla : Bool} {e a : Expr} {es : List Expr} {st : Stmt} {sts : List Stmt} {pos : Pos} {φ : Env → Res VL.D} {φs : Env → Res (List VL.D)}
def retFS (φ : Env → Res VL.D) (env : Env) : SRes := ofE (φ env) env fun d => .ro d
def outO : SRes → Res VL.D
  | .ro d => .ok d
  | .xc c fs _ => .exc c fs
  | _ => .bad
def PostO (mg : Gm) (M : Addr → Bool) (H : Hp) (Q : VK) (E : XK) : Res VL.D → Prop
  | .ok d => ∀ p H', Ext H H' → H p = none → OwOk mg (addM M p) H' p d → Q (.ref p) H'
  | .exc c fs => ∀ cls dd H', Ext H H' → RpX mg (Sh M (vw H')) c fs cls dd → E cls dd H'
  | .bad => False
def spO (mg : Gm) (n : Nat) (F : List VL.D → Res VL.D) : Sp := fun vs H Q E => vs.length = n ∧ ∃ (M : Addr → Bool) (ds : List VL.D), MOk M H ∧ RpL mg (Sh M (vw H)) ds vs ∧ PostO mg M H Q E (F ds)
end
structure DefOkO (P : Program) (w : World) (K : PySem.W.Frag) (mg : Str → Option Value) (base : Heap) (x : Str) (k : Nat) (ps : List Str) (n : Nat) (F : List D → Res D) : Prop where
  ex : ∃ (f : Addr) (fd : FuncData), mg x = some (.ref f) ∧ PySem.W.keepIn K (.ref f) = true ∧ Binds K fd ps [] ∧ FnOk P w K mg base (L2N.CX P w) k f fd ps (spO ⟨P, w, K, mg⟩ n F)
section
variable {P : Program} {w : World} {K : PySem.W.Frag} {mg : Str → Option Value} {base : Heap} {x qual : Str} {st : Stmt} {N ps : List Str} {k n : Nat} {ψ : Env → SRes} {F G : List D → Res D}
variable {X : Cx} {W : WX} {fl : Bool} {e : Expr} {es : List Expr} {pos p : Pos} {φs : Env → Res (List D)}
end
end VL

set_option maxRecDepth 100000
set_option maxHeartbeats 2000000
namespace VL
open PySem L2
section
variable {X : Cx} {W : WX} {fl fla flb : Bool} {e a b value : Expr} {es : List Expr} {st : Stmt} {sts body orelse : List Stmt} {pos pos' : Pos} {φ φa φb : Env → Res VL.D} {φs : Env → Res (List VL.D)} {ψ : Env → SRes}
def inX (d e : VL.D) : Res VL.D := match e with
  | .dic t es => if keyFit t d = true then .ok (.bl (lookD es d).isSome) else .bad
  | e => inD d e
def notInX (d e : VL.D) : Res VL.D := match e with
  | .dic t es => if keyFit t d = true then .ok (.bl (!(lookD es d).isSome)) else .bad
  | e => notInD d e
def rInDic : R2 := fun y x H Q => ∃ a o, x = .ref a ∧ DGet H a y o ∧ Q (.bl o.isSome) H
def rNotInDic : R2 := fun y x H Q => ∃ a o, x = .ref a ∧ DGet H a y o ∧ Q (.bl (!o.isSome)) H
theorem op_inDic (hu : X.A.units + 1 < cLine) : OpR X (compareOp .In) rInDic := by
  intro pins s σ H y x u v Q I ry rx h
  obtain ⟨a, o, rfl, g, q⟩ := h
  obtain rfl : v = Value.ref a := rx
  exact d_in hu I g ry fun s3 I3 => ⟨.bl o.isSome, H, I3, rfl, q⟩
theorem op_notInDic (hu : X.A.units + 1 < cLine) : OpR X (compareOp .NotIn) rNotInDic := by
  intro pins s σ H y x u v Q I ry rx h
  obtain ⟨a, o, rfl, g, q⟩ := h
  obtain rfl : v = Value.ref a := rx
  exact d_notIn hu I g ry fun s3 I3 => ⟨.bl (!o.isSome), H, I3, rfl, q⟩
theorem op_inX (hu : X.A.units + 65 < cLine) : OpR X (compareOp .In) (fun x y H Q => rInA X.K x y H Q ∨ rInDic x y H Q) := (op_inA hu).or (op_inDic (by omega))
theorem op_notInX (hu : X.A.units + 65 < cLine) : OpR X (compareOp .NotIn) (fun x y H Q => rNotInA X.K x y H Q ∨ rNotInDic x y H Q) := (op_notInA hu).or (op_notInDic (by omega))
theorem got_some {mg : Gm} {H : Hp} {G : Vw} {a : Addr} {y : V} {o : Option VL.D} (h : Got mg G H a y o) : ∃ o', DGet H a y o' ∧ o'.isSome = o.isSome := by
  cases o with
  | none => exact ⟨none, h, rfl⟩
  | some d => obtain ⟨v, h1, _⟩ := h; exact ⟨some v, h1, rfl⟩
theorem of_inX : OpF X W fla flb fl (fun x y H Q => rInA X.K x y H Q ∨ rInDic x y H Q) inX := by
  intro M H σ Q d e v w m rd re h
  cases e with
  | dic t es =>
    obtain ⟨hf, h'⟩ := PostE.ite h
    have rk := rd.mono (vis_le fla M (vw H))
    have re' := re.mono (vis_le flb M (vw H))
    cases re' with
    | dicK h1 e1 r1 =>
      obtain ⟨o, g1, g2⟩ := got_some (dget_of (G := vw H) (fun _ _ h => h) (.dicK h1 e1 r1) rk hf)
      refine .inr ⟨_, o, rfl, g1, ?_⟩
      rw [g2]
      exact h' _ H (Ext.refl H) (.bl _)
    | dicT h1 e1 r1 =>
      obtain ⟨o, g1, g2⟩ := got_some (dget_of (G := vw H) (fun _ _ h => h) (.dicT h1 e1 r1) rk hf)
      refine .inr ⟨_, o, rfl, g1, ?_⟩
      rw [g2]
      exact h' _ H (Ext.refl H) (.bl _)
    | dicN h1 n e1 r1 => cases d <;> cases hf
  | _ => exact .inl (of_in M H σ Q d _ v w m rd re h)
theorem of_notInX : OpF X W fla flb fl (fun x y H Q => rNotInA X.K x y H Q ∨ rNotInDic x y H Q) notInX := by
  intro M H σ Q d e v w m rd re h
  cases e with
  | dic t es =>
    obtain ⟨hf, h'⟩ := PostE.ite h
    have rk := rd.mono (vis_le fla M (vw H))
    have re' := re.mono (vis_le flb M (vw H))
    cases re' with
    | dicK h1 e1 r1 =>
      obtain ⟨o, g1, g2⟩ := got_some (dget_of (G := vw H) (fun _ _ h => h) (.dicK h1 e1 r1) rk hf)
      refine .inr ⟨_, o, rfl, g1, ?_⟩
      rw [g2]
      exact h' _ H (Ext.refl H) (.bl _)
    | dicT h1 e1 r1 =>
      obtain ⟨o, g1, g2⟩ := got_some (dget_of (G := vw H) (fun _ _ h => h) (.dicT h1 e1 r1) rk hf)
      refine .inr ⟨_, o, rfl, g1, ?_⟩
      rw [g2]
      exact h' _ H (Ext.refl H) (.bl _)
    | dicN h1 n e1 r1 => cases d <;> cases hf
  | _ => exact .inl (of_notIn M H σ Q d _ v w m rd re h)
def setD (es : List (VL.D × VL.D)) (k v : VL.D) : List (VL.D × VL.D) := if (es.any fun p => eqK p.1 k) = true then es.map (fun p => if eqK p.1 k = true then (p.1, v) else p) else es ++ [(k, v)]
theorem any_rel {κ : Type} [DecidableEq κ] {f : κ → VL.D} {k : VL.D} {key : κ} (hk : ∀ a, eqK (f a) k = decide (a = key)) : ∀ {es : List (VL.D × VL.D)} {kvs : List (κ × V)}, es.map (·.1) = kvs.map (fun p => f p.1) → (es.any fun p => eqK p.1 k) = kvs.any fun q => decide (q.1 = key)
  | [], [], _ => rfl
  | [], _ :: _, e => by cases e
  | _ :: _, [], e => by cases e
  | p :: es, q :: kvs, e => by
    rw [List.map_cons, List.map_cons] at e
    obtain ⟨e1, e2⟩ := List.cons.inj e
    rw [List.any_cons, List.any_cons, any_rel hk e2, e1, hk]
theorem map_rel {κ : Type} [DecidableEq κ] {mg : Gm} {G : Vw} {f : κ → VL.D} {k : VL.D} {key : κ} {d : VL.D} {v : V} (hk : ∀ a, eqK (f a) k = decide (a = key)) (rv : Rp mg G d v) : ∀ {es : List (VL.D × VL.D)} {kvs : List (κ × V)}, es.map (·.1) = kvs.map (fun p => f p.1) → RpL mg G (es.map (·.2)) (kvs.map (·.2)) →
    (es.map (fun p => if eqK p.1 k = true then (p.1, d) else p)).map (·.1) = (kvs.map (fun q => if q.1 = key then (q.1, v) else q)).map (fun p => f p.1) ∧
    RpL mg G ((es.map (fun p => if eqK p.1 k = true then (p.1, d) else p)).map (·.2)) ((kvs.map (fun q => if q.1 = key then (q.1, v) else q)).map (·.2))
  | [], [], _, _ => ⟨rfl, .nil⟩
  | [], _ :: _, e, _ => by cases e
  | _ :: _, [], e, _ => by cases e
  | p :: es, q :: kvs, e, r => by
    rw [List.map_cons, List.map_cons] at e
    obtain ⟨e1, e2⟩ := List.cons.inj e
    have r' : RpL mg G (p.2 :: es.map (·.2)) (q.2 :: kvs.map (·.2)) := r
    cases r' with
    | cons r1 r2 =>
      obtain ⟨i1, i2⟩ := map_rel hk rv e2 r2
      have hc : eqK p.1 k = decide (q.1 = key) := by rw [e1, hk]
      simp only [List.map_cons]
      by_cases c : q.1 = key
      · rw [if_pos c, if_pos (by rw [hc, decide_eq_true c])]
        exact ⟨by rw [i1, e1], .cons rv i2⟩
      · rw [if_neg c, if_neg (by rw [hc, decide_eq_false c]; exact Bool.false_ne_true)]
        exact ⟨by rw [i1, e1], .cons r1 i2⟩
theorem set_rel {κ : Type} [DecidableEq κ] {mg : Gm} {G : Vw} {f : κ → VL.D} {k : VL.D} {key : κ} {d : VL.D} {v : V} {es : List (VL.D × VL.D)} {kvs : List (κ × V)} (hk : ∀ a, eqK (f a) k = decide (a = key)) (ek : k = f key) (rv : Rp mg G d v)
    (e : es.map (·.1) = kvs.map (fun p => f p.1)) (r : RpL mg G (es.map (·.2)) (kvs.map (·.2))) :
    (setD es k d).map (·.1) = (putK kvs key v).map (fun p => f p.1) ∧ RpL mg G ((setD es k d).map (·.2)) ((putK kvs key v).map (·.2)) := by
  unfold setD putK
  rw [any_rel hk e]
  by_cases c : (kvs.any fun q => decide (q.1 = key)) = true
  · rw [if_pos c, if_pos c]
    exact map_rel hk rv e r
  · rw [if_neg c, if_neg c, List.map_append, List.map_append, List.map_append, List.map_append, e]
    exact ⟨by rw [ek]; rfl, r.append (.cons rv .nil)⟩
theorem keyD_of {k : VL.D} {key : Key} (h : keyOf k = some key) : k = keyD key := by
  cases k <;> first | (cases h; done) | skip
  all_goals (cases h; rfl)
theorem keysD_of : ∀ {ds : List VL.D} {ks : List Key}, keysOf ds = some ks → ds = ks.map keyD
  | [], _, h => by cases h; rfl
  | d :: ds, _, h => by
    unfold keysOf at h
    cases h1 : keyOf d with
    | none => rw [h1] at h; cases h
    | some k =>
      cases h2 : keysOf ds with
      | none => rw [h1, h2] at h; cases h
      | some ks =>
        rw [h1, h2] at h
        cases h
        rw [List.map_cons, ← keyD_of h1, ← keysD_of h2]
theorem map_len {α β : Type} {f : α → β} {γ : Type} {g : γ → β} {l : List α} {m : List γ} (h : l.map f = m.map g) : l.length = m.length := by
  have := congrArg List.length h
  rwa [List.length_map, List.length_map] at this
theorem put_own {mg : Gm} {M : Addr → Bool} {H : Hp} {p : Addr} {t : Nat} {es : List (VL.D × VL.D)} {k d : VL.D} {y v : V} (mp : M p = true) (ho : OwOk mg M H p (.dic t es)) (rk : Rp mg (vw H) k y) (rv : Rp mg (Sh M (vw H)) d v) (hf : keyFit t k = true) (hl : es.length < sizeLine) :
    ∃ o, DPut H p y v (upd H p o) ∧ OwOk mg M (upd H p o) p (.dic t (setD es k d)) := by
  match t, ho with
  | 0, ⟨kvs, h, e, r⟩ =>
    cases q : keyOf k with
    | none => rw [show keyFit 0 k = (keyOf k).isSome by cases k <;> rfl, q] at hf; cases hf
    | some key =>
      obtain ⟨s1, s2⟩ := set_rel (eqK_key q) (keyD_of q) rv e r
      rw [rp_key rk q]
      exact ⟨_, DPut.k h (by rw [← map_len e]; exact hl), _, upd_same, s1, by rw [sh_mut mp]; exact s2⟩
  | 1, ⟨kvs, h, e, r⟩ =>
    cases k with
    | tup ds =>
      cases q : keysOf ds with
      | none =>
        have : keyFit 1 (.tup ds) = (keysOf ds).isSome := rfl
        rw [this, q] at hf; cases hf
      | some ks =>
        have hk : ∀ b : List Key, eqK (.tup (b.map keyD)) (.tup ds) = decide (b = ks) := fun b => by
          have : eqK (.tup (b.map keyD)) (.tup ds) = eqKs (b.map keyD) ds := by rw [eqK]
          rw [this]; exact eqKs_keys q b
        obtain ⟨s1, s2⟩ := set_rel (f := fun b : List Key => .tup (b.map keyD)) hk (by rw [keysD_of q]) rv e r
        cases rk with
        | tup hb rb =>
          have ex := rp_keys rb q
          subst ex
          exact ⟨_, DPut.t h (vw_tup hb) (by rw [← map_len e]; exact hl), _, upd_same, s1, by rw [sh_mut mp]; exact s2⟩
    | _ => cases hf
  | 2, _ => cases k <;> cases hf
  | _ + 3, h => exact h.elim
def putS (i : Nat) (φk φv : Env → Res VL.D) (env : Env) : SRes := match env[i]? with
  | some (.ow (.dic t es)) => ofE (φv env) env fun d => ofE (φk env) env fun k => if keyFit t k = true ∧ es.length < sizeLine then .nx (env.set i (.ow (.dic t (setD es k d)))) else .bad
  | _ => .bad
theorem vs_put (i : Nat) {x : Str} {ke : Expr} {φk φv : Env → Res VL.D} {px : Pos} (hu : X.A.units + 1 < cLine) (hk : VE X W fla ke φk) (hv : VE X W true value φv) (hN : X.N[i]? = some x := by rfl) (hvi : Vis X.env.scope x := by first | exact Or.inl rfl | exact Or.inr (Or.inl rfl) | exact Or.inr (Or.inr rfl))
    (hd : (x == ("__debug__" : Str)) = false := by decide) (hcd : (x == ("__classdict__" : Str)) = false := by decide)
    (hs : swapsWith value (some (.Subscript (.Name x px) ke pos')) pos.line X.env = pure false := by rfl) : VS X W (.Assign [.Subscript (.Name x px) ke pos'] value pos) (putS i φk φv) := by
  obtain ⟨tk, pk, rk⟩ := hk
  obtain ⟨tv, pv, rv⟩ := hv
  refine ⟨_, ps_dput hu (pe_var hN hvi hd hcd) pk pv hs, fun H0 M0 M H σ env D g h => ?_⟩
  unfold putS at h
  cases q : env[i]? with
  | none => rw [q] at h; exact h.elim
  | some s =>
    rw [q] at h
    cases s with
    | no => exact h.elim
    | sh d => exact h.elim
    | ow dd =>
      cases dd with
      | dic t es =>
        refine rv H0 M0 M H σ env _ g (PostS.ofE g h fun d v H1 e1 g1 r1 h1 => ?_)
        obtain ⟨p', hv', mp, m0, ho⟩ := g1.sl i _ q
        refine ⟨_, hv', ?_⟩
        refine rk H0 M0 M H1 σ env _ g1 (PostS.ofE g1 h1 fun k y H2 e2 g2 r2 h2 => ?_)
        obtain ⟨⟨hf, hl⟩, h2⟩ := PostS.ite h2
        obtain ⟨p2, hv2, mp2, m02, ho2⟩ := g2.sl i _ q
        have ep : p2 = p' := by
          rw [hv'] at hv2
          cases hv2
          rfl
        subst ep
        obtain ⟨o, hp, ho'⟩ := put_own mp2 ho2 (r2.mono (vis_le fla M (vw H2))) (r1.mono (Sh_mono e2.v)) hf hl
        exact ⟨p2, _, rfl, hp, h2 M _ σ (g2.mut q hv2 ho') (by rw [sh_mut mp2]; exact .refl _)⟩
      | _ => exact h.elim
end
end VL

set_option maxRecDepth 100000
set_option maxHeartbeats 2000000
namespace VL
open PySem L2
section
variable {mg : Gm} {H0 H : Hp} {M0 M : Addr → Bool} {σ : L2.St} {env : Env}
end
theorem compL_not {γ : D → Env → Option Env} {τ : Env → Res Bool} {φ : Env → Res D} {env : Env} {c : Str} {fs : List (Str × D)} : ∀ (ds acc : List D), compL γ τ φ env ds acc ≠ .exc c fs
  | [], acc, h => by cases h
  | d :: ds, acc, h => by
    unfold compL at h
    cases q : γ d env with
    | none => rw [q] at h; cases h
    | some e1 =>
      rw [q] at h
      have h1 : (match τ e1 with
        | .ok true => (match φ e1 with
          | .ok y => if acc.length < sizeLine then compL γ τ φ env ds (acc ++ [y]) else .bad
          | _ => .bad)
        | .ok false => compL γ τ φ env ds acc
        | _ => .bad) = Res.exc c fs := h
      cases qt : τ e1 with
      | bad => rw [qt] at h1; cases h1
      | exc _ _ => rw [qt] at h1; cases h1
      | ok b =>
        rw [qt] at h1
        cases b with
        | false => exact compL_not ds acc h1
        | true =>
          have h2 : (match φ e1 with
            | .ok y => if acc.length < sizeLine then compL γ τ φ env ds (acc ++ [y]) else .bad
            | _ => .bad) = Res.exc c fs := h1
          cases qf : φ e1 with
          | bad => rw [qf] at h2; cases h2
          | exc _ _ => rw [qf] at h2; cases h2
          | ok y =>
            rw [qf] at h2
            have h3 : (if acc.length < sizeLine then compL γ τ φ env ds (acc ++ [y]) else .bad) = Res.exc c fs := h2
            by_cases hl : acc.length < sizeLine
            · rw [if_pos hl] at h3; exact compL_not ds _ h3
            · rw [if_neg hl] at h3; cases h3
theorem itOk_keys {mg : Gm} {H0 H : Hp} {M : Addr → Bool} {p : Addr} {od : Obj} {kvs : List (Key × V)} {ks : List D} (h0 : H0 p = some (.frz od (.dK kvs))) (e : ks = kvs.map fun q => keyD q.1) : ItOk mg H0 M H (Itk p od kvs) ks := by
  intro M' H' m e0 ev i
  have hp := e0 _ _ h0
  refine ⟨fun hi => ⟨hp, by rw [e, List.length_map] at hi; exact hi⟩, fun d hd => ?_⟩
  rw [e, List.getElem?_map] at hd
  cases q : kvs[i]? with
  | none => rw [q] at hd; cases hd
  | some kv =>
    rw [q] at hd
    cases hd
    refine ⟨⟨hp, (List.getElem?_eq_some_iff.mp q).1⟩, fun x H2 y => ?_⟩
    obtain ⟨rfl, k, v, h1, rfl⟩ := y
    rw [q] at h1
    cases h1
    refine ⟨.refl _, ?_⟩
    cases k with
    | inl i => exact .int i
    | inr s => exact .str s
section
variable {X : Cx} {W : WX} {tg elt : Expr} {ifs : List Expr} {scope : Scope} {own : List (Str × Nat)} {pos : Pos} {γ : D → Env → Option Env} {τ : Env → Res Bool} {φ : Env → Res D}
end
end VL

set_option maxRecDepth 100000
set_option maxHeartbeats 2000000
namespace VL
open PySem L2
theorem ltCps_iff : ∀ a b : List Nat, PySem.Spec.ltCps a b = decide (a < b)
  | [], [] => (decide_eq_false (List.lt_irrefl [])).symm
  | [], y :: t => (decide_eq_true (List.nil_lt_cons y t)).symm
  | x :: r, [] => (decide_eq_false (List.not_lt_nil _)).symm
  | x :: r, y :: t => by
    show (decide (x < y) || (x == y && PySem.Spec.ltCps r t)) = _
    rw [ltCps_iff r t]
    by_cases h : x < y
    · simp [h, List.cons_lt_cons_iff]
    · by_cases e : x = y
      · subst e; simp [List.cons_lt_cons_iff]
      · simp [h, e, List.cons_lt_cons_iff]
def leT (a b : Str) : Bool := decide (a.cps.toList ≤ b.cps.toList)
def sortT (l : List Str) : List Str := l.mergeSort leT
theorem leT_trans (a b c : Str) (h1 : leT a b = true) (h2 : leT b c = true) : leT a c = true := decide_eq_true (List.le_trans (of_decide_eq_true h1) (of_decide_eq_true h2))
theorem leT_total (a b : Str) : (leT a b || leT b a) = true := by
  rcases List.le_total a.cps.toList b.cps.toList with h | h
  · rw [show leT a b = true from decide_eq_true h]; rfl
  · rw [show leT b a = true from decide_eq_true h, Bool.or_true]
theorem sortT_perm (l : List Str) : (sortT l).Perm l := List.mergeSort_perm l leT
theorem sortT_sorted (l : List Str) : (sortT l).Pairwise fun a b => leT a b = true := List.pairwise_mergeSort leT_trans leT_total l
theorem leT_anti {a b : Str} (h1 : leT a b = true) (h2 : leT b a = true) : a = b := str_ext (List.le_antisymm (of_decide_eq_true h1) (of_decide_eq_true h2))
theorem rising_pw : ∀ (l : List Str) (p : Str), PyProof.Rows.risingS p l = true → (p :: l).Pairwise fun a b => leT a b = true
  | [], p, _ => List.pairwise_singleton ..
  | x :: r, p, h => by
    have h' : (!PySem.Spec.ltCps x.cps.toList p.cps.toList && PyProof.Rows.risingS x r) = true := h
    obtain ⟨h1, h2⟩ := Bool.and_eq_true_iff.mp h'
    have ih := rising_pw r x h2
    have hpx : leT p x = true := by
      rw [ltCps_iff] at h1
      refine decide_eq_true ?_
      have : ¬ x.cps.toList < p.cps.toList := by simpa using h1
      exact List.not_lt.mp this
    refine List.pairwise_cons.mpr ⟨fun y hy => ?_, ih⟩
    rcases List.mem_cons.mp hy with rfl | hy
    · exact hpx
    · exact leT_trans _ _ _ hpx ((List.pairwise_cons.mp ih).1 y hy)
theorem sortedS_pw {l : List Str} (h : PyProof.Rows.sortedS l = true) : l.Pairwise fun a b => leT a b = true := by
  cases l with
  | nil => exact List.Pairwise.nil
  | cons x r => exact rising_pw r x h
theorem sortT_uniq {l m : List Str} (hp : m.Perm l) (hs : m.Pairwise fun a b => leT a b = true) : m = sortT l :=
  List.Perm.eq_of_pairwise (fun a b _ _ h1 h2 => leT_anti h1 h2) hs (sortT_sorted l) (hp.trans (sortT_perm l).symm)
def sortedF : List D → Res D
  | [.lst ds] => match strsOf ds with
    | some xs => if xs.length < 64 then .ok (.lst ((sortT xs).map .str)) else .bad
    | none => .bad
  | _ => .bad
theorem rpl_strs {mg : Gm} {G : Vw} : ∀ l : List Str, RpL mg G (l.map .str) (l.map V.str)
  | [] => .nil
  | s :: l => .cons (.str s) (rpl_strs l)
theorem rpl_strsOf {mg : Gm} {G : Vw} : ∀ {ds : List D} {vs : List V} {xs : List Str}, RpL mg G ds vs → strsOf ds = some xs → vs = xs.map V.str
  | [], _, _, .nil, h => by cases h; rfl
  | d :: ds, _, _, .cons r t, h => by
    cases d <;> first | (cases h; done) | skip
    cases r
    have h' : (strsOf ds).map _ = some _ := h
    cases q : strsOf ds with
    | none => rw [q] at h'; cases h'
    | some l =>
      rw [q] at h'
      cases h'
      rw [rpl_strsOf t q]
      rfl
section
variable {X : Cx} {W : WX} {fl fla flb : Bool} {e : Expr} {es : List Expr} {pos : Pos} {φs : Env → Res (List D)}
theorem vf_sorted {p : Pos} (hm : X.mg "sorted" = none) (ha : VA X W fla (e :: es) φs) (hg : Gl X "sorted" := by rfl) (he : starEach (e :: es) X.env = (false, eval e X.env) :: starEach es X.env := by rfl) (hpl : (backTo pos (starEach es X.env)).any (·.1) = false := by rfl) :
    VF X W (.Call (.Name "sorted" p) (e :: es) [] pos) (aE sortedF φs) := by
  obtain ⟨t, pt, r⟩ := ha
  refine ⟨_, pe_callB cr_sortedS hg hm (by decide +kernel) pt (by decide) (by decide) he hpl, fun H0 M0 M H σ env Q g h => ?_⟩
  refine r H0 M0 M H σ env _ g ?_
  have h0 : PostN X W M σ H Q ((φs env).bind sortedF) := h
  cases q : φs env with
  | bad => rw [q] at h0; exact h0
  | exc c fs => rw [q] at h0; exact h0
  | ok ds =>
    rw [q] at h0
    intro vs H1 e1 r1
    have h1 : PostN X W M σ H Q (sortedF ds) := h0
    have r2 := r1.mono (vis_le fla M (vw H1))
    cases r2 with
    | nil => exact h1.elim
    | cons ra rb =>
      cases rb with
      | cons _ _ => cases ra <;> exact h1.elim
      | nil =>
        cases ra <;> first | exact h1.elim | skip
        case lst a xs ds hx rx =>
          have h2 : PostN X W M σ H Q (match strsOf ds with
            | some xs => if xs.length < 64 then .ok (.lst ((sortT xs).map .str)) else .bad
            | none => .bad) := h1
          cases z : strsOf ds with
          | none => rw [z] at h2; exact h2.elim
          | some ss =>
            rw [z] at h2
            have h3 : PostN X W M σ H Q (if ss.length < 64 then .ok (.lst ((sortT ss).map .str)) else .bad) := h2
            by_cases hl : ss.length < 64
            · rw [if_pos hl] at h3
              refine ⟨a, ss, rfl, ?_, hl, fun ys p hp hs hn => ?_⟩
              · rw [← rpl_strsOf rx z]
                exact .inl (vw_lst hx)
              · rw [sortT_uniq hp (sortedS_pw hs)]
                exact h3 p _ (e1.fresh hn) (e1.trans (Ext.new hn)) ⟨_, upd_same, rpl_strs _⟩
            · rw [if_neg hl] at h3; exact h3.elim
def strF : List D → Res D
  | [.str s] => .ok (.str s)
  | _ => .bad
theorem cf_str : CallF X W fla fl (fun xs H Q => ∃ a, xs = [.str a] ∧ Q (.str a) H) strF := by
  intro M H σ Q ds vs m r h
  cases r with
  | nil => exact h.elim
  | cons ra rb =>
    cases rb with
    | cons _ _ => cases ra <;> exact h.elim
    | nil =>
      cases ra <;> first | exact h.elim | skip
      exact ⟨_, rfl, h _ H (Ext.refl H) (.str _)⟩
def ltX : D → D → Res D
  | .str s, .str t => .ok (.bl (decide (s.cps.toList < t.cps.toList)))
  | d, e => ltD d e
end
end VL

set_option maxRecDepth 100000
set_option maxHeartbeats 2000000
namespace VL
open PySem L2
theorem ofE_ok {d : D} {env : Env} {k : D → SRes} : ofE (.ok d) env k = k d := rfl
theorem Sat_ro {P : Post} {d : D} : Sat P (.ro d) = P.ro d := rfl
theorem thn_ro {P : Post} {χ : Env → SRes} {d : D} : (P.thn χ).ro d = P.ro d := rfl
theorem lp_ro {P : Post} {I : Env → Prop} {d : D} : (P.lp I).ro d = P.ro d := rfl
theorem ltX_int {i j : Int} : ltX (.int i) (.int j) = .ok (.bl (decide (i < j))) := rfl
theorem ltX_str {s t : Str} : ltX (.str s) (.str t) = .ok (.bl (decide (s.cps.toList < t.cps.toList))) := rfl
theorem str_str {s : Str} : strF [.str s] = .ok (.str s) := rfl
theorem inX_str {d : D} {z : Str} : inX d (.str z) = inD d (.str z) := rfl
theorem notInX_str {d : D} {z : Str} : notInX d (.str z) = notInD d (.str z) := rfl
theorem list_lst {ds : List D} : listF [.lst ds] = .ok (.lst ds) := rfl
theorem list_tup {ds : List D} : listF [.tup ds] = .ok (.lst ds) := rfl
theorem sorted_txts {l : List Str} (h : l.length < 64) : sortedF [.lst (l.map .str)] = .ok (.lst ((sortT l).map .str)) := by
  show (match strsOf (l.map .str) with
    | some xs => if xs.length < 64 then Res.ok (D.lst ((sortT xs).map D.str)) else Res.bad
    | none => Res.bad) = _
  rw [strsOf_map]
  exact if_pos h
end VL

set_option maxRecDepth 100000
set_option maxHeartbeats 2000000
set_option autoImplicit false
namespace VL
open PySem L2
section
variable {X : Cx} {pins : List (Addr × Obj)} {σ : L2.St} {H : Hp} {sI s s' : Shared} {B : Heap} {a : Addr} {oe : Obj}
abbrev hEx (H : Hp) (a : Addr) (oe : Obj) : Hp := upd H a (.frz oe (.own a))
theorem caught_inv (I : Inv X pins σ H sI) (nb : ∀ b o, sI.heap.get? b = some o → b ∉ frs X.stack → B.get? b = some o) (st : B.StaysIn s'.heap) (up : sI.heap.UpToSlots s'.heap)
    (os : s'.os = sI.os) (ag : PyProof.Rows.AllBare s'.gens) (na : H a = none) (he : s'.heap.get? a = some oe) (hB : B.get? a = none) (nfr : a ∉ frs X.stack) : Inv X pins σ (hEx H a oe) s' := by
  have ne : ∀ {b : Addr} {o : Obj}, sI.heap.get? b = some o → b ≠ a := fun {b o} e z => by
    subst z
    have q := nb _ o e nfr
    rw [hB] at q
    cases q
  have nf : ∀ (b : Addr) (hb : b ∈ frs X.stack) (o : Obj) (e : sI.heap.get? b = some o), ∃ sl, s'.heap.get? b = some { o with slots := sl } := fun b hb o e => by
    obtain ⟨_, o', e', hd⟩ := I.stack.mem hb
    rw [e] at e'
    cases e'
    exact up b o e hd
  have ok0 : HOk X.prog X.w H s'.heap := (I.inGround nb).kept st
  have ok1 : HOk X.prog X.w (hEx H a oe) s'.heap := fun b o q => by
    by_cases e : b = a
    · subst e
      rw [show hEx H b oe b = _ from upd_same] at q
      cases q
      exact ⟨he, ⟨oe, he⟩⟩
    · rw [show hEx H a oe b = _ from upd_ne e] at q
      exact (ok0 b o q).stay (fun _ _ _ r => r) (fun c r => (upd_ne (ne_of_none r na)).trans r) (fun c xs r => (upd_ne (ne_of_none r na)).trans r)
  have J := I.call (ch := []) (h' := s'.heap) (g' := s'.gens) (t' := s'.toks) (d' := s'.drawn) (H' := hEx H a oe)
    ⟨fun b o e _ hb _ => st b o (nb b o e hb), fun b o e _ hb _ => nf b hb o e, fun b o e n _ => (upd_ne (ne e)).trans n, fun b o e _ => by
      by_cases hb : b ∈ frs X.stack
      · obtain ⟨sl, q⟩ := nf b hb o e; exact ⟨_, q⟩
      · exact ⟨o, st b o (nb b o e hb)⟩, fun b xs e => (upd_ne (ne_of_none e na)).trans e, fun b o u e => (upd_ne (ne_of_none e na)).trans e, fun b ps e => ⟨#[], by rw [show hEx H a oe b = _ from upd_ne (ne_of_none e na), e]; simp⟩⟩ ok1 ag (fun _ z => nomatch z)
  obtain ⟨a1, a2, a3, a4, a5⟩ := s'
  have e5 : a5 = sI.os := os
  subst e5
  exact J
theorem into_suite (I : Inv X pins σ H s) (a : Addr) : Inv (X.suite a (X.pn ++ pins)) [] σ H s :=
  ⟨I.ok.suite _ _, I.os, I.bare, I.base, I.loc, I.cell, I.free, I.freeC, fun p hp => by rw [List.append_nil] at hp; exact I.pin p hp, I.hok, I.len⟩
theorem out_suite {pn' : List (Addr × Obj)} (I : Inv (X.suite a (X.pn ++ pins)) pn' σ H s) (ok : X.Ok) : Inv X pins σ H s :=
  ⟨ok, I.os, I.bare, I.base, I.loc, I.cell, I.free, I.freeC, fun p hp => I.pin p (List.mem_append_left pn' hp), I.hok, I.len⟩
end
abbrev TSx := Addr → Obj → Value → Option Addr → TS
inductive Hds (Zp : Value → Option Addr → Obj → Prop) (X : Cx) : List ExceptHandler → List (Value × Option Nat × TSx) → Prop
  | nil : Hds Zp X [] []
  | named {x n : Str} {c : Value} {i : Nat} {ts : TSx} {st1 : Stmt} {sts : List Stmt} {np hp : Pos} {hds : List ExceptHandler} {l : List (Value × Option Nat × TSx)} (hc : Names X x c) (hi : X.N[i]? = some n) (hln : X.env.kindOf n = some .local)
      (hsu : ∀ (a : Addr) (oe : Obj) (cls : Value) (d : Option Addr) (pn : List (Addr × Obj)), Zp cls d oe → (∃ vs, oe.data = .fields vs) → PSs (X.suite a pn) (st1 :: sts) (ts a oe cls d)) (r : Hds Zp X hds l) :
      Hds Zp X (.ExceptHandler (some (.Name x np)) (some n) (st1 :: sts) hp :: hds) ((c, some i, ts) :: l)
  | anon {x : Str} {c : Value} {ts : TSx} {st1 : Stmt} {sts : List Stmt} {np hp : Pos} {hds : List ExceptHandler} {l : List (Value × Option Nat × TSx)} (hc : Names X x c)
      (hsu : ∀ (a : Addr) (oe : Obj) (cls : Value) (d : Option Addr) (pn : List (Addr × Obj)), Zp cls d oe → (∃ vs, oe.data = .fields vs) → PSs (X.suite a pn) (st1 :: sts) (ts a oe cls d)) (r : Hds Zp X hds l) :
      Hds Zp X (.ExceptHandler (some (.Name x np)) none (st1 :: sts) hp :: hds) ((c, none, ts) :: l)
def unD : Option Nat → Ends → Ends
  | none, D => D
  | some i, D => { nx := fun σ H => D.nx (σ.set i none) H, rt := D.rt, bk := fun σ H => D.bk (σ.set i none) H, ct := fun σ H => D.ct (σ.set i none) H }
def inS (on : Option Nat) (a : Addr) (σ : L2.St) : L2.St := match on with
  | none => σ
  | some i => σ.set i (some (.ref a))
def wHs (Zp : Value → Option Addr → Obj → Prop) (K : PySem.W.Frag) (Wout : WX) (D : Ends) : List (Value × Option Nat × TSx) → WX
  | [] => Wout
  | (c, on, ts) :: l => fun cls d σ H => ∃ b, PySem.W.exmOne K cls c = some b ∧ (b = true → ∀ a oe, H a = none → Zp cls d oe → (∃ vs, oe.data = .fields vs) → ts a oe cls d (unD on D) (inS on a σ) (hEx H a oe)) ∧ (b = false → wHs Zp K Wout D l cls d σ H)
section
variable {X : Cx} {body : List Stmt} {h1 : ExceptHandler} {hds : List ExceptHandler} {l : List (Value × Option Nat × TSx)} {pos : Pos} {tb : WX → TS} {Wout : WX}
end
section
variable {X : Cx} {body : List Stmt} {h1 : ExceptHandler} {hds : List ExceptHandler} {l : List (Value × Option Nat × TSx)} {pos : Pos} {tb : WX → TS} {Wout : WX}
theorem ps_tryN (hs : X.stack = X.env :: X.outer) (hf : X.env.frame = some X.env.locals) (hN : X.N.Nodup) (tk : L2N.Takes X Wout)
    (hb : ∀ (W : WX) (pn : List (Addr × Obj)) (xe : Value → Shared → Prop), L2N.Takes (X.tr pn xe) W → PassesOwn (model X.prog X.w) X.A X.env xe → PSs (X.tr pn xe) body (tb W))
    (hh : Hds L2N.Zn X (h1 :: hds) l) : PS X (.Try body (h1 :: hds) [] [] pos) (fun D σ H => tb (wHs L2N.Zn X.K Wout D l) D σ H) := by
  refine ⟨fun pins s σ H D I h => ?_⟩
  have ok := I.ok
  have hfr : X.A.frames = some (X.env :: X.outer) := ok.frames.trans (congrArg some hs)
  refine wpAny_Try_except (wpAny_mono ((hb (wHs L2N.Zn X.K Wout D l) (X.pn ++ pins) _ (fun u s' air => ?_) PassesOwn.looking).run [] s σ H D (I.toTry _) h) (fun f s1 q => ?_) fun _ _ z => z)
  rotate_left
  · match f, q with
    | .next, ⟨σ1, H1, J, q⟩ => exact wpAny_execs_nil ⟨σ1, H1, J.ofTry ok, q⟩
    | .brk, ⟨σ1, H1, J, q⟩ => exact ⟨σ1, H1, J.ofTry ok, q⟩
    | .cont, ⟨σ1, H1, J, q⟩ => exact ⟨σ1, H1, J.ofTry ok, q⟩
    | .ret u, ⟨v, σ1, H1, J, r, q⟩ => exact ⟨v, σ1, H1, J.ofTry ok, r, q⟩
  obtain ⟨a, B, sI, pins2, σ2, H2, cls, d, rfl, J2, nb, up, sky, na, os, ag, w⟩ := air
  have J : Inv X pins σ2 H2 sI := J2.ofTry ok
  have skyE : Sky B (X.env :: X.outer) a (L2N.Zn cls d) X.env.locals s'.heap := by rw [← hs]; exact sky
  refine L2N.Sky.land L2N.Zn.steady hfr hf skyE fun g3 fly up3 => ?_
  have J3 : Inv X pins σ2 H2 { s' with heap := g3 } := J.landed nb fly.1 (up.trans up3) os ag
  obtain ⟨o3, f3, at3, z3, dt3⟩ := fly.there
  have nfr : a ∉ frs X.stack := fun hm => by
    obtain ⟨_, o', e', hnf⟩ := fly.2.2.1.mem (show a ∈ frs (X.env :: X.outer) by rw [← hs]; exact hm)
    rw [at3] at e'
    cases e'
    exact hnf _ dt3
  have S3 := into_suite (caught_inv (s' := { s' with heap := g3 }) J nb fly.1 (up.trans up3) os ag na at3 fly.2.1 nfr) a
  have look : ∀ {x : Str} {np : Pos} {c : Value} {Q : Value → Shared → Prop} {E : Value → Shared → Prop}, Names X x c → Q c { s' with heap := g3 } → wpAny (model X.prog X.w) (X.A.mark (some (.ref a))) (eval (.Name x np) X.env) Q E { s' with heap := g3 } := fun {x np c Q E} hn q => by
    rcases hn with ⟨hg, hdb, hm | ⟨hm, hv, hnn⟩⟩
    · exact ld_glob S3 hg hm q hdb
    · exact ld_blt S3 hg hm hv q hnn hdb
  have LT : PySem.W.Looks (model X.prog X.w) g3 (typeOf (.ref a)) cls := fun A Q E s4 k4 q => wpAny_typeOf_ref (k4 _ _ at3) (by rw [z3.1]; exact q)
  have flyOn : Wout cls d σ2 H2 → wpAny (model X.prog X.w) X.A (handleBy (.ref a) X.env []) (SP X pins D) X.xe { s' with heap := g3 } := fun w0 => by
    refine wpAny_handleBy_nil ?_
    obtain ⟨_, _, _, o4, v4, T, _, _, at4, _, dt4, i1, _⟩ := id fly
    unfold PySem.passOn
    refine wpAny_bind (wpAny_field at4 dt4 i1 ?_)
    rw [if_neg (show ¬ ((Value.ref T == Value.none) = true) by simp)]
    have fin : wpAny (model X.prog X.w) X.A (setFlight (.ref a) X.env.frame) (fun _ s4 => wpAny (model X.prog X.w) X.A (throw (.ref a) : Sem Flow) (SP X pins D) X.xe s4) X.xe { s' with heap := g3 } := by
      rw [hf]
      exact HandSPX.setFlight_upZ fly fun g4 held up4 => wpAny_throw (tk _ _ ⟨a, B, sI, pins, σ2, H2, cls, d, rfl, J, nb, (up.trans up3).trans up4, .inr (.inr (by rw [hs]; exact held)), na, os, ag, w0⟩)
    first
      | exact wpAny_bind (wpAny_pure (wpAny_bind fin))
      | exact wpAny_bind fin
  have go : ∀ {hs' : List ExceptHandler} {l' : List (Value × Option Nat × TSx)}, Hds L2N.Zn X hs' l' → wHs L2N.Zn X.K Wout D l' cls d σ2 H2 → wpAny (model X.prog X.w) X.A (handleBy (.ref a) X.env hs') (SP X pins D) X.xe { s' with heap := g3 } := by
    intro hs' l' hk
    induction hk with
    | nil => exact flyOn
    | @named x n c i ts st1 sts np hp hds2 l2 hc hi hln hsu r ih =>
      rintro ⟨b, hb1, hyes, hno⟩
      refine wpAny_handleBy_cons (codeAny_handlers_test (look hc ((PySem.W.exm_one J3.kIn LT hb1).here ?_))) (by intro q; cases q)
      cases b with
      | false => exact ih (hno rfl)
      | true =>
        refine codeAny_handlers_suite_as (HandSPX.lands_againZ fly fun g4 fly4 up4 => ?_)
        obtain ⟨o4, f4, at4, z4, dt4⟩ := fly4.there
        have S4 := into_suite (caught_inv (s' := { s' with heap := g4 }) J nb fly4.1 ((up.trans up3).trans up4) os ag na at4 fly4.2.1 nfr) a
        refine store_ok (X := X.suite a (X.pn ++ pins)) (v := .ref a) S4 hN hi (Or.inl hln) rfl (fun s5 S5 => ?_) (.inr hln)
        refine wpAny_mono ((hsu a o4 cls d (X.pn ++ pins) z4 ⟨f4, dt4⟩).run [] s5 _ _ _ S5 (hyes rfl a o4 na z4 ⟨f4, dt4⟩)) (fun f s6 q => ?_) (fun _ _ z => False.elim z)
        have gone : ∀ {σ6 : L2.St} {H6 : Hp} {Q : Shared → Prop}, Inv (X.suite a (X.pn ++ pins)) [] σ6 H6 s6 → (∀ s7, Inv X pins (σ6.set i none) H6 s7 → Q s7) → wpAny (model X.prog X.w) X.A (do bindName X.env n .none; unbindBehindTheSuite X.env n hp) (fun _ s7 => Q s7) X.xe s6 :=
          fun {σ6 H6 Q} S6 k6 => gone_ok (out_suite S6 ok) hN hi hln k6
        match f, q with
        | .next, ⟨σ6, H6, S6, q6⟩ => exact gone S6 fun s7 J7 => ⟨_, _, J7, q6⟩
        | .brk, ⟨σ6, H6, S6, q6⟩ => exact gone S6 fun s7 J7 => ⟨_, _, J7, q6⟩
        | .cont, ⟨σ6, H6, S6, q6⟩ => exact gone S6 fun s7 J7 => ⟨_, _, J7, q6⟩
        | .ret u, ⟨v6, σ6, H6, S6, r6, q6⟩ => exact gone S6 fun s7 J7 => ⟨_, _, _, J7, r6, q6⟩
    | @anon x c ts st1 sts np hp hds2 l2 hc hsu r ih =>
      rintro ⟨b, hb1, hyes, hno⟩
      refine wpAny_handleBy_cons (codeAny_handlers_test (look hc ((PySem.W.exm_one J3.kIn LT hb1).here ?_))) (by intro q; cases q)
      cases b with
      | false => exact ih (hno rfl)
      | true =>
        refine codeAny_handlers_suite (HandSPX.lands_againZ fly fun g4 fly4 up4 => ?_)
        obtain ⟨o4, f4, at4, z4, dt4⟩ := fly4.there
        have S4 := into_suite (caught_inv (s' := { s' with heap := g4 }) J nb fly4.1 ((up.trans up3).trans up4) os ag na at4 fly4.2.1 nfr) a
        refine wpAny_mono ((hsu a o4 cls d (X.pn ++ pins) z4 ⟨f4, dt4⟩).run [] _ _ _ _ S4 (hyes rfl a o4 na z4 ⟨f4, dt4⟩)) (fun f s6 q => ?_) (fun _ _ z => False.elim z)
        match f, q with
        | .next, ⟨σ6, H6, S6, q6⟩ => exact ⟨_, _, out_suite S6 ok, q6⟩
        | .brk, ⟨σ6, H6, S6, q6⟩ => exact ⟨_, _, out_suite S6 ok, q6⟩
        | .cont, ⟨σ6, H6, S6, q6⟩ => exact ⟨_, _, out_suite S6 ok, q6⟩
        | .ret u, ⟨v6, σ6, H6, S6, r6, q6⟩ => exact ⟨_, _, _, out_suite S6 ok, r6, q6⟩
  exact go hh w
end
end VL

set_option maxRecDepth 100000
set_option maxHeartbeats 2000000
set_option autoImplicit false
namespace VL
open PySem L2
def spIn (C : Addr) (ns : List Str) : Sp := fun vs H Q _ => ∃ (a : Addr) (us : List V), vs = .ref a :: us ∧ us.length = ns.length ∧ H a = some (exo a C none) ∧
  ∀ dx, H dx = none → dx ≠ a → Q .non (upd (upd H dx (exd dx (ns.zip us).reverse)) a (exo a C (some dx)))
section
variable {P : Program} {w : World} {K : PySem.W.Frag} {mg : Str → Option Value} {base : Heap} {CX : CXT} {qual f1 f2 : Str} {st : Stmt} {f C : Addr} {fd : FuncData} {q1 q2 q3 q4 r1 r2 r3 r4 : Pos}
theorem init_one (F : Fun K "__init__" qual st f fd) (S : FnScope ["self", f1] ["self", f1] (defScope st)) (hb : defBody st = [.Assign [.Attribute (.Name "self" q1) f1 q2] (.Name f1 q3) q4]) (T : OexC K C) (no1 : PySem.W.findIn K (.ref C) f1 = some none)
    (l0 : (defScope st).names.lookup ("self" : Str) = some .local) (l1 : (defScope st).names.lookup f1 = some .local) (hd1 : (f1 == ("__debug__" : Str)) = false) (hc1 : (f1 == ("__classdict__" : Str)) = false) : FnOk P w K mg base CX 1 f fd ["self", f1] (spIn C [f1]) := by
  refine fun_okN F S (fun vs H Q E h => ?_) fun cdv A outer s H vs Q E hr h => ?_
  · obtain ⟨a, us, rfl, hl, _⟩ := h
    rw [List.length_cons, hl]; rfl
  · obtain ⟨a, us, rfl, hl, ha, k⟩ := h
    match us, hl with
    | [y], _ =>
      refine ⟨_, hb ▸ pss_one (ps_ost (pe_var (i := 0) rfl (Or.inl l0)) (pe_var (i := 1) rfl (Or.inl l1) hd1 hc1)), ?_⟩
      exact ⟨y, rfl, _, rfl, a, C, rfl, T, no1, .inl ⟨ha, fun dx h1 h2 => k dx h1 h2⟩⟩
end
theorem pmk_oexN {X : Cx} {CX : CXT} {x : Str} {C fI : Addr} {k : Nat} {fd : FuncData} {ps : List Str} {sp : Sp} {e : Expr} {es : List Expr} {ta : TA} {p pos : Pos} (T : OexC X.K C) (iC : PySem.W.findIn X.K (.ref C) "__init__" = some (some (.ref fI)))
    (tI : PySem.W.typeIn X.K (.ref fI) = some (.type "function")) (FI : FnOk X.prog X.w X.K X.mg X.base CX k fI fd ps sp) (hr : Room (k + 1) X.A) (hb : Binds X.K fd ps []) (hx : Passes CX X (fun _ _ _ => False)) (hg : Gl X x) (hm : X.mg x = some (.ref C)) (ha : PA X (e :: es) ta)
    (hdb : (x == ("__debug__" : Str)) = false := by decide) (he : starEach (e :: es) X.env = (false, eval e X.env) :: starEach es X.env := by rfl) (hpl : (backTo pos (starEach es X.env)).any (·.1) = false := by rfl) :
    L2N.PMk X (.Call (.Name x p) (e :: es) [] pos) (tMkO C sp [] ta) := by
  intro pins s σ H Q I h
  obtain ⟨_, _, _, _, bm, _, _, _, _, _, _, _, _, _, _, hC, hbm⟩ := T.cls
  refine wpAny_Call_Name_kw (ld_glob I hg hm ?_ hdb)
  refine PySem.W.callWith_K (h₀ := X.base) I.ok.mod.kin T.kC (thn (ha.run pos pins s σ H _ I h) fun us s1 ⟨vs, H1, I1, rr, hz, ask⟩ => ⟨I1.kIn, ?_⟩) he hpl
  show wpAny _ _ (call (.ref C) us) _ _ _
  obtain ⟨hp, g, dr, tk, os⟩ := s1
  generalize hn0 : hp.objs.size = n0
  have up1 : hp.objs.size ≤ n0 + 1 := by omega
  have fre : H1 (n0 + 1) = none := I1.hok.fresh up1
  have asked := ask (n0 + 1) fre
  rw [List.append_nil] at asked
  have kept : ∀ b o, hp.get? b = some o → ((hp.push (PySem.W.kdv_tup us)).push (PySem.HandSPX.excO C n0)).get? b = some o := fun b o e2 => Heap.get?_push_of_some _ (Heap.get?_push_of_some _ e2)
  have newOb : ((hp.push (PySem.W.kdv_tup us)).push (PySem.HandSPX.excO C n0)).get? (n0 + 1) = some (PySem.HandSPX.excO C n0) := by subst hn0; heap_get
  have I2 : Inv X pins σ (upd H1 (n0 + 1) (exo (n0 + 1) C none)) ⟨(hp.push (PySem.W.kdv_tup us)).push (PySem.HandSPX.excO C n0), g, dr, tk, os⟩ :=
    I1.laid (t' := tk) (a := n0 + 1) (o := exo (n0 + 1) C none) kept up1 (exo_ok newOb)
  have vals : Vals (V.ref (n0 + 1) :: vs) (Value.ref (n0 + 1) :: us) := .cons rfl rr
  have lens : (Value.ref (n0 + 1) :: us ++ []).length = ps.length := by
    have e2 := vals.length
    rw [FI.len _ _ _ _ asked] at e2
    rw [List.append_nil]
    exact e2.symm
  have few : us.length ≤ sizeLine := by
    have e2 := Paired.length rr
    rw [sizeLine_eq]
    omega
  have bnd := hb _ (Value.ref (n0 + 1) :: us) I2.kIn lens
  rw [List.append_nil] at bnd
  subst hn0
  refine wpAny_call (PySem.HandSPX.call_own F.excBase_ValueError (fun Y => PySem.HandSPX.refsVE_contains Y bm hbm) (I1.kIn _ _ hC) (PySem.W.looks_findIn I1.kIn iC) (fun self => PySem.W.bind_fn I1.kIn self tI) few
    (codeAny_mono (FI.run _ X.stack _ _ ⟨Value.ref (hp.objs.size + 1) :: us, []⟩ _ _ _ (fun _ _ _ => False) (hr.make C us []) (I2.env0.make C us []) bnd vals asked) fun r s2 out => ?_))
  match r, out with
  | .error er, out => exact hx pins σ _ _ er s2 I2 out
  | .ok (.ret u), out =>
    obtain ⟨v, H2, os2, bare2, un2, ok2, rv, rfl, d, fs, ea, ed, hd1, fin⟩ := out
    obtain ⟨h2, g2, d2, t2, os'⟩ := s2
    obtain ⟨t0, G, J, kG, ge, hoe, na⟩ := mk_end0 (d2 := d2) (t2 := t2) I1 up1 kept un2 ok2 os2 bare2 ea ed hd1
    exact ⟨rv, hp.objs.size + 1, _, _, ⟨G, g2, d2, t2, os'⟩, _, .ref C, some d, rfl, J, kG, ge, hoe, ⟨rfl, rfl, fun vs2 hv => by cases hv; rfl⟩, rfl, rfl, na, rfl, bare2, raises_own T.exC T.tyC, fin⟩
  | .ok .next, out => exact False.elim out
  | .ok .brk, out => exact False.elim out
  | .ok .cont, out => exact False.elim out
structure ExI (P : Program) (w : World) (K : PySem.W.Frag) (mg : Str → Option Value) (base : Heap) (x : Str) (ns : List Str) : Prop where
  ex : ∃ (C fI : Addr) (fd : FuncData) (ps : List Str), mg x = some (.ref C) ∧ OexC K C ∧ PySem.W.findIn K (.ref C) "__init__" = some (some (.ref fI)) ∧ PySem.W.typeIn K (.ref fI) = some (.type "function") ∧ Binds K fd ps [] ∧ FnOk P w K mg base (L2N.CX P w) 1 fI fd ps (spIn C ns)
def raise0S (c : Str) (env : Env) : SRes := .xc c [] env
def raiseS (c : Str) (ns : List Str) (φs : Env → Res (List D)) (env : Env) : SRes := ofA (φs env) env fun ds => if ds.length = ns.length then .xc c (ns.zip ds).reverse env else .bad
theorem zip_keys {α : Type} : ∀ {ns : List Str} {ds : List α}, ds.length = ns.length → (ns.zip ds).map (·.1) = ns
  | [], [], _ => rfl
  | n :: ns, d :: ds, h => by rw [List.zip_cons_cons, List.map_cons, zip_keys (by simpa using h)]
  | [], _ :: _, h => by cases h
  | _ :: _, [], h => by cases h
theorem zip_vals {α : Type} : ∀ {ns : List Str} {ds : List α}, ds.length = ns.length → (ns.zip ds).map (·.2) = ds
  | [], [], _ => rfl
  | n :: ns, d :: ds, h => by rw [List.zip_cons_cons, List.map_cons, zip_vals (by simpa using h)]
  | [], _ :: _, h => by cases h
  | _ :: _, [], h => by cases h
theorem RpL.reverse {mg : Gm} {G : Vw} : ∀ {ds : List D} {vs : List V}, RpL mg G ds vs → RpL mg G ds.reverse vs.reverse
  | _, _, .nil => .nil
  | _, _, .cons r t => by
    rw [List.reverse_cons, List.reverse_cons]
    exact (RpL.reverse t).append (.cons r .nil)
section
variable {X : Cx} {W : WX} {x m : Str} {j : Nat} {p p2 pos pos2 : Pos} {e : Expr} {es : List Expr} {φs : Env → Res (List VL.D)} {C : Addr} {bmB : List Value} {B newId initId : String}
theorem vs_raise0 (hc : X.calm = true) (tk : L2N.Takes X W) (F : ExcBaseFacts B newId initId bmB) (q : PySem.W.excIn X.K C bmB newId = true) (gC : X.mg x = some (.ref C)) (kC : PySem.W.keepIn X.K (.ref C) = true)
    (s1 : PySem.W.subIn X.K (.ref C) (.type "BaseException") = some true) (s2 : PySem.W.typeIn X.K (.ref C) = some (.type "type")) (hg : Gl X x := by rfl) (hdb : (x == ("__debug__" : Str)) = false := by decide) :
    VS X W (.Raise (some (.Call (.Name x p) [.Constant (.str m) j p2] [] pos)) none pos2) (raise0S x) :=
  ⟨_, L2N.ps_raise hc tk (L2N.pmk_own F q gC kC (raises_own s1 s2) hg hdb), fun H0 M0 M H σ env D g h => h M H σ _ none g (.refl _) ⟨gC, .inl ⟨rfl, rfl⟩⟩⟩
theorem vs_raise {ns : List Str} (hc : X.calm = true) (tk : L2N.Takes X W) (hr : Room 2 X.A) (hE : ExI X.prog X.w X.K X.mg X.base x ns) (ha : VA X W true (e :: es) φs) (hl : ns.length ≤ 900) (hg : Gl X x := by rfl) (hdb : (x == ("__debug__" : Str)) = false := by decide)
    (he : starEach (e :: es) X.env = (false, eval e X.env) :: starEach es X.env := by rfl) (hpl : (backTo pos (starEach es X.env)).any (·.1) = false := by rfl) :
    VS X W (.Raise (some (.Call (.Name x p) (e :: es) [] pos)) none pos2) (raiseS x ns φs) := by
  obtain ⟨C, fI, fd, ps, hm, T, iC, tI, hb, FI⟩ := hE.ex
  obtain ⟨t, pt, r⟩ := ha
  refine ⟨_, L2N.ps_raise hc tk (pmk_oexN T iC tI FI hr hb (fun pins σ H s e s' I c => tk e s' (L2N.XE.of_call I (fun _ _ _ h => h.elim) c)) hg hm pt hdb he hpl), fun H0 M0 M H σ env D g h => ?_⟩
  refine r H0 M0 M H σ env _ g ?_
  unfold raiseS at h
  cases q : φs env with
  | bad => rw [q] at h; exact h
  | exc c fs => rw [q] at h; exact fun cls dd H1 e1 r1 => h M H1 σ cls dd (g.mono e1) (Sh_mono e1.v) r1
  | ok ds =>
    rw [q] at h
    intro vs H1 e1 r1
    have h1 : PostS X W H0 M0 M H D (if ds.length = ns.length then SRes.xc x (ns.zip ds).reverse env else .bad) := h
    obtain ⟨hn, h2⟩ := PostS.ite h1
    have hvn : vs.length = ns.length := by rw [← r1.length]; exact hn
    refine ⟨by omega, fun a ha => ⟨a, vs, by rw [List.append_nil], hvn, upd_same, fun dx hdx hne => ⟨rfl, dx, (ns.zip vs).reverse, upd_same, (upd_ne hne).trans upd_same, ?_, ?_⟩⟩⟩
    · rw [upd_ne hne] at hdx; exact hdx
    · rw [upd_ne hne] at hdx
      have eq : upd (del (upd (upd (upd H1 a (exo a C none)) dx (exd dx (ns.zip vs).reverse)) a (exo a C (some dx))) a) dx (.xd (ns.zip vs).reverse) = upd H1 dx (.xd (ns.zip vs).reverse) := by
        funext b
        by_cases eb : b = dx
        · subst eb; rw [upd_same, upd_same]
        · rw [upd_ne eb, upd_ne eb]
          by_cases ea : b = a
          · subst ea; rw [del_same, ha]
          · rw [del_ne ea, upd_ne ea, upd_ne eb, upd_ne ea]
      rw [eq]
      have ex := Ext.new (o := .xd (ns.zip vs).reverse) hdx
      have g1 := g.mono e1
      refine h2 M _ σ _ (some dx) (g1.mono ex) (Sh_mono (e1.trans ex).v) ⟨hm, .inr ⟨dx, (ns.zip vs).reverse, rfl, ?_, ?_, ?_⟩⟩
      · rw [Sh_of (g1.nm hdx).1]
        exact vw_upd_same trivial
      · rw [List.map_reverse, List.map_reverse, zip_keys hn, zip_keys hvn]
      · rw [List.map_reverse, List.map_reverse, zip_vals hn, zip_vals hvn]
        exact (r1.mono (Sh_mono ex.v)).reverse
end
end VL

set_option maxRecDepth 100000
set_option maxHeartbeats 2000000
set_option autoImplicit false
namespace VL
open PySem L2
abbrev HdD := List (Str × Bool) × Option Nat × (Env → SRes)
def outI : Option Nat → SRes → SRes
  | _, .xc _ _ _ => .bad
  | none, r => r
  | some i, .nx e => .nx (e.set i .no)
  | some i, .bk e => .bk (e.set i .no)
  | some i, .ct e => .ct (e.set i .no)
  | some _, r => r
def inE (on : Option Nat) (c : Str) (fs : List (Str × D)) (env : Env) : Env := match on with
  | none => env
  | some i => env.set i (.sh (.exn c fs))
def hndS (c : Str) (fs : List (Str × D)) : List HdD → Env → SRes
  | [], e => .xc c fs e
  | (cat, on, χ) :: r, e => match cat.lookup c with
    | some true => outI on (χ (inE on c fs e))
    | some false => hndS c fs r e
    | none => .bad
def tryS (ψ : Env → SRes) (hs : List HdD) (env : Env) : SRes := match ψ env with
  | .xc c fs e => hndS c fs hs e
  | r => r
def tVB (X : Cx) (W : WX) (χ : Env → SRes) : TS := fun D σ H => ∃ (H0 : Hp) (M0 M : Addr → Bool) (env : Env), Good (gm X) H0 M0 M H σ env ∧ PostS X W H0 M0 M H D (χ env)
theorem vb_canon {X Y : Cx} {W : WX} {sts : List Stmt} {χ : Env → SRes} (h : VB X W sts χ) (e : gm X = gm Y) : PSs X sts (tVB Y W χ) := by
  obtain ⟨t, p, r⟩ := h
  refine ⟨fun pins s σ H D I ⟨H0, M0, M, env, g, k⟩ => p.run pins s σ H D I (r H0 M0 M H σ env D (by rw [e]; exact g) ?_)⟩
  cases q : χ env <;> rw [q] at k <;> first | exact k | (unfold PostS at k ⊢; rw [e]; exact k)
inductive VHds (X : Cx) : List ExceptHandler → List HdD → Prop
  | nil : VHds X [] []
  | named {x n : Str} {cv : Value} {cat : List (Str × Bool)} {i : Nat} {χ : Env → SRes} {st1 : Stmt} {sts : List Stmt} {np hp : Pos} {hds : List ExceptHandler} {l : List HdD} (hc : Names X x cv)
      (hcat : ∀ c b, cat.lookup c = some b → ∃ C, X.mg c = some C ∧ PySem.W.exmOne X.K C cv = some b) (hi : X.N[i]? = some n) (hln : X.env.kindOf n = some .local) (hs : ∀ (a : Addr) (pn : List (Addr × Obj)), VB (X.suite a pn) W0 (st1 :: sts) χ) (r : VHds X hds l) :
      VHds X (.ExceptHandler (some (.Name x np)) (some n) (st1 :: sts) hp :: hds) ((cat, some i, χ) :: l)
  | anon {x : Str} {cv : Value} {cat : List (Str × Bool)} {χ : Env → SRes} {st1 : Stmt} {sts : List Stmt} {np hp : Pos} {hds : List ExceptHandler} {l : List HdD} (hc : Names X x cv)
      (hcat : ∀ c b, cat.lookup c = some b → ∃ C, X.mg c = some C ∧ PySem.W.exmOne X.K C cv = some b) (hs : ∀ (a : Addr) (pn : List (Addr × Obj)), VB (X.suite a pn) W0 (st1 :: sts) χ) (r : VHds X hds l) :
      VHds X (.ExceptHandler (some (.Name x np)) none (st1 :: sts) hp :: hds) ((cat, none, χ) :: l)
section
variable {X : Cx} {W : WX} {H0 H : Hp} {M0 M : Addr → Bool} {D : Ends}
theorem PostS.outI {on : Option Nat} {r : SRes} (h : PostS X W H0 M0 M H D (outI on r)) : PostS X W0 H0 M0 M H (unD on D) r := by
  cases on with
  | none => cases r <;> first | exact h | exact h.elim
  | some i =>
    cases r with
    | nx e => exact fun M' H' σ' g e' => h M' H' _ (g.no i none) e'
    | bk e => exact fun M' H' σ' g e' => h M' H' _ (g.no i none) e'
    | ct e => exact fun M' H' σ' g e' => h M' H' _ (g.no i none) e'
    | xc c fs e => exact h.elim
    | rt d => exact h
    | bad => exact h
    | ro d => exact h
theorem rp_exn {mg : Gm} {a : Addr} {oe : Obj} {c : Str} {fs : List (Str × VL.D)} {cls : Value} {dd : Option Addr} (na : H a = none) (hm : M a = false) (z : Zc cls dd oe) (hv : ∃ vs, oe.data = .fields vs) (h : RpX mg (Sh M (vw H)) c fs cls dd) :
    Rp mg (Sh M (vw (hEx H a oe))) (.exn c fs) (.ref a) := by
  have at_ : Sh M (vw (hEx H a oe)) a = some (.frz oe (.own a)) := by
    rw [Sh_of hm]
    unfold vw
    rw [show hEx H a oe a = _ from upd_same]
  have le : VEx (Sh M (vw H)) (Sh M (vw (hEx H a oe))) := Sh_mono (Ext.new na).v
  obtain ⟨hc, ⟨rfl, rfl⟩ | ⟨d, vs, rfl, hd, hk, hr⟩⟩ := h
  · exact .exn0 at_ z hv hc
  · exact .exnF at_ z hv hc (le _ _ hd) hk (hr.mono le)
theorem Hds.of {hds : List ExceptHandler} {l : List HdD} (h : VHds X hds l) : ∃ l', Hds L2N.Zn X hds l' ∧ Hds Zc X hds l' ∧
    ∀ (Zp : Value → Option Addr → Obj → Prop) (hZ : ∀ c d o, Zp c d o → Zc c d o) (W : WX) (H0 : Hp) (M0 M : Addr → Bool) (H : Hp) (σ : L2.St) (env : Env) (D : Ends) (c : Str) (fs : List (Str × VL.D)) (cls : Value) (dd : Option Addr), Good (gm X) H0 M0 M H σ env → RpX (gm X) (Sh M (vw H)) c fs cls dd →
      PostS X W H0 M0 M H D (hndS c fs l env) → wHs Zp X.K W D l' cls dd σ H := by
  induction h with
  | nil => exact ⟨[], .nil, .nil, fun Zp hZ W H0 M0 M H σ env D c fs cls dd g rx h => h M H σ cls dd g (.refl _) rx⟩
  | @named x n cv cat i χ st1 sts np hp hds l hc hcat hi hln hs r ih =>
    obtain ⟨l', k1, k2, k3⟩ := ih
    refine ⟨(cv, some i, fun _ _ _ _ => tVB X W0 χ) :: l', .named hc hi hln (fun a oe cls d pn _ _ => vb_canon (Y := X) (hs a pn) rfl) k1, .named hc hi hln (fun a oe cls d pn _ _ => vb_canon (Y := X) (hs a pn) rfl) k2, fun Zp hZ W H0 M0 M H σ env D c fs cls dd g rx h => ?_⟩
    unfold hndS at h
    cases q : cat.lookup c with
    | none => rw [q] at h; exact h.elim
    | some b =>
      obtain ⟨C, e1, e2⟩ := hcat c b q
      have ec : C = cls := by
        have := rx.1.symm.trans e1
        cases this; rfl
      subst ec
      rw [q] at h
      refine ⟨b, e2, fun hb a oe na z hv => ?_, fun hb => ?_⟩
      · subst hb
        have ex := Ext.new (o := .frz oe (.own a)) na
        exact ⟨H0, M0, M, _, (g.mono ex).set (rp_exn na (g.nm na).1 (hZ _ _ _ z) hv rx), PostS.outI (PostS.mono h (Sh_mono ex.v))⟩
      · subst hb
        exact k3 Zp hZ W H0 M0 M H σ env D c fs _ dd g rx h
  | @anon x cv cat χ st1 sts np hp hds l hc hcat hs r ih =>
    obtain ⟨l', k1, k2, k3⟩ := ih
    refine ⟨(cv, none, fun _ _ _ _ => tVB X W0 χ) :: l', .anon hc (fun a oe cls d pn _ _ => vb_canon (Y := X) (hs a pn) rfl) k1, .anon hc (fun a oe cls d pn _ _ => vb_canon (Y := X) (hs a pn) rfl) k2, fun Zp hZ W H0 M0 M H σ env D c fs cls dd g rx h => ?_⟩
    unfold hndS at h
    cases q : cat.lookup c with
    | none => rw [q] at h; exact h.elim
    | some b =>
      obtain ⟨C, e1, e2⟩ := hcat c b q
      have ec : C = cls := by
        have := rx.1.symm.trans e1
        cases this; rfl
      subst ec
      rw [q] at h
      refine ⟨b, e2, fun hb a oe na z hv => ?_, fun hb => ?_⟩
      · subst hb
        have ex := Ext.new (o := .frz oe (.own a)) na
        exact ⟨H0, M0, M, _, g.mono ex, PostS.outI (PostS.mono h (Sh_mono ex.v))⟩
      · subst hb
        exact k3 Zp hZ W H0 M0 M H σ env D c fs _ dd g rx h
end
section
variable {X : Cx} {W : WX} {body : List Stmt} {h1 : ExceptHandler} {hds : List ExceptHandler} {pos : Pos} {ψ : Env → SRes} {l : List HdD}
theorem vs_tryN (tk : L2N.Takes X W) (hs : X.stack = X.env :: X.outer) (hf : X.env.frame = some X.env.locals) (hN : X.N.Nodup)
    (hb : ∀ (W : WX) (pn : List (Addr × Obj)) (xe : Value → Shared → Prop), L2N.Takes (X.tr pn xe) W → PassesOwn (model X.prog X.w) X.A X.env xe → VB (X.tr pn xe) W body ψ) (hh : VHds X (h1 :: hds) l) : VS X W (.Try body (h1 :: hds) [] [] pos) (tryS ψ l) := by
  obtain ⟨l', k1, _, k3⟩ := Hds.of hh
  refine ⟨_, ps_tryN (tb := fun W => tVB X W ψ) hs hf hN tk (fun W pn xe t p => vb_canon (Y := X) (hb W pn xe t p) rfl) k1, fun H0 M0 M H σ env D g h => ⟨H0, M0, M, env, g, ?_⟩⟩
  unfold tryS at h
  cases q : ψ env <;> rw [q] at h <;> first | exact h | skip
  case xc c fs e => exact fun M' H' σ' cls dd g' e' rx => k3 _ (fun _ _ _ z => z.zc) W H0 M0 M' H' σ' e D c fs cls dd g' rx (PostS.mono h e')
end
end VL

set_option maxRecDepth 100000
set_option maxHeartbeats 2000000
set_option autoImplicit false
namespace VL
open PySem L2
structure XCls (K : PySem.W.Frag) (mg : Str → Option Value) (x : Str) (C : Addr) : Prop where
  gC : mg x = some (.ref C)
  cl : PySem.W.isClsIn K C = true
  ga : PySem.W.findIn K (.ref C) "__getattribute__" = some (some (.builtin "BaseException.__getattribute__"))
  gg : PySem.W.findIn K (.ref C) "__getattr__" = some none
  exC : PySem.W.subIn K (.ref C) (.type "BaseException") = some true
  tyC : PySem.W.typeIn K (.ref C) = some (.type "type")
  hdC : PySem.W.hasDictIn K C = true
  ha : PySem.W.findIn K (.ref C) "__class__" = some (some (.builtin "object.__class__"))
  hm : PySem.W.mroIn K C (.type "object") = some true
structure XObj (K : PySem.W.Frag) : Prop where
  hn : PySem.W.specialIn K (.builtin "object.__class__") "__get__" = some (some (.builtin "getset_descriptor.__get__"))
  htk : PySem.W.takesIn K (.builtin "object.__class__") = some true
theorem kitOne_cls {K : PySem.W.Frag} {C D : Addr} {b : Bool} (h2 : PySem.W.isClsIn K D = true) (h3 : PySem.W.typeIn K (.ref D) = some (.type "type")) (h4 : PySem.W.subIn K (.ref C) (.ref D) = some b) (h5 : b = false → C ≠ D) : PySem.W.kitOne K (.ref C) (.ref D) = some b := by
  unfold PySem.W.kitOne
  by_cases e : C = D
  · subst e
    rw [if_pos (by simp)]
    cases b with
    | true => rfl
    | false => exact absurd rfl (h5 rfl)
  · rw [if_neg (by simp [e])]
    have e2 : ((PySem.W.clsIn K D).isSome && PySem.W.typeIn K (.ref D) == some (.type "type")) = true := by
      have h2' : (PySem.W.clsIn K D).isSome = true := h2
      rw [h2', h3]; rfl
    show (if ((PySem.W.clsIn K D).isSome && PySem.W.typeIn K (.ref D) == some (.type "type")) = true then PySem.W.subIn K (.ref C) (.ref D) else none) = some b
    rw [if_pos e2]
    exact h4
theorem exmOne_cls {K : PySem.W.Frag} {C D : Addr} {b : Bool} (h1 : PySem.W.subIn K (.ref D) (.type "BaseException") = some true) (h2 : PySem.W.isClsIn K D = true) (h3 : PySem.W.typeIn K (.ref D) = some (.type "type")) (h4 : PySem.W.subIn K (.ref C) (.ref D) = some b) : PySem.W.exmOne K (.ref C) (.ref D) = some b := by
  have e1 : (PySem.W.subIn K (.ref D) (.type "BaseException") == some true) = true := by rw [h1]; rfl
  have e2 : ((PySem.W.clsIn K D).isSome && PySem.W.typeIn K (.ref D) == some (.type "type")) = true := by
    have h2' : (PySem.W.clsIn K D).isSome = true := h2
    rw [h2', h3]; rfl
  show (if (PySem.W.subIn K (.ref D) (.type "BaseException") == some true) = true then (if ((PySem.W.clsIn K D).isSome && PySem.W.typeIn K (.ref D) == some (.type "type")) = true then PySem.W.subIn K (.ref C) (.ref D) else none) else none) = some b
  rw [if_pos e1, if_pos e2]
  exact h4
theorem exn_inst {X : Cx} {pins : List (Addr × Obj)} {σ : L2.St} {H : Hp} {s : Shared} {c : Str} {fs : List (Str × D)} {v : V} {C : Addr} (I : Inv X pins σ H s) {G : Vw} (le : VEx G (vw H)) (r : Rp (gm X) G (.exn c fs) v) (hC : X.mg c = some (.ref C)) :
    ∃ a oe od, v = .ref a ∧ PySem.W.InstAt s.heap a oe C od ∧ ∀ f d, fs.lookup f = some d → ∃ (u : Value) (x : V) (o : Obj), od = some o ∧ PySem.W.lookIn f o = some (some u) ∧ RelV x u ∧ Rp (gm X) G d x := by
  have vwE : ∀ {a : Addr} {oe : Obj}, vw H a = some (.frz oe (.own a)) → s.heap.get? a = some oe := fun {a oe} h => by
    have : H a = some (.frz oe (.own a)) := by
      unfold vw at h
      split at h <;> first | (cases h; done) | exact h
    exact (I.hok a _ this).1
  cases r with
  | exn0 h z hv hc =>
    rename_i a oe cls
    have ec : cls = .ref C := by have := hc.symm.trans hC; cases this; rfl
    subst ec
    obtain ⟨vs, hd⟩ := hv
    refine ⟨a, oe, none, rfl, ⟨vwE (le _ _ h), z.1, by unfold PySem.W.notCls; rw [hd], by rw [z.2]; trivial⟩, fun f d hf => ?_⟩
    cases hf
  | exnF h z hv hc hx hk hr =>
    rename_i a dd oe cls vs
    have ec : cls = .ref C := by have := hc.symm.trans hC; cases this; rfl
    subst ec
    obtain ⟨ws, hd⟩ := hv
    have hx' : ObjOk X.prog X.w H s.heap dd (.xd vs) := I.hok dd _ (vw_xd (le _ _ hx))
    obtain ⟨mA, hns, rel⟩ := hx'
    obtain ⟨od, ho, hl⟩ := lookIn_ns hns
    refine ⟨a, oe, some od, rfl, ⟨vwE (le _ _ h), z.1, by unfold PySem.W.notCls; rw [hd], by rw [z.2]; exact ho⟩, fun f d hf => ?_⟩
    have look : ∀ {fs : List (Str × D)} {vs : List (Str × V)}, fs.map (·.1) = vs.map (·.1) → RpL (gm X) G (fs.map (·.2)) (vs.map (·.2)) → fs.lookup f = some d → ∃ x, vs.lookup f = some x ∧ Rp (gm X) G d x := by
      intro fs
      induction fs with
      | nil => intro vs _ _ e; cases e
      | cons p fs ih =>
        intro vs e r l
        cases vs with
        | nil => cases e
        | cons q vs =>
          rw [List.map_cons, List.map_cons] at e
          obtain ⟨e1, e2⟩ := List.cons.inj e
          have r' : RpL (gm X) G (p.2 :: fs.map (·.2)) (q.2 :: vs.map (·.2)) := r
          cases r' with
          | cons ra rb =>
            obtain ⟨p1, p2⟩ := p
            obtain ⟨q1, q2⟩ := q
            have e1' : p1 = q1 := e1
            subst e1'
            by_cases c : f = p1
            · subst c
              rw [List.lookup_cons_self] at l ⊢
              cases l
              exact ⟨_, rfl, ra⟩
            · have cb : (f == p1) = false := by simpa using c
              rw [List.lookup_cons, cb] at l ⊢
              exact ih e2 rb l
    obtain ⟨x, e1, e2⟩ := look hk hr hf
    obtain ⟨u, hu, ru⟩ := RelO.some_of (v := x) (o := mA f) (by rw [← e1]; exact rel f)
    exact ⟨u, x, od, rfl, by rw [hl, hu], ru, e2⟩
def isX (tbl : List (Str × Bool)) : D → Res D
  | .exn c _ => match tbl.lookup c with
    | some b => .ok (.bl b)
    | none => .bad
  | _ => .bad
def isXE (tbl : List (Str × Bool)) (φ : Env → Res D) (env : Env) : Res D := (φ env).bind (isX tbl)
def VC (X : Cx) (e : Expr) (cv : Value) : Prop := ∃ c : V, PE X e (tC c) ∧ ClsV c cv
theorem vc_own {X : Cx} {x : Str} {C : Addr} {p : Pos} (hm : X.mg x = some (.ref C)) (hg : Gl X x := by rfl) (hd : (x == ("__debug__" : Str)) = false := by decide) : VC X (.Name x p) (.ref C) := ⟨.ref C, pe_glob hg hm rfl hd, .own C⟩
theorem vc_blt {X : Cx} {x : Str} {T : String} {p : Pos} (hm : X.mg x = none) (hv : bootBuiltins x = some (.type T)) (hg : Gl X x := by rfl) (hn : x ≠ "__name__" := by decide) (hd : (x == ("__debug__" : Str)) = false := by decide) : VC X (.Name x p) (.type T) :=
  ⟨.ty T, pe_bltn (v := .ty T) hg hm hv rfl hn hd, .ty T⟩
def VCs (X : Cx) (es : List Expr) (cvs : List Value) : Prop := ∃ (cs : List V) (t : TA), PA X es t ∧ (∀ σ H Q, Q cs H → t σ H Q) ∧ Paired ClsV cs cvs
theorem vcs_nil {X : Cx} : VCs X [] [] := ⟨[], _, pa_nil, fun _ _ _ h => h, .nil⟩
theorem vcs_cons {X : Cx} {e : Expr} {es : List Expr} {cv : Value} {cvs : List Value} (h1 : VC X e cv) (h2 : VCs X es cvs) (hs : starEach (e :: es) X.env = (false, eval e X.env) :: starEach es X.env := by rfl) : VCs X (e :: es) (cv :: cvs) := by
  obtain ⟨c, p, k⟩ := h1
  obtain ⟨cs, t, p2, q, k2⟩ := h2
  exact ⟨c :: cs, _, pa_cons p p2 hs, fun σ H Q h => q σ H _ h, .cons k k2⟩
section
variable {X : Cx} {W : WX} {fl fla : Bool} {e c : Expr} {xi pos pos2 : Pos} {φ : Env → Res D} {cv : Value} {es : List Expr} {cvs : List Value} {tbl : List (Str × Bool)} {kk : Nat}
def rIsX (X : Cx) (cv : Value) : List V → Hp → VK → Prop := fun xs H Q => ∃ (x c : V) (cn : Str) (fs : List (Str × D)) (C : Addr) (b : Bool), xs = [x, c] ∧ ClsV c cv ∧ XObj X.K ∧ XCls X.K X.mg cn C ∧ Rp (gm X) (vw H) (.exn cn fs) x ∧ PySem.W.kitOne X.K (.ref C) cv = some b ∧ Q (.bl b) H
theorem call_isX : CallR X (.builtin "isinstance") (rIsX X cv) := by
  intro pins s σ H xs us Q I r h
  obtain ⟨x, c, cn, fs, C, b, rfl, k, xo, T, rp, e, q⟩ := h
  obtain ⟨u1, u2, rfl, r1, r2⟩ := vals2 r
  have e2 := k.eq r2
  subst e2
  obtain ⟨a, oe, od, rfl, J, _⟩ := exn_inst I (.refl _) rp T.gC
  cases (show u1 = Value.ref a from r1)
  exact PySem.W.kia_one (PySem.W.kitx_exc T.cl T.ga T.gg T.exC T.ha xo.hn xo.htk T.hm) I.kIn J e (fun z => nomatch z) fun tk => ⟨.bl b, H, I.tok tk, rfl, q⟩
theorem ve_isX (xo : XObj X.K) (h : VE X W fla e φ) (hc : VC X c cv) (ht : ∀ n b, tbl.lookup n = some b → ∃ C, XCls X.K X.mg n C ∧ PySem.W.kitOne X.K (.ref C) cv = some b) (hmi : X.mg "isinstance" = none) (hgi : Gl X "isinstance" := by rfl)
    (hs : starEach (e :: [c]) X.env = (false, eval e X.env) :: starEach [c] X.env := by rfl) (hs2 : starEach (c :: []) X.env = (false, eval c X.env) :: starEach [] X.env := by rfl) (hpl : (backTo pos (starEach [c] X.env)).any (·.1) = false := by rfl) :
    VE X W fl (.Call (.Name "isinstance" xi) [e, c] [] pos) (isXE tbl φ) := by
  obtain ⟨t, pt, r⟩ := h
  obtain ⟨cc, pc, kc⟩ := hc
  refine ⟨_, pe_callB (call_isX (cv := cv)) hgi hmi (by decide +kernel) (pa_cons pt (pa_cons pc pa_nil hs2) hs) (by decide) (by decide) hs hpl, fun H0 M0 M H σ env Q g h => ?_⟩
  refine r H0 M0 M H σ env _ g (PostE.seq h fun d v H1 e1 r1 h1 => ?_)
  cases d <;> first | exact h1.elim | skip
  case exn n fs =>
    have h2 : PostE X W fl M σ H1 Q (match tbl.lookup n with | some b => .ok (.bl b) | none => .bad) := h1
    cases q : tbl.lookup n with
    | none => rw [q] at h2; exact h2.elim
    | some b =>
      rw [q] at h2
      obtain ⟨C, T, kk⟩ := ht n b q
      exact ⟨v, cc, n, fs, C, b, rfl, kc, xo, T, r1.mono (vis_le fla M _), kk, h2 _ H1 (Ext.refl _) (.bl b)⟩
def rIsXT (X : Cx) (cvs : List Value) : List V → Hp → VK → Prop := fun xs H Q => ∃ (x : V) (tp : Addr) (cs : List V) (cn : Str) (fs : List (Str × D)) (C : Addr) (b : Bool), xs = [x, .ref tp] ∧ H tp = some (.tup cs) ∧ Paired ClsV cs cvs ∧ XObj X.K ∧ XCls X.K X.mg cn C ∧ Rp (gm X) (vw H) (.exn cn fs) x ∧
  PySem.W.kitAny X.K (.ref C) cvs = some b ∧ Q (.bl b) H
theorem call_isXT : CallR X (.builtin "isinstance") (rIsXT X cvs) := by
  intro pins s σ H xs us Q I r h
  obtain ⟨x, tp, cs, cn, fs, C, b, rfl, hT, k, xo, T, rp, e, q⟩ := h
  obtain ⟨u1, u2, rfl, r1, r2⟩ := vals2 r
  cases (show u2 = Value.ref tp from r2)
  obtain ⟨a, oe, od, rfl, J, _⟩ := exn_inst I (.refl _) rp T.gC
  cases (show u1 = Value.ref a from r1)
  obtain ⟨_, its, rv, o, at_, oc, n, od2⟩ := (show ObjOk X.prog X.w H s.heap tp (.tup cs) from I.hok tp _ hT)
  have eits := ClsV.all k rv
  subst eits
  obtain ⟨c1, c2, c3, c4⟩ := o
  simp only at oc od2
  subst oc od2
  exact PySem.W.kia_tup (PySem.W.kitx_exc T.cl T.ga T.gg T.exC T.ha xo.hn xo.htk T.hm) I.kIn J at_ e (fun z => nomatch z) fun tk => ⟨.bl b, H, I.tok tk, rfl, q⟩
theorem ve_isXT (xo : XObj X.K) (h : VE X W fla e φ) (hc : VCs X es cvs) (ht : ∀ n b, tbl.lookup n = some b → ∃ C, XCls X.K X.mg n C ∧ PySem.W.kitAny X.K (.ref C) cvs = some b) (hl : cvs.length ≤ 100) (hmi : X.mg "isinstance" = none) (hgi : Gl X "isinstance" := by rfl)
    (hs : starEach (e :: [.Tuple es kk pos2]) X.env = (false, eval e X.env) :: starEach [.Tuple es kk pos2] X.env := by rfl) (hs2 : starEach (.Tuple es kk pos2 :: []) X.env = (false, eval (.Tuple es kk pos2) X.env) :: starEach [] X.env := by rfl)
    (hpl : (backTo pos (starEach [.Tuple es kk pos2] X.env)).any (·.1) = false := by rfl) : VE X W fl (.Call (.Name "isinstance" xi) [e, .Tuple es kk pos2] [] pos) (isXE tbl φ) := by
  obtain ⟨t, pt, r⟩ := h
  obtain ⟨cs, tc, pc, qc, kc⟩ := hc
  refine ⟨_, pe_callB (call_isXT (cvs := cvs)) hgi hmi (by decide +kernel) (pa_cons pt (pa_cons (pe_tup pc) pa_nil hs2) hs) (by decide) (by decide) hs hpl, fun H0 M0 M H σ env Q g h => ?_⟩
  refine r H0 M0 M H σ env _ g (PostE.seq h fun d v H1 e1 r1 h1 => ?_)
  cases d <;> first | exact h1.elim | skip
  case exn n fs =>
    have h2 : PostE X W fl M σ H1 Q (match tbl.lookup n with | some b => .ok (.bl b) | none => .bad) := h1
    cases q : tbl.lookup n with
    | none => rw [q] at h2; exact h2.elim
    | some b =>
      rw [q] at h2
      obtain ⟨C, T, kk⟩ := ht n b q
      refine qc _ _ _ ⟨by rw [Paired.length kc]; exact Nat.le_trans hl (by decide), fun tp htp => ?_⟩
      exact ⟨v, tp, cs, n, fs, C, b, rfl, upd_same, kc, xo, T, (r1.mono (vis_le fla M _)).mono (Ext.new htp).v, kk, h2 _ _ (Ext.new htp) (.bl b)⟩
def fldX (cs : List Str) (f : Str) : D → Res D
  | .exn c fs => if cs.contains c = true then (match fs.lookup f with | some v => .ok v | none => .bad) else .bad
  | _ => .bad
def fldXE (cs : List Str) (f : Str) (φ : Env → Res D) (env : Env) : Res D := (φ env).bind (fldX cs f)
def tXF (X : Cx) (f : Str) (te : TE) : TE := fun σ H Q => te σ H fun x H1 => ∃ (G : Vw) (cn : Str) (fs : List (Str × D)) (C : Addr) (d : D), XCls X.K X.mg cn C ∧ PySem.W.findIn X.K (.ref C) f = some none ∧ VEx G (vw H1) ∧ Rp (gm X) G (.exn cn fs) x ∧ fs.lookup f = some d ∧ ∀ y, Rp (gm X) G d y → Q y H1
theorem pe_xF {te : TE} {f : Str} (he : PE X e te) (hb : attributeBase e f X.env (eval e X.env) = eval e X.env := by rfl) : PE X (.Attribute e f pos) (tXF X f te) := by
  refine ⟨fun pins s σ H Q I h => ?_⟩
  refine attr_of hb (thn (he.run pins s σ H _ I h) fun u s1 hh => ?_)
  obtain ⟨x, H1, I1, rx, G, cn, fs, C, d, T, no, le, rp, hl, q⟩ := hh
  obtain ⟨a, oe, od, rfl, J, look⟩ := exn_inst I1 le rp T.gC
  cases (show u = Value.ref a from rx)
  obtain ⟨uv, y, o, rfl, lk, ry, rd⟩ := look f d hl
  exact HandSPX.exc_get I1.kIn J T.ga T.gg T.exC (PySem.W.findObj_own T.hdC no rfl lk) (handed_of ry) ⟨y, H1, I1.tok _, ry, q y rd⟩
theorem ve_xF {cs : List Str} {f : Str} (h : VE X W fl e φ) (ht : ∀ n, cs.contains n = true → ∃ C, XCls X.K X.mg n C ∧ PySem.W.findIn X.K (.ref C) f = some none) (hb : attributeBase e f X.env (eval e X.env) = eval e X.env := by rfl) : VE X W fl (.Attribute e f pos) (fldXE cs f φ) := by
  obtain ⟨t, pt, r⟩ := h
  refine ⟨_, pe_xF pt hb, fun H0 M0 M H σ env Q g h => ?_⟩
  refine r H0 M0 M H σ env _ g (PostE.seq h fun d v H1 e1 r1 h1 => ?_)
  cases d <;> first | exact h1.elim | skip
  case exn n fs =>
    obtain ⟨hc, h2⟩ := PostE.ite (c := cs.contains n = true) (r := match fs.lookup f with | some v => .ok v | none => .bad) h1
    cases q : fs.lookup f with
    | none => rw [q] at h2; exact h2.elim
    | some d =>
      rw [q] at h2
      obtain ⟨C, T, no⟩ := ht n hc
      exact ⟨_, n, fs, C, d, T, no, vis_le fl M _, r1, q, fun y ry => h2 y H1 (Ext.refl _) ry⟩
end
structure FnC (P : Program) (w : World) (K : PySem.W.Frag) (mg : Str → Option Value) (base : Heap) (CX : CXT) (k : Nat) (f : Addr) (fd : FuncData) (ps : List Str) (sp : Sp) : Prop where
  len : ∀ vs H Q E, sp vs H Q E → vs.length = ps.length
  run : ∀ (A : Around) (outer : List PySem.Env) (s : Shared) (H : Hp) (args : Args) (us : List Value) (vs : List V) (Q : VK) (E : XK), L2H.RoomH k A → Env0 P w K mg base A outer s H → BindsTo s fd args (ps.zip us) → Vals vs us → sp vs H Q E →
    codeAny (model P w) A (.call (.ref f) args) (CR CX outer P w H s Q E) s
abbrev cxC (CX : CXT) (P : Program) (w : World) (K : PySem.W.Frag) (mg : Str → Option Value) (base : Heap) (N : List Str) (qual : Str) (scope : Scope) (f : Addr) (cd : Value) (A : Around) (outer : List PySem.Env) (s : Shared) (H : Hp) (E : XK) (p : Addr × Obj) : Cx :=
  L2H.cxH CX P w K mg base N qual scope f cd A outer s H E p
section
variable {P : Program} {w : World} {K : PySem.W.Frag} {mg : Str → Option Value} {base : Heap} {CX : CXT} {x qual : Str} {st : Stmt} {f : Addr} {fd : FuncData} {N ps : List Str} {k n : Nat} {sp : Sp}
theorem FnC.ok (F : FnC P w K mg base CX k f fd ps sp) : FnOk P w K mg base CX k f fd ps sp := ⟨F.len, fun A outer s H args us vs Q E hr => F.run A outer s H args us vs Q E (L2H.roomH_of hr)⟩
theorem fun_okC (F : Fun K x qual st f fd) (S : FnScope N ps (defScope st)) (len : ∀ vs H Q E, sp vs H Q E → vs.length = ps.length)
    (hbody : ∀ (cdv : Value) (A : Around) (outer : List PySem.Env) (s : Shared) (H : Hp) (vs : List V) (Q : VK) (E : XK) (p : Addr × Obj), L2H.RoomH k (A.deeper (PyProof.Rows.envOfC qual (defScope st) s.heap.objs.size f cdv)) → sp vs H Q E →
      ∃ t, PSs (cxC CX P w K mg base N qual (defScope st) f cdv A outer s H E p) (defBody st) t ∧ t { nx := fun _ H' => Q .non H', rt := Q } (L2.start N vs) H) : FnC P w K mg base CX (k + 1) f fd ps sp := by
  obtain ⟨oc, od, kV, doc, pm, an, cdv, ct, osl, rfl, lk, hcd⟩ := F.ex
  refine ⟨len, fun A outer s H args us vs Q E hr e0 hb r hsp => ?_⟩
  have there : K.In s.heap := e0.mod.kin.keeps fun b o e => (e0.bs b o e).1
  have lim : s.heap.NoLimit := e0.mod.nolimit.keeps fun b o e => (e0.bs b o e).1
  obtain ⟨mc, ⟨o, es, ep, ho, hd, _⟩, _⟩ := id e0.mod.nolimit
  obtain ⟨at_, free⟩ := e0.bs _ _ ho
  have pin : L2H.PinOk outer H s (cStatics, o) := ⟨at_, free, (fun hm => by
    have := (e0.funs.mem hm).1
    rw [ho] at this; cases this), (fun v z => by
    have z' : o.data = .cell v := z
    rw [hd] at z'; cases z')⟩
  refine codeAny_call_function hr.depth (there _ _ lk) rfl S.co S.gen rfl (PySem.W.codeRec_of there hcd) (hb _ _ _ _ ?_)
  refine PySem.wpAny_newFunctionEnv_cells S.kind (fun ⟨n, v⟩ hy => ?_) fun env he s1 inC => ?_
  · rcases S.par n (List.of_mem_zip hy).1 with q | q
    · exact .inl q
    · exact .inr ⟨q, PySem.W.cellsFrom_some _ _ _ (.inl q)⟩
  subst he
  refine ⟨lim.keeps inC.toInCall.keep, codeAny_func ?_⟩
  obtain ⟨t, ht, hq⟩ := hbody cdv A outer s H vs Q E (cStatics, o) (hr.deeper _) hsp
  have I := L2H.inv_startH (CX := CX) (E := E) S pin e0 (len _ _ _ _ hsp) r inC
  refine wpAny_mono (ht.run [] s1 _ H _ I hq) (fun fl s2 out => ?_) fun _ _ z => z
  match fl, out with
  | .ret u, ⟨v, σ2, H2, J, rv, q⟩ => exact ⟨v, H2, J.os, J.bare, J.base, J.hok, rv, q⟩
  | .next, ⟨σ2, H2, J, q⟩ => exact ⟨.non, H2, J.os, J.bare, J.base, J.hok, rfl, q⟩
  | .brk, ⟨_, _, _, q⟩ => exact False.elim q
  | .cont, ⟨_, _, _, q⟩ => exact False.elim q
theorem fn_vC {ψ : Env → SRes} (F : Fun K x qual st f fd) (S : FnScope N ps (defScope st)) (hn : ps.length = n)
    (body : ∀ (cdv : Value) (A : Around) (outer : List PySem.Env) (s : Shared) (H : Hp) (E : XK) (p : Addr × Obj), L2H.RoomH k (A.deeper (PyProof.Rows.envOfC qual (defScope st) s.heap.objs.size f cdv)) →
      L2N.Takes (cxC (L2N.CX P w) P w K mg base N qual (defScope st) f cdv A outer s H E p) (WB E) → VB (cxC (L2N.CX P w) P w K mg base N qual (defScope st) f cdv A outer s H E p) (WB E) (defBody st) ψ) :
    FnC P w K mg base (L2N.CX P w) (k + 1) f fd ps (spV ⟨P, w, K, mg⟩ n (defM N.length ψ)) := by
  refine fun_okC F S (fun vs H Q E h => h.1.trans hn.symm) fun cdv A outer s H vs Q E p hr h => ?_
  obtain ⟨hl, M, ds, m, r, post⟩ := h
  obtain ⟨t, pp, rr⟩ := body cdv A outer s H E p hr (L2N.takes_of rfl rfl rfl rfl)
  refine ⟨t, pp, rr H M M H _ (env0 N.length ds) _ (good0 m r) ?_⟩
  unfold defM at post
  cases q : ψ (env0 N.length ds) with
  | rt d => rw [q] at post; exact fun v H' e r' => post v H' e r'
  | nx env => rw [q] at post; exact fun M' H' σ' g e => post .non H' g.ex .non
  | bk env => rw [q] at post; exact post.elim
  | ct env => rw [q] at post; exact post.elim
  | xc c fs env =>
    rw [q] at post
    exact fun M' H' σ' cls dd g e r' => post cls dd H' g.ex (r'.mono (Good.rt (X := cxC (L2N.CX P w) P w K mg base N qual (defScope st) f cdv A outer s H E p) g))
  | bad => rw [q] at post; exact post
  | ro d => rw [q] at post; exact post.elim
end
structure DefOkC (P : Program) (w : World) (K : PySem.W.Frag) (mg : Str → Option Value) (base : Heap) (x : Str) (k : Nat) (ps : List Str) (n : Nat) (F : List D → Res D) : Prop where
  ex : ∃ (f : Addr) (fd : FuncData), mg x = some (.ref f) ∧ PySem.W.keepIn K (.ref f) = true ∧ Binds K fd ps [] ∧ FnC P w K mg base (L2N.CX P w) k f fd ps (spV ⟨P, w, K, mg⟩ n F)
  lk : ∀ f fd, mg x = some (.ref f) → (∃ oc od osl, K.lookup f = some ⟨oc, od, .func fd, osl⟩) → FnC P w K mg base (L2N.CX P w) k f fd ps (spV ⟨P, w, K, mg⟩ n F)
section
variable {P : Program} {w : World} {K : PySem.W.Frag} {mg : Str → Option Value} {base : Heap} {x qual : Str} {st : Stmt} {N ps : List Str} {k n : Nat} {ψ : Env → SRes} {F G : List D → Res D}
theorem DefOkC.ok (h : DefOkC P w K mg base x k ps n F) : DefOk P w K mg base x k ps n F := by
  obtain ⟨f, fd, h1, h2, h3, h4⟩ := h.ex
  exact ⟨⟨f, fd, h1, h2, h3, h4.ok⟩, fun f fd e1 e2 => (h.lk f fd e1 e2).ok⟩
theorem def_vC (N : List Str) (ψ : Env → SRes) (R : Raw K mg x st ps) (S : FnScope N ps (defScope st)) (hn : ps.length = n) (hF : F = defM N.length ψ)
    (body : ∀ (f : Addr) (cdv : Value) (A : Around) (outer : List PySem.Env) (s : Shared) (H : Hp) (E : XK) (p : Addr × Obj), L2H.RoomH k (A.deeper (PyProof.Rows.envOfC x (defScope st) s.heap.objs.size f cdv)) →
      L2N.Takes (cxC (L2N.CX P w) P w K mg base N x (defScope st) f cdv A outer s H E p) (WB E) → VB (cxC (L2N.CX P w) P w K mg base N x (defScope st) f cdv A outer s H E p) (WB E) (defBody st) ψ) :
    DefOkC P w K mg base x (k + 1) ps n F := by
  subst hF
  obtain ⟨f, fd, h1, h2, h3⟩ := R.ex
  refine ⟨⟨f, fd, h1, h2.kp, h3, fn_vC h2 S hn (body f)⟩, fun f' fd' e h => ?_⟩
  rw [h1] at e
  cases e
  obtain ⟨_, _, _, h⟩ := h
  obtain ⟨_, _, _, _, _, _, _, _, _, _, h', _⟩ := h2.ex
  rw [h'] at h
  cases h
  exact fn_vC h2 S hn (body f)
variable {X : Cx} {W : WX} {fl : Bool} {e : Expr} {es : List Expr} {pos p : Pos} {φs : Env → Res (List D)}
theorem pe_callC {CX : CXT} {f : Addr} {fd : FuncData} {sp : Sp} {E : L2.St → XK} {t : TA} (hF : FnC X.prog X.w X.K X.mg X.base CX k f fd ps sp) (hr : L2H.RoomH k X.A) (hg : Gl X x) (hm : X.mg x = some (.ref f)) (hk : PySem.W.keepIn X.K (.ref f) = true) (hb : Binds X.K fd ps []) (hx : ∀ σ, PassesAt CX X σ (E σ))
    (ha : PA X (e :: es) t) (hdb : (x == ("__debug__" : Str)) = false := by decide) (he : starEach (e :: es) X.env = (false, eval e X.env) :: starEach es X.env := by rfl) (hpl : (backTo pos (starEach es X.env)).any (·.1) = false := by rfl) : PE X (.Call (.Name x p) (e :: es) [] pos) (tCallS sp E t) := by
  refine ⟨fun pins s σ H Q I h => wpAny_Call_Name_kw (ld_glob I hg hm (PySem.W.callWith_K (h₀ := X.base) I.ok.mod.kin hk (thn (ha.run pos pins s σ H _ I h) fun us s1 ⟨vs, H1, I1, r, q⟩ => ⟨I1.kIn, ?_⟩) he hpl) hdb)⟩
  have hl : (us.length) = ps.length := by rw [← r.length]; exact hF.len _ _ _ _ q
  have b := hb s1 us I1.kIn (by rw [List.append_nil]; exact hl)
  rw [List.append_nil] at b
  refine wpAny_call (codeAny_mono (hF.run X.A X.stack s1 H1 ⟨us, []⟩ us vs Q (E σ) hr I1.env0 b r q) fun r2 s2 out => ?_)
  match r2, out with
  | .error er, out => exact hx σ pins H1 s1 er s2 I1 out
  | .ok (.ret u), out => exact I1.after out
  | .ok .next, out => exact False.elim out
  | .ok .brk, out => exact False.elim out
  | .ok .cont, out => exact False.elim out
theorem ve_defC (h : DefOkC X.prog X.w X.K X.mg X.base x k ps n F) (tk : L2N.Takes X W) (hr : L2H.RoomH k X.A) (ha : VA X W true (e :: es) φs) (hn : (e :: es).length = n) (hl : ∀ env ds, φs env = .ok ds → ds.length = n) (hg : Gl X x := by rfl) (hdb : (x == ("__debug__" : Str)) = false := by decide)
    (he : starEach (e :: es) X.env = (false, eval e X.env) :: starEach es X.env := by rfl) (hpl : (backTo pos (starEach es X.env)).any (·.1) = false := by rfl) : VE X W fl (.Call (.Name x p) (e :: es) [] pos) (aE F φs) := by
  obtain ⟨f, fd, hm, hk, hb, hF⟩ := h.ex
  obtain ⟨t, pt, r⟩ := ha
  refine ⟨_, pe_callC hF hr hg hm hk hb (fun σ => L2N.passAt tk σ) pt hdb he hpl, fun H0 M0 M H σ env Q g h => ?_⟩
  have h0 : PostE X W fl M σ H Q ((φs env).bind F) := h
  refine r H0 M0 M H σ env _ g ?_
  cases q : φs env with
  | ok ds =>
    rw [q] at h0
    intro vs H1 e1 r1
    refine ⟨(r1.length.symm).trans (hl env ds q), M, ds, g.ok.mono e1, r1, ?_⟩
    have h1 : PostE X W fl M σ H1 Q (F ds) := PostE.mono h0 e1
    cases z : F ds with
    | ok d => rw [z] at h1; exact fun v H2 e2 r2 => h1 v H2 e2 (r2.mono (Sh_vis fl M _))
    | exc c fs => rw [z] at h1; exact fun cls dd H2 e2 r2 => h1 cls dd H2 e2 r2
    | bad => rw [z] at h1; exact h1
  | exc c fs => rw [q] at h0; exact h0
  | bad => rw [q] at h0; exact h0
end
end VL

set_option maxRecDepth 100000
set_option maxHeartbeats 2000000
set_option autoImplicit false
namespace VL
open PySem L2
theorem rh1 {k : Nat} {A : Around} (r : L2H.RoomH k A) : A.units + 1 < cLine := by have := r.un; omega
theorem rhu {k : Nat} {A : Around} (r : L2H.RoomH k A) : A.units + 64 < cLine := by have := r.un; omega
theorem rhm {k : Nat} {A : Around} (r : Room k A) (h : Option Value) : L2H.RoomH k (A.mark h) := L2H.roomH_mark r h
theorem cat_nil {p : Str → Bool → Prop} : ∀ c b, ([] : List (Str × Bool)).lookup c = some b → p c b := fun _ _ h => by cases h
theorem cat_cons {p : Str → Bool → Prop} {x : Str} {v : Bool} {l : List (Str × Bool)} (h : p x v) (t : ∀ c b, l.lookup c = some b → p c b) : ∀ c b, ((x, v) :: l).lookup c = some b → p c b := fun c b e => by
  by_cases q : c = x
  · subst q
    rw [List.lookup_cons_self] at e
    cases e
    exact h
  · have cb : (c == x) = false := by simpa using q
    rw [List.lookup_cons, cb] at e
    exact t c b e
theorem has_nil {p : Str → Prop} : ∀ c, ([] : List Str).contains c = true → p c := fun _ h => by simp at h
theorem has_cons {p : Str → Prop} {x : Str} {l : List Str} (h : p x) (t : ∀ c, l.contains c = true → p c) : ∀ c, (x :: l).contains c = true → p c := fun c e => by
  by_cases q : c = x
  · subst q; exact h
  · refine t c ?_
    have cb : (c == x) = false := by simpa using q
    rw [List.contains_cons, cb, Bool.false_or] at e
    exact e
structure ExZ (K : PySem.W.Frag) (mg : Str → Option Value) (x : Str) : Prop where
  ex : ∃ C, mg x = some (.ref C) ∧ PySem.W.excIn K C [.type "ValueError", .type "Exception", .type "BaseException", .type "object"] "ValueError.__new__" = true ∧ PySem.W.keepIn K (.ref C) = true ∧ PySem.W.subIn K (.ref C) (.type "BaseException") = some true ∧ PySem.W.typeIn K (.ref C) = some (.type "type")
theorem vs_raiseZ {X : Cx} {W : WX} {x m : Str} {j : Nat} {p p2 pos pos2 : Pos} (hc : X.calm = true) (tk : L2N.Takes X W) (h : ExZ X.K X.mg x) (hg : Gl X x := by rfl) (hdb : (x == ("__debug__" : Str)) = false := by decide) :
    VS X W (.Raise (some (.Call (.Name x p) [.Constant (.str m) j p2] [] pos)) none pos2) (raise0S x) := by
  obtain ⟨C, h1, h2, h3, h4, h5⟩ := h.ex
  exact vs_raise0 hc tk F.excBase_ValueError h2 h1 h3 h4 h5 hg hdb
theorem oexC_of {K : PySem.W.Frag} {C N : Addr} {nm q : Str} {bs bm : List Value} {sn : List Str} {sub : List Value} {ab : Bool} {col : Option Bool} {dd : Option Addr} {m0 m1 m2 m3 m5 : Option Value}
    (xL : K.lookup C = some (excClassObj nm q C N bs bm true sn sub ab col dd m0 m1 m2 m3 m5 "ValueError.__new__")) (rv : PySem.HandSPX.refsVE bm = true) (sa : PySem.W.findIn K (.ref C) "__setattr__" = some (some (.builtin "object.__setattr__")))
    (eC : PySem.W.subIn K (.ref C) (.type "BaseException") = some true) (tC : PySem.W.typeIn K (.ref C) = some (.type "type")) (kC : PySem.W.keepIn K (.ref C) = true) : OexC K C :=
  ⟨⟨nm, q, N, bs, bm, sn, sub, ab, col, dd, m0, m1, m2, m3, m5, xL, rv⟩, sa, eC, tC, kC⟩
structure RCls (K : PySem.W.Frag) (D : Addr) : Prop where
  cl : PySem.W.isClsIn K D = true
  ty : PySem.W.typeIn K (.ref D) = some (.type "type")
  ex : PySem.W.subIn K (.ref D) (.type "BaseException") = some true
  self : PySem.W.subIn K (.ref D) (.ref D) = some true
theorem RCls.exm {K : PySem.W.Frag} {C D : Addr} {b : Bool} (h : RCls K D) (s : PySem.W.subIn K (.ref C) (.ref D) = some b) : PySem.W.exmOne K (.ref C) (.ref D) = some b := exmOne_cls h.ex h.cl h.ty s
theorem RCls.kit {K : PySem.W.Frag} {C D : Addr} {b : Bool} (h : RCls K D) (s : PySem.W.subIn K (.ref C) (.ref D) = some b) : PySem.W.kitOne K (.ref C) (.ref D) = some b :=
  kitOne_cls h.cl h.ty s fun e z => by
    subst z
    rw [h.self, e] at s
    cases s
theorem kit_type {K : PySem.W.Frag} {C : Addr} {T : String} {b : Bool} (m : PySem.W.kitMeta T = true) (s : PySem.W.subIn K (.ref C) (.type T) = some b) : PySem.W.kitOne K (.ref C) (.type T) = some b := by
  unfold PySem.W.kitOne
  rw [if_neg (by simp)]
  show (if PySem.W.kitMeta T = true then PySem.W.subIn K (.ref C) (.type T) else none) = some b
  rw [if_pos m]
  exact s
theorem kits_no {K : PySem.W.Frag} {t c : Value} {cs : List Value} {r : Bool} (h : PySem.W.kitOne K t c = some false) (hr : PySem.W.kitAny K t cs = some r) : PySem.W.kitAny K t (c :: cs) = some r := kitAny_cons h (fun _ => hr) (fun z => by cases z)
theorem kits_yes {K : PySem.W.Frag} {t c : Value} {cs : List Value} (h : PySem.W.kitOne K t c = some true) : PySem.W.kitAny K t (c :: cs) = some true := kitAny_cons h (fun z => by cases z) (fun _ => rfl)
end VL

set_option maxRecDepth 100000
set_option maxHeartbeats 2000000
set_option autoImplicit false
namespace VL
open PySem L2
section
variable {φ : Env → Res D} {φs : Env → Res (List D)} {env : Env} {ψ : Env → SRes} {hs : List HdD} {c : Str} {fs : List (Str × D)} {ds : List D} {ns : List Str} {tbl : List (Str × Bool)} {f : Str} {cs : List Str} {P : Post} {i : Nat} {χ : Env → SRes} {cat : List (Str × Bool)}
def rRaise (c : Str) (ns : List Str) (r : Res (List D)) (env : Env) : SRes := ofA r env fun ds => if ds.length = ns.length then .xc c (ns.zip ds).reverse env else .bad
theorem raiseS_eq : raiseS c ns φs env = rRaise c ns (φs env) env := rfl
theorem rRaise_ok : rRaise c ns (.ok ds) env = if ds.length = ns.length then .xc c (ns.zip ds).reverse env else .bad := rfl
theorem raise0S_eq : raise0S c env = .xc c [] env := rfl
theorem isXE_eq : isXE tbl φ env = r1 (isX tbl) (φ env) := rfl
theorem fldXE_eq : fldXE cs f φ env = r1 (fldX cs f) (φ env) := rfl
theorem isX_exn : isX tbl (.exn c fs) = match tbl.lookup c with | some b => .ok (.bl b) | none => .bad := rfl
theorem fldX_exn : fldX cs f (.exn c fs) = if cs.contains c = true then (match fs.lookup f with | some v => .ok v | none => .bad) else .bad := rfl
theorem int_bl {b : Bool} : intF [.bl b] = .ok (.int (if b = true then 1 else 0)) := rfl
theorem outI_nx : outI (some i) (.nx env) = .nx (env.set i .no) := rfl
theorem outI_rt {d : D} : outI (some i) (.rt d) = .rt d := rfl
theorem outI_nx0 : outI none (.nx env) = .nx env := rfl
theorem outI_rt0 {d : D} : outI none (.rt d) = .rt d := rfl
theorem inE_s : inE (some i) c fs env = env.set i (.sh (.exn c fs)) := rfl
theorem inE_0 : inE none c fs env = env := rfl
theorem rSet_xc : rSet i (.exc c fs) env = .xc c fs env := rfl
theorem rDrop_xc : rDrop (.exc c fs) env = .xc c fs env := rfl
theorem rRet_xc : rRet (.exc c fs) env = .xc c fs env := rfl
theorem r1_xc {α β : Type} {g : α → Res β} : r1 g (.exc c fs) = .exc c fs := rfl
theorem rC_xc {b : Res (List D)} : rC (.exc c fs) b = .exc c fs := rfl
theorem r2_xc {g : D → D → Res D} {b : Res D} : r2 g (.exc c fs) b = .exc c fs := rfl
theorem rIf_xc {ψ χ : Env → SRes} : rIf (.exc c fs) ψ χ env = .xc c fs env := rfl
theorem lst_k {ds : List D} (h : ds.length ≤ 1000000) : lstD ds = .ok (.lst ds) := if_pos (Nat.le_trans h (by decide))
theorem tup_k {ds : List D} (h : ds.length ≤ 1000000) : tupD ds = .ok (.tup ds) := if_pos (Nat.le_trans h (by decide))
theorem catl_k {xs ys : List D} (h : xs.length + ys.length ≤ 1000000) : addD (.lst xs) (.lst ys) = .ok (.lst (xs ++ ys)) := if_pos (Nat.le_trans h (by decide))
end
end VL

set_option maxRecDepth 100000
set_option maxHeartbeats 2000000
set_option autoImplicit false
namespace VL
open PySem L2
def entKV (e : DictEntry) : Option (Str × Int) := match e.key, e.val with
  | .str x _, .int i _ => some (x, i)
  | _, _ => none
structure WDic (K : PySem.W.Frag) (P : Params) (mg : Str → Option Value) (x : Str) (l : List (Str × Int)) : Prop where
  ex : ∃ a es n, mg x = some (.ref a) ∧ K.lookup a = some ⟨.type "dict", none, .dict es n, #[]⟩ ∧ PySem.W.KeysLit P es.toList ∧ (a == sysModules) = false ∧ es.toList.map entKV = l.map some
def inW (l : List (Str × Int)) (neg : Bool) : D → Res D
  | .str s => .ok (.bl ((l.lookup s).isSome != neg))
  | _ => .bad
def inWE (l : List (Str × Int)) (neg : Bool) (φ : Env → Res D) (env : Env) : Res D := (φ env).bind (inW l neg)
def ixW (l : List (Str × Int)) : D → Res D
  | .str s => match l.lookup s with
    | some i => .ok (.int i)
    | none => .bad
  | _ => .bad
def ixWE (l : List (Str × Int)) (φ : Env → Res D) (env : Env) : Res D := (φ env).bind (ixW l)
section
variable {X : Cx} {W : WX} {fl fla : Bool} {e : Expr} {x : Str} {l : List (Str × Int)} {p pos : Pos} {φ : Env → Res D}
end
abbrev CaD := Option (List Str) × (Env → SRes)
inductive VCas (X : Cx) (W : WX) : List MatchCase → List CaD → Prop
  | nil : VCas X W [] []
  | one {x : Str} {j : Nat} {q1 q2 : Pos} {sts : List Stmt} {χ : Env → SRes} {cs : List MatchCase} {l : List CaD} (hb : VB X W sts χ) (r : VCas X W cs l) : VCas X W (⟨.MatchValue (.Constant (.str x) j q1) q2, none, sts⟩ :: cs) ((some [x], χ) :: l)
  | two {x y : Str} {j j2 : Nat} {q1 q2 q3 q4 q5 : Pos} {sts : List Stmt} {χ : Env → SRes} {cs : List MatchCase} {l : List CaD} (hb : VB X W sts χ) (r : VCas X W cs l) :
      VCas X W (⟨.MatchOr [.MatchValue (.Constant (.str x) j q1) q2, .MatchValue (.Constant (.str y) j2 q3) q4] q5, none, sts⟩ :: cs) ((some [x, y], χ) :: l)
  | any {q1 : Pos} {sts : List Stmt} {χ : Env → SRes} {cs : List MatchCase} {l : List CaD} (hb : VB X W sts χ) : VCas X W (⟨.MatchAs none none q1, none, sts⟩ :: cs) ((none, χ) :: l)
section
variable {X : Cx} {W : WX} {fl : Bool} {e : Expr} {pos : Pos} {φ : Env → Res D} {cs : List MatchCase} {l : List CaD}
end
end VL

set_option maxRecDepth 100000
set_option maxHeartbeats 2000000
set_option autoImplicit false
namespace VL
open PySem L2
def treeB : Nat → D → Bool
  | 0, _ => false
  | _ + 1, .non => true
  | _ + 1, .int _ => true
  | _ + 1, .str s => okS s
  | n + 1, .tup ds => ds.all (treeB n)
  | n + 1, .lst ds => ds.all (treeB n)
  | _ + 1, _ => false
theorem tree_facts : ∀ (n : Nat) (d : D), treeB n d = true → plain d = true ∧ (toPy d).canLay0 = true ∧ (toPy d).depth ≤ n
  | 0, _, h => by cases h
  | n + 1, .non, _ => ⟨rfl, by simp [toPy, PyData.canLay0], by simp [toPy, PyData.depth]⟩
  | n + 1, .int _, _ => ⟨rfl, by simp [toPy, PyData.canLay0], by simp [toPy, PyData.depth]⟩
  | n + 1, .str s, h => ⟨rfl, by unfold toPy PyData.canLay0; exact h, by simp [toPy, PyData.depth]⟩
  | n + 1, .tup ds, h => by
    have key : ∀ ds : List D, ds.all (treeB n) = true → plains ds = true ∧ PyData.canLayAll0 (toPys ds) = true ∧ PyData.depthAll (toPys ds) ≤ n := by
      intro ds
      induction ds with
      | nil => exact fun _ => ⟨rfl, by simp [toPys, PyData.canLayAll0], by simp [toPys, PyData.depthAll]⟩
      | cons d ds ih =>
        intro h
        rw [List.all_cons] at h
        obtain ⟨h1, h2⟩ := Bool.and_eq_true_iff.mp h
        obtain ⟨a1, a2, a3⟩ := tree_facts n d h1
        obtain ⟨b1, b2, b3⟩ := ih h2
        refine ⟨by rw [plains, a1, b1]; rfl, by rw [toPys, PyData.canLayAll0, a2, b2]; rfl, ?_⟩
        rw [toPys, PyData.depthAll]
        omega
    obtain ⟨k1, k2, k3⟩ := key ds h
    refine ⟨by rw [plain]; exact k1, by rw [toPy, PyData.canLay0]; exact k2, ?_⟩
    rw [toPy, PyData.depth]
    omega
  | n + 1, .lst ds, h => by
    have key : ∀ ds : List D, ds.all (treeB n) = true → plains ds = true ∧ PyData.canLayAll0 (toPys ds) = true ∧ PyData.depthAll (toPys ds) ≤ n := by
      intro ds
      induction ds with
      | nil => exact fun _ => ⟨rfl, by simp [toPys, PyData.canLayAll0], by simp [toPys, PyData.depthAll]⟩
      | cons d ds ih =>
        intro h
        rw [List.all_cons] at h
        obtain ⟨h1, h2⟩ := Bool.and_eq_true_iff.mp h
        obtain ⟨a1, a2, a3⟩ := tree_facts n d h1
        obtain ⟨b1, b2, b3⟩ := ih h2
        refine ⟨by rw [plains, a1, b1]; rfl, by rw [toPys, PyData.canLayAll0, a2, b2]; rfl, ?_⟩
        rw [toPys, PyData.depthAll]
        omega
    obtain ⟨k1, k2, k3⟩ := key ds h
    refine ⟨by rw [plain]; exact k1, by rw [toPy, PyData.canLay0]; exact k2, ?_⟩
    rw [toPy, PyData.depth]
    omega
  | n + 1, .bl _, h => by cases h
  | n + 1, .scr _, h => by cases h
  | n + 1, .dic _ _, h => by cases h
  | n + 1, .ins _ _, h => by cases h
  | n + 1, .exn _ _, h => by cases h
  | n + 1, .sel _ _ _, h => by cases h
theorem tree_cmp {n : Nat} {d : D} (h : treeB n d = true) (hn : n ≤ 60) : cmpOk d = true := by
  obtain ⟨a, b, c⟩ := tree_facts n d h
  unfold cmpOk
  rw [a, Bool.true_and]
  exact shaped_flat b (by omega)
theorem tree_eqv : ∀ (n : Nat) (d e : D), treeB n d = true → treeB n e = true → (PyData.eqv (toPy d) (toPy e) = true ↔ d = e) := by
  intro n
  induction n with
  | zero => intro d e h; cases h
  | succ n ih =>
    have all : ∀ ds es : List D, ds.all (treeB n) = true → es.all (treeB n) = true → (PyData.eqvAll (toPys ds) (toPys es) = true ↔ ds = es) := by
      intro ds
      induction ds with
      | nil =>
        intro es _ _
        cases es with
        | nil => simp [toPys, PyData.eqvAll]
        | cons _ _ => simp [toPys, PyData.eqvAll]
      | cons d ds ih2 =>
        intro es h1 h2
        cases es with
        | nil => simp [toPys, PyData.eqvAll]
        | cons e es =>
          rw [List.all_cons] at h1 h2
          obtain ⟨a1, a2⟩ := Bool.and_eq_true_iff.mp h1
          obtain ⟨b1, b2⟩ := Bool.and_eq_true_iff.mp h2
          rw [toPys, toPys, PyData.eqvAll, Bool.and_eq_true, ih d e a1 b1, ih2 es a2 b2]
          constructor
          · rintro ⟨rfl, rfl⟩; rfl
          · intro h; cases h; exact ⟨rfl, rfl⟩
    intro d e h1 h2
    cases d <;> first | (cases h1; done) | skip
    all_goals (cases e <;> first | (cases h2; done) | skip)
    all_goals first
      | (simp [toPy, PyData.eqv]; done)
      | skip
    · rw [toPy, toPy, PyData.eqv, all _ _ h1 h2]
      constructor
      · rintro rfl; rfl
      · intro h; cases h; rfl
    · rw [toPy, toPy, PyData.eqv, all _ _ h1 h2]
      constructor
      · rintro rfl; rfl
      · intro h; cases h; rfl
theorem eqO_tree {n : Nat} {d e : D} (h : treeB n d = true) (h2 : treeB n e = true) (hn : n ≤ 60) : ∃ b, eqO d e = .ok (.bl b) ∧ neO d e = .ok (.bl (!b)) ∧ (b = true ↔ d = e) := by
  unfold eqO neO
  rw [if_pos ⟨tree_cmp h hn, tree_cmp h2 hn⟩, if_pos ⟨tree_cmp h hn, tree_cmp h2 hn⟩]
  exact ⟨_, rfl, rfl, tree_eqv n d e h h2⟩
section
variable {l : List (Str × Int)} {b : Bool} {φ : Env → Res D} {env : Env} {s : Str} {i : Int}
theorem inWE_eq : inWE l b φ env = r1 (inW l b) (φ env) := rfl
theorem inW_str : inW l b (.str s) = .ok (.bl ((l.lookup s).isSome != b)) := rfl
theorem ixWE_eq : ixWE l φ env = r1 (ixW l) (φ env) := rfl
theorem guardX_ok {d : D} : guardX (.ok d) = .ok d := rfl
end
end VL

set_option maxRecDepth 100000
set_option maxHeartbeats 2000000
set_option autoImplicit false
namespace VL
open PySem L2
def nV : Option Key → V
  | none => .non
  | some k => kV k
def keyOfN : D → Option (Option Key)
  | .non => some none
  | d => (keyOf d).map some
def keysNOf : List D → Option (List (Option Key))
  | [] => some []
  | d :: ds => match keyOfN d with
    | none => none
    | some k => (keysNOf ds).map (k :: ·)
def noneFit (t : Nat) (k : D) : Bool := match t, k with
  | 1, .tup ds => match keysNOf ds with
    | some ks => ks.any fun k => k.isNone
    | none => false
  | _, _ => false
theorem rp_keysN {mg : Gm} {G : Vw} : ∀ {ds : List D} {ks : List (Option Key)} {xs : List V}, RpL mg G ds xs → keysNOf ds = some ks → xs = ks.map nV
  | [], _, _, .nil, h => by cases h; rfl
  | d :: ds, ks, _, .cons r t, h => by
    unfold keysNOf at h
    cases h1 : keyOfN d with
    | none => rw [h1] at h; cases h
    | some k =>
      rw [h1] at h
      obtain ⟨ks', h2, rfl⟩ := Option.map_eq_some_iff.mp h
      rw [rp_keysN t h2, List.map_cons]
      congr 1
      cases d <;> first | (cases h1; done) | skip
      case non => cases h1; cases r; rfl
      all_goals (cases h1; cases r; rfl)
section
variable {P : Program} {w : World} {H : Hp} {h : Heap} {a b : Addr}
theorem nV_is {k : Option Key} {u : Value} (r : RelV (nV k) u) : (noneKind P w).is k u = true := by
  cases k with
  | none => cases r; rfl
  | some k => exact kV_is (P := P) (w := w) r
theorem itemsN : ∀ {ks : List (Option Key)} {us : List Value}, Vals (ks.map nV) us → ItemsAre (noneKind P w) ks us
  | [], _, .nil => .nil
  | _ :: _, _, .cons r t => .cons (nV_is r) (itemsN t)
theorem keyN_of {ks : List (Option Key)} (ok : HOk P w H h) (e : H b = some (.tup (ks.map nV))) : (tupleKind (noneKind P w)).is h ks b := by
  have z : ObjOk P w H h b (.tup (ks.map nV)) := ok b _ e
  obtain ⟨_, its, q, oo, u1, u2, m, u3⟩ := z
  refine ⟨oo, its.toArray, m, u1, u2, u3, ?_⟩
  have := itemsN (P := P) (w := w) q
  simpa using this
theorem someItems : ∀ {ks : List Key} {us : List Value}, ItemsAre (mixKind P w) ks us → ItemsAre (noneKind P w) (ks.map some) us
  | [], _, .nil => .nil
  | _ :: _, _, .cons r t => .cons r (someItems t)
theorem noneDict {xs : List (List Key × Addr × Value)} (d : h.DictOfH (tupleKind (mixKind P w)) a xs) : h.DictOfH (tupleKind (noneKind P w)) a (xs.map fun x => (x.1.map some, x.2)) := by
  obtain ⟨o, es, ep, u1, u2, u3, u4, u5, u6⟩ := d
  refine ⟨o, es, ep, u1, u2, u3, ?_, fun x hx => ?_, ?_⟩
  · rw [u4, List.map_map]
    refine List.map_congr_left fun x _ => ?_
    have : (x.1.map some).map (noneKind P w).hash = x.1.map (mixKind P w).hash := by
      rw [List.map_map]
      rfl
    show (⟨_, _, _⟩ : DictEntry) = ⟨_, _, _⟩
    congr 1
    show tupleKeyHash (mixKind P w) x.1 = tupleKeyHash (noneKind P w) (x.1.map some)
    unfold tupleKeyHash
    rw [this]
  · obtain ⟨y, hy, rfl⟩ := List.mem_map.mp hx
    obtain ⟨oo, its, m, z1, z2, z3, z4⟩ := u5 y hy
    exact ⟨oo, its, m, z1, z2, z3, someItems z4⟩
  · rw [List.map_map]
    have : (xs.map ((fun x : List (Option Key) × Addr × Value => x.1) ∘ fun x => (x.1.map some, x.2))) = (xs.map (·.1)).map (·.map some) := by
      rw [List.map_map]
      rfl
    rw [this]
    exact List.pairwise_map.mpr (u6.imp fun n e => n ((List.map_inj_right fun _ _ z => Option.some.inj z).mp e))
theorem atKey_none {xs : List (List Key × Addr × Value)} {ks : List (Option Key)} (hn : none ∈ ks) : atKey (xs.map fun x => (x.1.map some, x.2)) ks = none := by
  unfold atKey
  rw [Option.map_eq_none_iff, List.find?_eq_none]
  intro x hx e
  obtain ⟨y, _, rfl⟩ := List.mem_map.mp hx
  have := of_decide_eq_true e
  rw [← this] at hn
  obtain ⟨k, _, z⟩ := List.mem_map.mp hn
  cases z
end
def DNone (H : Hp) (a : Addr) (y : V) : Prop := ∃ (kvs : List (List Key × V)) (ks : List (Option Key)) (b : Addr), Rd H a (.dT kvs) ∧ y = .ref b ∧ H b = some (.tup (ks.map nV)) ∧ none ∈ ks
section
variable {X : Cx} {pins : List (Addr × Obj)} {σ : St} {H : Hp} {s : Shared} {a : Addr} {y : V} {u : Value} {A : Around} {E : Value → Shared → Prop} {Q : Value → Shared → Prop}
theorem dn_in (hu : A.units + 1 < cLine) (I : Inv X pins σ H s) (g : DNone H a y) (ry : RelV y u) (h : ∀ s', Inv X pins σ H s' → Q (.bool false) s') : wpAny (model X.prog X.w) A (compareOp .In u (.ref a)) Q E s := by
  obtain ⟨kvs, ks, b, e, rfl, eb, hn⟩ := g
  cases (show u = Value.ref b from ry)
  obtain ⟨_, hd, xs, _, dd⟩ := dt_rd I.hok e
  have q : Q (.bool (atKey (xs.map fun x => (x.1.map some, x.2)) ks).isSome) { s with toks := s.toks + (tupleKind (noneKind X.prog X.w)).draws ks } := by
    rw [atKey_none hn]
    exact h _ (I.tok _)
  exact wpAny_in_heap (tupleKind_room_in1 hu) (keyN_of I.hok eb) hd (noneDict dd) q
theorem dn_notIn (hu : A.units + 1 < cLine) (I : Inv X pins σ H s) (g : DNone H a y) (ry : RelV y u) (h : ∀ s', Inv X pins σ H s' → Q (.bool true) s') : wpAny (model X.prog X.w) A (compareOp .NotIn u (.ref a)) Q E s := by
  obtain ⟨kvs, ks, b, e, rfl, eb, hn⟩ := g
  cases (show u = Value.ref b from ry)
  obtain ⟨_, hd, xs, _, dd⟩ := dt_rd I.hok e
  have q : Q (.bool (!(atKey (xs.map fun x => (x.1.map some, x.2)) ks).isSome)) { s with toks := s.toks + (tupleKind (noneKind X.prog X.w)).draws ks } := by
    rw [atKey_none hn]
    exact h _ (I.tok _)
  exact PyProof.Rows.wpAny_notIn_heap (tupleKind_room_in1 hu) (keyN_of I.hok eb) hd (noneDict dd) q
theorem dn_get (hu : A.units + 1 < cLine) (I : Inv X pins σ H s) (g : DNone H a y) (ry : RelV y u) (h : ∀ s', Inv X pins σ H s' → Q .none s') : wpAny (model X.prog X.w) A (call (.builtin "dict.get") [.ref a, u]) Q E s := by
  obtain ⟨kvs, ks, b, e, rfl, eb, hn⟩ := g
  cases (show u = Value.ref b from ry)
  obtain ⟨_, hd, xs, _, dd⟩ := dt_rd I.hok e
  have q : Q (((atKey (xs.map fun x => (x.1.map some, x.2)) ks).map (·.2)).getD .none) { s with toks := s.toks + (tupleKind (noneKind X.prog X.w)).draws ks } := by
    rw [atKey_none hn]
    exact h _ (I.tok _)
  exact call_meetsIn PySem.F.slot_dict_get dd.typeIs PySem.F.entry_dict_get (PySem.F.args_dict_get_2 _ _)
    (meetsH_dict_get (tupleKind (noneKind X.prog X.w)) a b hd) ⟨tupleKind_room_in1 hu, ks, _, keyN_of I.hok eb, noneDict dd, q⟩
end
def inZ (d e : D) : Res D := match e with
  | .dic t es => if keyFit t d = true then .ok (.bl (lookD es d).isSome) else if noneFit t d = true then .ok (.bl false) else .bad
  | e => inD d e
def notInZ (d e : D) : Res D := match e with
  | .dic t es => if keyFit t d = true then .ok (.bl (!(lookD es d).isSome)) else if noneFit t d = true then .ok (.bl true) else .bad
  | e => notInD d e
theorem dnone_of {mg : Gm} {H : Hp} {t : Nat} {es : List (D × D)} {a : Addr} {k : D} {y : V} (rd : Rp mg (vw H) (.dic t es) (.ref a)) (rk : Rp mg (vw H) k y) (hf : noneFit t k = true) : DNone H a y := by
  unfold noneFit at hf
  split at hf
  · rename_i ds
    split at hf
    · rename_i ks q
      cases rd with
      | dicT h e r =>
        cases rk with
        | tup hb rb =>
          obtain ⟨o, ho, hn⟩ := List.any_eq_true.mp hf
          cases o with
          | some _ => cases hn
          | none => exact ⟨_, ks, _, vw_dT h, rfl, by rw [← rp_keysN rb q]; exact vw_tup hb, ho⟩
    · cases hf
  · cases hf
section
variable {X : Cx} {W : WX} {fl fla flb : Bool} {e a b : Expr} {es : List Expr} {pos : Pos} {φ φa φb : Env → Res D} {φs : Env → Res (List D)}
theorem op_inN (hu : X.A.units + 1 < cLine) : OpR X (compareOp .In) (fun y x H Q => ∃ a, x = .ref a ∧ DNone H a y ∧ Q (.bl false) H) := by
  intro pins s σ H y x u v Q I ry rx h
  obtain ⟨a, rfl, g, q⟩ := h
  obtain rfl : v = Value.ref a := rx
  exact dn_in hu I g ry fun s3 I3 => ⟨.bl false, H, I3, rfl, q⟩
theorem op_notInN (hu : X.A.units + 1 < cLine) : OpR X (compareOp .NotIn) (fun y x H Q => ∃ a, x = .ref a ∧ DNone H a y ∧ Q (.bl true) H) := by
  intro pins s σ H y x u v Q I ry rx h
  obtain ⟨a, rfl, g, q⟩ := h
  obtain rfl : v = Value.ref a := rx
  exact dn_notIn hu I g ry fun s3 I3 => ⟨.bl true, H, I3, rfl, q⟩
theorem op_inZ (hu : X.A.units + 65 < cLine) : OpR X (compareOp .In) (fun x y H Q => (rInA X.K x y H Q ∨ rInDic x y H Q) ∨ ∃ a, y = .ref a ∧ DNone H a x ∧ Q (.bl false) H) := (op_inX hu).or (op_inN (by omega))
theorem op_notInZ (hu : X.A.units + 65 < cLine) : OpR X (compareOp .NotIn) (fun x y H Q => (rNotInA X.K x y H Q ∨ rNotInDic x y H Q) ∨ ∃ a, y = .ref a ∧ DNone H a x ∧ Q (.bl true) H) := (op_notInX hu).or (op_notInN (by omega))
theorem of_inZ : OpF X W fla flb fl (fun x y H Q => (rInA X.K x y H Q ∨ rInDic x y H Q) ∨ ∃ a, y = .ref a ∧ DNone H a x ∧ Q (.bl false) H) inZ := by
  intro M H σ Q d e v w m rd re h
  cases e with
  | dic t es =>
    have h0 : PostE X W fl M σ H Q (if keyFit t d = true then .ok (.bl (lookD es d).isSome) else if noneFit t d = true then .ok (.bl false) else .bad) := h
    by_cases hf : keyFit t d = true
    · rw [if_pos hf] at h0
      refine .inl (of_inX (X := X) (W := W) (fl := fl) M H σ Q d (.dic t es) v w m rd re ?_)
      show PostE X W fl M σ H Q (if keyFit t d = true then .ok (.bl (lookD es d).isSome) else .bad)
      rw [if_pos hf]
      exact h0
    · rw [if_neg hf] at h0
      obtain ⟨hn, h1⟩ := PostE.ite h0
      have hr : ∃ p, w = .ref p := by cases re <;> exact ⟨_, rfl⟩
      obtain ⟨p, rfl⟩ := hr
      exact .inr ⟨p, rfl, dnone_of (re.mono (vis_le flb M _)) (rd.mono (vis_le fla M _)) hn, h1 _ H (Ext.refl H) (.bl _)⟩
  | _ => exact .inl (of_inX M H σ Q d _ v w m rd re h)
theorem of_notInZ : OpF X W fla flb fl (fun x y H Q => (rNotInA X.K x y H Q ∨ rNotInDic x y H Q) ∨ ∃ a, y = .ref a ∧ DNone H a x ∧ Q (.bl true) H) notInZ := by
  intro M H σ Q d e v w m rd re h
  cases e with
  | dic t es =>
    have h0 : PostE X W fl M σ H Q (if keyFit t d = true then .ok (.bl (!(lookD es d).isSome)) else if noneFit t d = true then .ok (.bl true) else .bad) := h
    by_cases hf : keyFit t d = true
    · rw [if_pos hf] at h0
      refine .inl (of_notInX (X := X) (W := W) (fl := fl) M H σ Q d (.dic t es) v w m rd re ?_)
      show PostE X W fl M σ H Q (if keyFit t d = true then .ok (.bl (!(lookD es d).isSome)) else .bad)
      rw [if_pos hf]
      exact h0
    · rw [if_neg hf] at h0
      obtain ⟨hn, h1⟩ := PostE.ite h0
      have hr : ∃ p, w = .ref p := by cases re <;> exact ⟨_, rfl⟩
      obtain ⟨p, rfl⟩ := hr
      exact .inr ⟨p, rfl, dnone_of (re.mono (vis_le flb M _)) (rd.mono (vis_le fla M _)) hn, h1 _ H (Ext.refl H) (.bl _)⟩
  | _ => exact .inl (of_notInX M H σ Q d _ v w m rd re h)
def tGet1 (td ty : TE) : TE := fun σ H Q => td σ H fun x H1 => ∃ a, x = .ref a ∧ IsD H1 a ∧ ty σ H1 fun y H2 => (∃ o, DGet H2 a y o ∧ Q (o.getD .non) H2) ∨ (DNone H2 a y ∧ Q .non H2)
theorem pe_get1 {td ty : TE} {apos cpos : Pos} (hu : X.A.units + 1 < cLine) (pa : PE X a td) (pb : PE X b ty) (m : M1 X a "get" apos b cpos) : PE X (.Call (.Attribute a "get" apos) [b] [] cpos) (tGet1 td ty) where
  run := fun pins s σ H Q I h => by
    have first := pa.run pins s σ H _ I h
    have go := fun (p : Value) (s1 : Shared) (z : EP X pins σ (fun x H1 => ∃ a, x = .ref a ∧ IsD H1 a ∧ ty σ H1 fun y H2 => (∃ o, DGet H2 a y o ∧ Q (o.getD .non) H2) ∨ (DNone H2 a y ∧ Q .non H2)) p s1) => z
    refine wpAny_Call_method m.base m.few m.line PySem.F.plainAttrs_dict
      PySem.F.slot_dict_get PySem.F.type_dict_get (thn first fun p s1 z => ?_)
    obtain ⟨x, H1, I1, rx, c, rfl, d, k⟩ := z
    obtain rfl : p = Value.ref c := rx
    have ty1 := isD_at I1 d
    refine ⟨ty1.1, ty1.2.1, ?_⟩
    rw [m.trees]
    have second := pb.run pins s1 σ H1 _ I1 k
    refine Calls.callWith_builtin rfl (Calls.evalArgs_plain
      (Calls.spliced_cons (thn second fun iv s2 z => Calls.spliced_nil ?_)))
    obtain ⟨y, H2, I2, ry, z⟩ := z
    rcases z with ⟨o, g, k⟩ | ⟨g, k⟩
    · exact d_get1 hu I2 g ry fun r s3 I3 rr => ⟨_, H2, I3, rr, k⟩
    · exact dn_get hu I2 g ry fun s3 I3 => ⟨.non, H2, I3, rfl, k⟩
def isD01 : D → Bool
  | .dic 0 _ => true
  | .dic 1 _ => true
  | _ => false
def getK (d k : D) : Res D := match d with
  | .dic t es => if keyFit t k = true then .ok ((lookD es k).getD .non) else if noneFit t k = true then .ok .non else .bad
  | _ => .bad
def getE (φa φb : Env → Res D) (env : Env) : Res D := (φa env).bind fun d => if isD01 d = true then (φb env).bind (getK d) else .bad
theorem ve_get1 {apos cpos : Pos} (hu : X.A.units + 1 < cLine) (ha : VE X W fl a φa) (hb : VE X W flb b φb) (m : M1 X a "get" apos b cpos := by exact ⟨by rfl, by rfl, by rfl, by rfl⟩) : VE X W fl (.Call (.Attribute a "get" apos) [b] [] cpos) (getE φa φb) := by
  obtain ⟨ta, pa, ra⟩ := ha
  obtain ⟨tb, pb, rb⟩ := hb
  refine ⟨_, pe_get1 hu pa pb m, fun H0 M0 M H σ env Q g h => ?_⟩
  refine ra H0 M0 M H σ env _ g (PostE.seq h fun d v H1 e1 r1 h1 => ?_)
  obtain ⟨hd, h1⟩ := PostE.ite h1
  have q : ∃ p, v = .ref p ∧ IsD H1 p := by
    have rr := r1.mono (vis_le fl M (vw H1))
    cases rr <;> first | (cases hd; done) | skip
    · exact ⟨_, rfl, .inl ⟨_, vw_dK ‹_›⟩⟩
    · exact ⟨_, rfl, .inr ⟨_, vw_dT ‹_›⟩⟩
  obtain ⟨p, rfl, id⟩ := q
  refine ⟨p, rfl, id, ?_⟩
  refine rb H0 M0 M H1 σ env _ (g.mono e1) (PostE.seq h1 fun k y H2 e2 r2 h2 => ?_)
  have r1' := r1.mono (vis_mono e2.v)
  obtain ⟨t, es, rfl⟩ : ∃ t es, d = .dic t es := by
    cases d <;> first | (cases hd; done) | exact ⟨_, _, rfl⟩
  · have h3 : PostE X W fl M σ H2 Q (if keyFit t k = true then .ok ((lookD es k).getD .non) else if noneFit t k = true then .ok .non else .bad) := h2
    by_cases hf : keyFit t k = true
    · rw [if_pos hf] at h3
      have hl := dget_of (vis_le fl M (vw H2)) r1' (r2.mono (vis_le flb M _)) hf
      refine .inl ?_
      cases q : lookD es k with
      | none =>
        rw [q] at hl h3
        exact ⟨none, hl, h3 .non H2 (Ext.refl _) .non⟩
      | some d =>
        rw [q] at hl h3
        obtain ⟨x, g2, rr⟩ := hl
        exact ⟨some x, g2, h3 x H2 (Ext.refl _) rr⟩
    · rw [if_neg hf] at h3
      obtain ⟨hn, h4⟩ := PostE.ite h3
      exact .inr ⟨dnone_of (r1'.mono (vis_le fl M _)) (r2.mono (vis_le flb M _)) hn, h4 .non H2 (Ext.refl _) .non⟩
def listX : List D → Res D
  | [.dic 0 es] => .ok (.lst (es.map (·.1)))
  | ds => listF ds
theorem rp_keysL {mg : Gm} {G : Vw} : ∀ (kvs : List (Key × V)), RpL mg G (kvs.map fun p => keyD p.1) (kvs.map fun p => kV p.1)
  | [] => .nil
  | (.inl i, _) :: kvs => .cons (.int i) (rp_keysL kvs)
  | (.inr s, _) :: kvs => .cons (.str s) (rp_keysL kvs)
theorem cr_listX (hc : X.calm = true) : CallR X (.type "list") (fun xs H Q => (∃ p ys, xs = [.ref p] ∧ (SqL X.K H p ys ∨ SqT X.K H p ys) ∧ ∀ l, H l = none → Q (.ref l) (upd H l (.lst ys))) ∨
    ∃ (a : Addr) (kvs : List (Key × V)), xs = [.ref a] ∧ Rd H a (.dK kvs) ∧ ∀ p, H p = none → Q (.ref p) (upd H p (.lst (kvs.map fun kv => kV kv.1)))) := call_list_of.or (call_listD hc)
theorem cf_listX : CallF X W fl fl (fun xs H Q => (∃ p ys, xs = [.ref p] ∧ (SqL X.K H p ys ∨ SqT X.K H p ys) ∧ ∀ l, H l = none → Q (.ref l) (upd H l (.lst ys))) ∨
    ∃ (a : Addr) (kvs : List (Key × V)), xs = [.ref a] ∧ Rd H a (.dK kvs) ∧ ∀ p, H p = none → Q (.ref p) (upd H p (.lst (kvs.map fun kv => kV kv.1)))) listX := by
  intro M H σ Q ds vs m r h
  by_cases hd : ∃ es, ds = [.dic 0 es]
  · obtain ⟨es, rfl⟩ := hd
    cases r with
    | cons r t =>
      cases t
      cases r with
      | dicK ha e ra =>
        refine .inr ⟨_, _, rfl, vw_dK (vis_get ha), fun p hp => ?_⟩
        have h' : PostE X W fl M σ H Q (.ok (.lst (es.map (·.1)))) := h
        rw [e] at h'
        exact h' _ _ (Ext.new hp) (rp_newL m hp (rp_keysL _))
  · have e : listX ds = listF ds := by
      unfold listX
      split
      · exact absurd ⟨_, rfl⟩ hd
      · rfl
    rw [e] at h
    exact .inl (cf_list M H σ Q ds vs m r h)
def dictF : List D → Res D
  | [.dic 0 es] => .ok (.dic 0 es)
  | _ => .bad
theorem cf_dict : CallF X W fl fl (fun xs H Q => ∃ (a : Addr) (kvs : List (Key × V)), xs = [.ref a] ∧ Rd H a (.dK kvs) ∧ ∀ p, H p = none → Q (.ref p) (upd H p (.dK kvs))) dictF := by
  intro M H σ Q ds vs m r h
  unfold dictF at h
  split at h
  · cases r with
    | cons r t =>
      cases t
      cases r with
      | dicK ha e ra => exact ⟨_, _, rfl, vw_dK (vis_get ha), fun p hp => h _ _ (Ext.new hp) (.dicK (vis_new m hp trivial) e (ra.mono (vis_mono (Ext.new hp).v)))⟩
  · exact h.elim
end
section
variable {es : List (D × D)} {k d : D} {t : Nat} {φa φb : Env → Res D} {env : Env}
theorem inZ_fit (h : keyFit t k = true) : inZ k (.dic t es) = .ok (.bl (lookD es k).isSome) := if_pos h
theorem notInZ_fit (h : keyFit t k = true) : notInZ k (.dic t es) = .ok (.bl (!(lookD es k).isSome)) := if_pos h
theorem inZ_none (h : keyFit t k = false) (h2 : noneFit t k = true) : inZ k (.dic t es) = .ok (.bl false) := by
  show (if keyFit t k = true then _ else if noneFit t k = true then _ else _) = _
  rw [if_neg (by rw [h]; exact Bool.false_ne_true), if_pos h2]
def rGet1 (a b : Res D) : Res D := a.bind fun d => if isD01 d = true then b.bind (getK d) else .bad
theorem getE_eq : getE φa φb env = rGet1 (φa env) (φb env) := rfl
theorem rGet1_ok (h : isD01 d = true) : rGet1 (.ok d) (.ok k) = getK d k := if_pos h
theorem getK_fit (h : keyFit t k = true) : getK (.dic t es) k = .ok ((lookD es k).getD .non) := if_pos h
theorem getK_none (h : keyFit t k = false) (h2 : noneFit t k = true) : getK (.dic t es) k = .ok .non := by
  show (if keyFit t k = true then _ else if noneFit t k = true then _ else _) = _
  rw [if_neg (by rw [h]; exact Bool.false_ne_true), if_pos h2]
theorem getD_fit (h : keyFit t k = true) (h2 : lookD es k = some d) : getD (.dic t es) k = .ok d := by
  have e1 : getD (.dic t es) k = if keyFit t k = true then (match lookD es k with | some d => .ok d | none => .bad) else .bad := by cases k <;> rfl
  rw [e1, if_pos h, h2]
def rPut (i : Nat) (s : Option Sl) (rv rk : Res D) (env : Env) : SRes := match s with
  | some (.ow (.dic t es)) => ofE rv env fun d => ofE rk env fun k => if keyFit t k = true ∧ es.length < sizeLine then .nx (env.set i (.ow (.dic t (setD es k d)))) else .bad
  | _ => .bad
theorem putS_eq {i : Nat} : putS i φa φb env = rPut i env[i]? (φb env) (φa env) env := rfl
theorem rPut_ok {i : Nat} : rPut i (some (.ow (.dic t es))) (.ok d) (.ok k) env = if keyFit t k = true ∧ es.length < sizeLine then .nx (env.set i (.ow (.dic t (setD es k d)))) else .bad := rfl
end
end VL

set_option maxRecDepth 100000
set_option maxHeartbeats 2000000
set_option autoImplicit false
namespace VL
open PySem L2
def lockO : HO → Bool
  | .dK _ => true
  | .dT _ => true
  | .ext _ => true
  | _ => false
theorem vw_lock {H : Hp} {d : Addr} {u : HO} {o : Obj} (h : H d = some u) (hl : lockO u = true) : vw (upd H d (.frz o u)) = vw H := by
  funext a
  unfold vw
  by_cases e : a = d
  · subst e
    rw [upd_same, h]
    cases u <;> first | rfl | cases hl
  · rw [upd_ne e]
theorem vw_unlock {H : Hp} {d : Addr} {u : HO} {o : Obj} (h : H d = some (.frz o u)) (hl : lockO u = true) : vw (upd H d u) = vw H := by
  funext a
  unfold vw
  by_cases e : a = d
  · subst e
    rw [upd_same, h]
    cases u <;> first | rfl | cases hl
  · rw [upd_ne e]
section
variable {mg : Gm} {H0 H H' : Hp} {M0 M M' : Addr → Bool} {σ σ' : L2.St} {env env' : Env} {d : Addr} {u : HO} {o : Obj}
theorem mok_upd {w : HO} (m : MOk M H) (hm : M d = false) : MOk M (upd H d w) where
  dom := fun a h => by
    obtain ⟨x, q⟩ := m.dom a h
    exact ⟨x, by rw [upd_ne (fun e => by rw [e, hm] at h; cases h)]; exact q⟩
  tup := fun a xs h => by rw [upd_ne (fun e => by rw [e, hm] at h; cases h)]; exact m.tup a xs h
  xd := fun a xs h => by rw [upd_ne (fun e => by rw [e, hm] at h; cases h)]; exact m.xd a xs h
theorem m0_of (g : Good mg H0 M0 M H σ env) (hm : M d = false) : M0 d = false := by
  cases q : M0 d with
  | false => rfl
  | true => rw [g.sub d q] at hm; cases hm
theorem good_lockS (g : Good mg H0 M0 M H σ env) (hm : M d = false) (hd : H d = some u) (hl : lockO u = true) : Good mg (upd H0 d (.frz o u)) M0 M (upd H d (.frz o u)) σ env where
  len := g.len
  ok := mok_upd g.ok hm
  sub := g.sub
  new := fun a h => (g.new a h).imp id fun z => by rw [upd_ne (fun e => by rw [e, hm] at h; cases h)]; exact z
  ok0 := mok_upd g.ok0 (m0_of g hm)
  ex := fun a w h => by
    by_cases e : a = d
    · subst e; rw [upd_same] at h ⊢; exact h
    · rw [upd_ne e] at h ⊢; exact g.ex a w h
  sl := fun i s h => (g.sl i s h).imp (by rw [vw_lock hd hl]; exact .refl _) fun p _ hp => ⟨hp, fun w hw => by rw [upd_ne (fun e => by rw [e, hm] at hp; cases hp)]; exact hw⟩
  inj := g.inj
theorem good_up (g : Good mg H0 M0 M H σ env) (hm : M d = false) (hd : H d = some (.frz o u)) : Good mg (upd H0 d (.frz o u)) M0 M H σ env where
  len := g.len
  ok := g.ok
  sub := g.sub
  new := fun a h => (g.new a h).imp id fun z => by rw [upd_ne (fun e => by rw [e, hm] at h; cases h)]; exact z
  ok0 := mok_upd g.ok0 (m0_of g hm)
  ex := fun a w h => by
    by_cases e : a = d
    · subst e; rw [upd_same] at h; rw [hd]; exact h
    · rw [upd_ne e] at h; exact g.ex a w h
  sl := g.sl
  inj := g.inj
theorem at_lock (g : Good mg (upd H0 d (.frz o u)) M0 M H σ env) (m0 : M0 d = false) : H d = some (.frz o u) ∧ M d = false := by
  refine ⟨g.ex d _ upd_same, ?_⟩
  cases q : M d with
  | false => rfl
  | true =>
    rcases g.new d q with h | h
    · rw [m0] at h; cases h
    · rw [upd_same] at h; cases h
theorem good_down (g : Good mg (upd H0 d (.frz o u)) M0 M H σ env) (k0 : MOk M0 H0) (h0 : H0 d = none ∨ H0 d = some (.frz o u)) : Good mg H0 M0 M H σ env where
  len := g.len
  ok := g.ok
  sub := g.sub
  new := fun a h => (g.new a h).imp id fun z => by
    by_cases e : a = d
    · rw [e, upd_same] at z; cases z
    · rw [upd_ne e] at z; exact z
  ok0 := k0
  ex := fun a w h => by
    by_cases e : a = d
    · subst e
      rcases h0 with z | z
      · rw [z] at h; cases h
      · rw [z] at h; cases h
        exact g.ex _ _ upd_same
    · exact g.ex a w (by rw [upd_ne e]; exact h)
  sl := g.sl
  inj := g.inj
theorem good_unlockS (g : Good mg (upd H0 d (.frz o u)) M0 M H σ env) (k0 : MOk M0 H0) (h0 : H0 d = none ∨ H0 d = some u) (m0 : M0 d = false) (hl : lockO u = true) : Good mg H0 M0 M (upd H d u) σ env := by
  obtain ⟨hd, hm⟩ := at_lock g m0
  exact {
    len := g.len
    ok := mok_upd g.ok hm
    sub := g.sub
    new := fun a h => (g.new a h).imp id fun z => by
      by_cases e : a = d
      · rw [e, hm] at h; cases h
      · rw [upd_ne e] at z; exact z
    ok0 := k0
    ex := fun a w h => by
      by_cases e : a = d
      · subst e
        rcases h0 with z | z
        · rw [z] at h; cases h
        · rw [upd_same, ← z]; exact h
      · rw [upd_ne e]; exact g.ex a w (by rw [upd_ne e]; exact h)
    sl := fun i s h => (g.sl i s h).imp (by rw [vw_unlock hd hl]; exact .refl _) fun p _ hp => ⟨hp, fun w hw => by rw [upd_ne (fun e => by rw [e, hm] at hp; cases hp)]; exact hw⟩
    inj := g.inj }
end
theorem itOk_keysT {mg : Gm} {H0 H : Hp} {M : Addr → Bool} {p : Addr} {od : Obj} {kvs : List (List Key × V)} {ks : List D} (h0 : H0 p = some (.frz od (.dT kvs))) (e : ks = kvs.map fun q => .tup (q.1.map keyD)) : ItOk mg H0 M H (Itkt p od kvs) ks := by
  intro M' H' m e0 ev i
  have hp := e0 _ _ h0
  refine ⟨fun hi => ⟨hp, by rw [e, List.length_map] at hi; exact hi⟩, fun d hd => ?_⟩
  rw [e, List.getElem?_map] at hd
  cases q : kvs[i]? with
  | none => rw [q] at hd; cases hd
  | some kv =>
    rw [q] at hd
    cases hd
    refine ⟨⟨hp, (List.getElem?_eq_some_iff.mp q).1⟩, fun x H2 y => ?_⟩
    obtain ⟨rfl, k, v, b, h1, rfl, h2⟩ := y
    rw [q] at h1
    cases h1
    refine ⟨.refl _, ?_⟩
    have hm : M' b = false := by
      cases z : M' b with
      | false => rfl
      | true => exact absurd h2 (m.tup b _ z)
    have rk : ∀ ks : List Key, RpL mg (Sh M' (vw H2)) (ks.map keyD) (ks.map kV) := fun ks => by
      induction ks with
      | nil => exact .nil
      | cons k ks ih =>
        refine .cons ?_ ih
        cases k with
        | inl i => exact .int i
        | inr s => exact .str s
    exact .tup (by rw [Sh_of hm]; exact vw_of h2 trivial) (rk k)
section
variable {X : Cx} {W : WX} {tg iter : Expr} {sts : List Stmt} {pos : Pos} {γ : D → Env → Option Env} {ψ : Env → SRes} {φ : Env → Res D}
theorem for_core {tg' : TG} {tb : TS} (rg : ∀ (H0 : Hp) (M0 M : Addr → Bool) (H : Hp) (σ : L2.St) (env env' : Env) (d : D) (v : V) (Q : L2.St → Hp → Prop), Good (gm X) H0 M0 M H σ env → Rp (gm X) (Sh M (vw H)) d v → γ d env = some env' → (∀ σ', Good (gm X) H0 M0 M H σ' env' → Q σ' H) → tg' v σ H Q)
    (rb : ∀ (H0 : Hp) (M0 M : Addr → Bool) (H : Hp) (σ : L2.St) (env : Env) (D : Ends), Good (gm X) H0 M0 M H σ env → PostS X W H0 M0 M H D (ψ env) → tb D σ H)
    {H0 : Hp} {M0 M : Addr → Bool} {H1 : Hp} {σ : L2.St} {env : Env} {D : Ends} {ds : List VL.D} {J : It} (g : Good (gm X) H0 M0 M H1 σ env) (ok : ItOk (gm X) H0 M H1 J ds) (h1 : PostS X W H0 M0 M H1 D (forL γ ψ ds env)) :
    ∃ Wf : Nat → Nat → L2.St → Hp → Prop, (∃ m, Wf 0 m σ H1) ∧ ∀ i m σ H, Wf i m σ H → (J.stop i H ∧ D.nx σ H) ∨ (J.go i H ∧ ∃ N : L2.St → Hp → Prop, (∀ σ' H', N σ' H' → ∃ m', m' < m ∧ Wf (i + 1) m' σ' H') ∧
      ∀ x H', J.yld i H x H' → tg' x σ H' fun σ2 H2 => tb { D with nx := N, ct := N, bk := D.nx } σ2 H2) := by
  refine ⟨fun i m σ' H' => m = ds.length - i ∧ ∃ M' env', Good (gm X) H0 M0 M' H' σ' env' ∧ VEx (Sh M (vw H1)) (Sh M' (vw H')) ∧ PostS X W H0 M0 M' H' D (forL γ ψ (ds.drop i) env'), ⟨ds.length, rfl, M, env, g, .refl _, h1⟩, ?_⟩
  rintro i m σ' H' ⟨rfl, M', env', g', e', h'⟩
  obtain ⟨o1, o2⟩ := ok M' H' g'.ok g'.ex e' i
  cases qd : ds[i]? with
  | none =>
    have hi : ds.length ≤ i := List.getElem?_eq_none_iff.mp qd
    rw [List.drop_of_length_le hi] at h'
    exact .inl ⟨o1 hi, h' M' H' σ' g' (.refl _)⟩
  | some d =>
    obtain ⟨o3, o4⟩ := o2 d qd
    have hi : i < ds.length := (List.getElem?_eq_some_iff.mp qd).1
    have hdr : ds.drop i = d :: ds.drop (i + 1) := by
      rw [List.drop_eq_getElem_cons hi]
      rw [List.getElem?_eq_getElem hi] at qd
      cases qd; rfl
    rw [hdr] at h'
    unfold forL at h'
    cases qg : γ d env' with
    | none => rw [qg] at h'; exact h'.elim
    | some env1 =>
      rw [qg] at h'
      refine .inr ⟨o3, fun σ2 H2 => ∃ M2 env2, Good (gm X) H0 M0 M2 H2 σ2 env2 ∧ VEx (Sh M (vw H1)) (Sh M2 (vw H2)) ∧ PostS X W H0 M0 M2 H2 D (forL γ ψ (ds.drop (i + 1)) env2), fun σ2 H2 ⟨M2, env2, x1, x2, x3⟩ => ⟨ds.length - (i + 1), by omega, rfl, M2, env2, x1, x2, x3⟩, fun x H2 y => ?_⟩
      obtain ⟨ey, ry⟩ := o4 x H2 y
      refine rg H0 M0 M' H2 σ' env' env1 d x _ (g'.mono ey) ry qg fun σ3 g3 => ?_
      have h3 : PostS X W H0 M0 M' H2 D (flowL (ψ env1) (forL γ ψ (ds.drop (i + 1)))) := PostS.mono h' (Sh_mono (M := M') ey.v)
      have e3 := e'.trans (Sh_mono (M := M') ey.v)
      refine rb H0 M0 M' H2 σ3 env1 _ g3 ?_
      cases qb : ψ env1 with
      | nx env2 => rw [qb] at h3; exact fun M4 H4 σ4 g4 e4 => ⟨M4, env2, g4, e3.trans e4, PostS.mono h3 e4⟩
      | ct env2 => rw [qb] at h3; exact fun M4 H4 σ4 g4 e4 => ⟨M4, env2, g4, e3.trans e4, PostS.mono h3 e4⟩
      | bk env2 => rw [qb] at h3; exact h3
      | rt d => rw [qb] at h3; exact h3
      | xc c fs env2 => rw [qb] at h3; exact h3
      | bad => rw [qb] at h3; exact h3
      | ro d => rw [qb] at h3; exact h3
def VD (X : Cx) (e : Expr) (φ : Env → Res D) : Prop :=
  ∃ t : TE, PE X e t ∧ ∀ (H0 : Hp) (M0 M : Addr → Bool) (H : Hp) (σ : L2.St) (env : Env) (d : D), Good (gm X) H0 M0 M H σ env → φ env = .ok d → isD01 d = true → ∃ a, Rp (gm X) (Sh M (vw H)) d (.ref a) ∧ ∀ (H1 : Hp) (Q : VK), vw H1 = vw H → Q (.ref a) H1 → t σ H1 Q
theorem vd_v (i : Nat) {x : Str} (hN : X.N[i]? = some x := by rfl) (hv : Vis X.env.scope x := by first | exact Or.inl rfl | exact Or.inr (Or.inl rfl) | exact Or.inr (Or.inr rfl)) (hd : (x == ("__debug__" : Str)) = false := by decide)
    (hcd : (x == ("__classdict__" : Str)) = false := by decide) : VD X (.Name x pos) (getP i) := by
  refine ⟨tVar i, pe_var hN hv hd hcd, fun H0 M0 M H σ env d g h hi => ?_⟩
  unfold getP at h
  cases q : env[i]? with
  | none => rw [q] at h; cases h
  | some s =>
    rw [q] at h
    cases s with
    | no => cases h
    | ow d => cases h
    | sh d =>
      cases h
      obtain ⟨x, e, r⟩ := g.sl i _ q
      have : ∃ a, x = .ref a := by cases r <;> first | exact ⟨_, rfl⟩ | cases hi
      obtain ⟨a, rfl⟩ := this
      exact ⟨a, r, fun H1 Q _ k => ⟨_, e, k⟩⟩
def rIxL1 (k : Int) : Option Sl → Res D
  | some (.sh (.lst ds)) => seqGet ds k
  | _ => .bad
def ixLE (i : Nat) (k : Int) (env : Env) : Res D := rIxL1 k env[i]?
theorem vd_ix (i : Nat) {x : Str} {k : Int} {j : Nat} {px p1 : Pos} (hN : X.N[i]? = some x := by rfl) (hv : Vis X.env.scope x := by first | exact Or.inl rfl | exact Or.inr (Or.inl rfl) | exact Or.inr (Or.inr rfl)) (hd : (x == ("__debug__" : Str)) = false := by decide)
    (hcd : (x == ("__classdict__" : Str)) = false := by decide) : VD X (.Subscript (.Name x px) (.Constant (.int k) j p1) pos) (ixLE i k) := by
  refine ⟨_, pe_ix ix_seq (pe_var hN hv hd hcd) pe_int (fun _ _ => rfl), fun H0 M0 M H σ env d g h hi => ?_⟩
  unfold ixLE rIxL1 at h
  split at h
  · rename_i ds q
    obtain ⟨x, e, r⟩ := g.sl i _ q
    unfold seqGet at h
    cases z : atI ds k with
    | none => rw [z] at h; cases h
    | some d2 =>
      rw [z] at h
      cases h
      cases r with
      | lst ha ra =>
        obtain ⟨v, q1, r1⟩ := atI_rp ra z
        have : ∃ a, v = .ref a := by cases r1 <;> first | exact ⟨_, rfl⟩ | cases hi
        obtain ⟨a, rfl⟩ := this
        refine ⟨a, r1, fun H1 Q ev kk => ⟨_, e, .inl ⟨_, _, k, .ref a, rfl, rfl, .inl (vw_lst ?_), q1, kk⟩⟩⟩
        rw [ev]
        exact (Sh_some ha).2
  · cases h
def keysD : D → Res (List D)
  | .dic 0 es => .ok (es.map (·.1))
  | .dic 1 es => .ok (es.map (·.1))
  | _ => .bad
def quiet : SRes → SRes
  | .xc _ _ _ => .bad
  | .ro _ => .bad
  | r => r
def forDS (γ : D → Env → Option Env) (φ : Env → Res D) (ψ : Env → SRes) (env : Env) : SRes := match (φ env).bind keysD with
  | .ok ds => quiet (forL γ ψ ds env)
  | _ => .bad
theorem ps_or {st : Stmt} {t u : TS} (h1 : PS X st t) (h2 : PS X st u) : PS X st (fun D σ H => t D σ H ∨ u D σ H) :=
  ⟨fun pins s σ H D I h => h.elim (h1.run pins s σ H D I) (h2.run pins s σ H D I)⟩
theorem vs_forD (hp : PassesOwn (model X.prog X.w) X.A X.env X.xe) (hc : X.calm = true) (hd : VD X iter φ) (hg : VG X tg γ) (hb : VB X W sts ψ) (hs : ∀ x, foldedSetIterable iter X.env x = pure x := by intro _; rfl) : VS X W (.For tg iter sts [] pos) (forDS γ φ ψ) := by
  obtain ⟨td, pd, rd⟩ := hd
  obtain ⟨tg', pg, rg⟩ := hg
  obtain ⟨tb, pb, rb⟩ := hb
  refine ⟨_, ps_or (ps_lock (ps_for hp hc (pi_keys pd) pg pb hs)) (ps_for hp hc (pi_keys pd) pg pb hs), fun H0 M0 M H σ env D g h => ?_⟩
  unfold forDS at h
  cases q : φ env with
  | bad => rw [q] at h; exact h.elim
  | exc c fs => rw [q] at h; exact h.elim
  | ok d =>
    rw [q] at h
    have hi : isD01 d = true := by
      cases d with
      | dic t es =>
        match t, h with
        | 0, _ => rfl
        | 1, _ => rfl
        | (_ + 2), h => exact h.elim
      | _ => exact h.elim
    obtain ⟨a, ra, run⟩ := rd H0 M0 M H σ env d g q hi
    -- what stands there
    obtain ⟨u, ks, hu, hv, hm, hk, ok⟩ : ∃ (u : HO) (ks : List VL.D), lockO u = true ∧ (H a = some u ∨ ∃ o, H a = some (.frz o u)) ∧ M a = false ∧ keysD d = .ok ks ∧
        ∀ (o : Obj) (H0' H1 : Hp), H0' a = some (.frz o u) → (∃ kvs, u = .dK kvs ∧ ItOk (gm X) H0' M H1 (Itk a o kvs) ks) ∨ ∃ kvs, u = .dT kvs ∧ ItOk (gm X) H0' M H1 (Itkt a o kvs) ks := by
      have two : (∃ es, d = .dic 0 es) ∨ ∃ es, d = .dic 1 es := by
        cases d with
        | dic t es =>
          match t, hi with
          | 0, _ => exact .inl ⟨es, rfl⟩
          | 1, _ => exact .inr ⟨es, rfl⟩
        | _ => cases hi
      rcases two with ⟨es, rfl⟩ | ⟨es, rfl⟩
      · cases ra with
        | @dicK _ kvs _ ha e r =>
          obtain ⟨hm, hv⟩ := Sh_some ha
          exact ⟨.dK kvs, _, rfl, vw_dK hv, hm, rfl, fun o H0' H1 z0 => .inl ⟨kvs, rfl, itOk_keys z0 e⟩⟩
      · cases ra with
        | @dicT _ kvs _ ha e r =>
          obtain ⟨hm, hv⟩ := Sh_some ha
          exact ⟨.dT kvs, _, rfl, vw_dT hv, hm, rfl, fun o H0' H1 z0 => .inr ⟨kvs, rfl, itOk_keysT z0 e⟩⟩
    have h1 : PostS X W H0 M0 M H D (quiet (forL γ ψ ks env)) := by
      have e : (match (Res.ok d).bind keysD with
        | .ok ds => quiet (forL γ ψ ds env)
        | _ => SRes.bad) = quiet (forL γ ψ ks env) := by
        show (match keysD d with
          | .ok ds => quiet (forL γ ψ ds env)
          | _ => SRes.bad) = _
        rw [hk]
      rw [← e]; exact h
    have m0 := m0_of g hm
    rcases hv with hv | ⟨o, hv⟩
    · refine .inl ⟨a, u, hv, ?_, fun od => ?_⟩
      · cases u <;> first | trivial | cases hu
      have gl := good_lockS (o := od) g hm hv hu
      have h00 : H0 a = none ∨ H0 a = some u := by
        cases z : H0 a with
        | none => exact .inl rfl
        | some w => rw [← hv]; exact .inr (g.ex _ _ z).symm
      suffices post : PostS X W (upd H0 a (.frz od u)) M0 M (upd H a (.frz od u)) ⟨fun σ' H' => H' a = some (.frz od u) ∧ D.nx σ' (upd H' a u), fun v H' => H' a = some (.frz od u) ∧ D.rt v (upd H' a u), fun σ' H' => H' a = some (.frz od u) ∧ D.bk σ' (upd H' a u), fun σ' H' => H' a = some (.frz od u) ∧ D.ct σ' (upd H' a u)⟩ (forL γ ψ ks env) by
        refine run _ _ (vw_lock hv hu) ⟨a, od, rfl, ?_⟩
        rcases ok od (upd H0 a (.frz od u)) (upd H a (.frz od u)) upd_same with ⟨kvs, rfl, okJ⟩ | ⟨kvs, rfl, okJ⟩
        · exact .inl ⟨kvs, upd_same, for_core rg rb gl okJ post⟩
        · exact .inr ⟨kvs, upd_same, for_core rg rb gl okJ post⟩
      have un : ∀ {M' : Addr → Bool} {H' : Hp} {σ' : L2.St} {env' : Env}, Good (gm X) (upd H0 a (.frz od u)) M0 M' H' σ' env' → Good (gm X) H0 M0 M' (upd H' a u) σ' env' := fun g' => good_unlockS g' g.ok0 h00 m0 hu
      have vx : ∀ {M' : Addr → Bool} {H' : Hp}, H' a = some (.frz od u) → VEx (Sh M (vw (upd H a (.frz od u)))) (Sh M' (vw H')) → VEx (Sh M (vw H)) (Sh M' (vw (upd H' a u))) := fun hd e => by
        rw [vw_lock hv hu] at e
        rw [vw_unlock hd hu]
        exact e
      cases z : forL γ ψ ks env with
      | nx env' => rw [z] at h1; exact fun M' H' σ' g' e' => ⟨(at_lock g' m0).1, h1 M' _ σ' (un g') (vx (at_lock g' m0).1 e')⟩
      | bk env' => rw [z] at h1; exact fun M' H' σ' g' e' => ⟨(at_lock g' m0).1, h1 M' _ σ' (un g') (vx (at_lock g' m0).1 e')⟩
      | ct env' => rw [z] at h1; exact fun M' H' σ' g' e' => ⟨(at_lock g' m0).1, h1 M' _ σ' (un g') (vx (at_lock g' m0).1 e')⟩
      | rt d' =>
        rw [z] at h1
        intro v H' e' r'
        have hd := e' a _ upd_same
        refine ⟨hd, h1 v _ (fun b w hb => ?_) (by rw [vw_unlock hd hu]; exact r')⟩
        by_cases e : b = a
        · subst e
          rcases h00 with y | y
          · rw [y] at hb; cases hb
          · rw [upd_same, ← y]; exact hb
        · rw [upd_ne e]
          exact e' b w (by rw [upd_ne e]; exact hb)
      | xc c fs env' => rw [z] at h1; exact h1.elim
      | bad => rw [z] at h1; exact h1.elim
      | ro d' => rw [z] at h1; exact h1.elim
    · refine .inr ?_
      have gl := good_up g hm hv
      have h00 : H0 a = none ∨ H0 a = some (.frz o u) := by
        cases z : H0 a with
        | none => exact .inl rfl
        | some w => rw [← hv]; exact .inr (g.ex _ _ z).symm
      suffices post : PostS X W (upd H0 a (.frz o u)) M0 M H D (forL γ ψ ks env) by
        refine run _ _ rfl ⟨a, o, rfl, ?_⟩
        rcases ok o (upd H0 a (.frz o u)) H upd_same with ⟨kvs, rfl, okJ⟩ | ⟨kvs, rfl, okJ⟩
        · exact .inl ⟨kvs, hv, for_core rg rb gl okJ post⟩
        · exact .inr ⟨kvs, hv, for_core rg rb gl okJ post⟩
      have dn : ∀ {M' : Addr → Bool} {H' : Hp} {σ' : L2.St} {env' : Env}, Good (gm X) (upd H0 a (.frz o u)) M0 M' H' σ' env' → Good (gm X) H0 M0 M' H' σ' env' := fun g' => good_down g' g.ok0 h00
      cases z : forL γ ψ ks env with
      | nx env' => rw [z] at h1; exact fun M' H' σ' g' e' => h1 M' H' σ' (dn g') e'
      | bk env' => rw [z] at h1; exact fun M' H' σ' g' e' => h1 M' H' σ' (dn g') e'
      | ct env' => rw [z] at h1; exact fun M' H' σ' g' e' => h1 M' H' σ' (dn g') e'
      | rt d' =>
        rw [z] at h1
        intro v H' e' r'
        refine h1 v H' (fun b w hb => ?_) r'
        by_cases e : b = a
        · subst e
          rcases h00 with y | y
          · rw [y] at hb; cases hb
          · rw [y] at hb; cases hb
            exact e' b _ upd_same
        · exact e' b w (by rw [upd_ne e]; exact hb)
      | xc c fs env' => rw [z] at h1; exact h1.elim
      | bad => rw [z] at h1; exact h1.elim
      | ro d' => rw [z] at h1; exact h1.elim
end
end VL

set_option maxRecDepth 100000
set_option maxHeartbeats 2000000
set_option autoImplicit false
namespace VL
open PySem L2
def lcDE (vs : List Nat) (γ : D → Env → Option Env) (κ : Env → Res D) (τ : Env → Res Bool) (φ : Env → Res D) (env : Env) : Res D := match (κ env).bind keysD with
  | .ok ds => lcE vs γ (fun _ => .ok ds) τ φ env
  | _ => .bad
section
variable {X : Cx} {W : WX} {tg elt iter : Expr} {ifs : List Expr} {scope : Scope} {own : List (Str × Nat)} {pos : Pos} {γ : D → Env → Option Env} {τ : Env → Res Bool} {φ κ : Env → Res D}
theorem vf_lcD (hc : X.calm = true) (hN : X.N.Nodup) (hd : VD X iter κ) (ok : BlkOk X.N X.env.scope scope own)
    (hg : ∀ (s : Shared) (H : Hp) (C : Addr) (cl : List (Str × Addr)) (fp : List Addr), VGc (own.map (·.2)) (X.blk s H scope (compEnvC scope cl C X.env) fp) tg γ)
    (ht : ∀ (s : Shared) (H : Hp) (C : Addr) (cl : List (Str × Addr)) (fp : List Addr), VTs (X.blk s H scope (compEnvC scope cl C X.env) fp) W0 ifs τ)
    (he : ∀ (s : Shared) (H : Hp) (C : Addr) (cl : List (Str × Addr)) (fp : List Addr), VE (X.blk s H scope (compEnvC scope cl C X.env) fp) W0 true elt φ)
    (hs : ∀ y, foldedSetIterable iter X.env y = pure y := by intro _; rfl) : VF X W (.ListComp elt [⟨tg, iter, ifs, 0⟩] scope pos) (lcDE (own.map (·.2)) γ κ τ φ) := by
  obtain ⟨pg, pt, pe⟩ := lc_parts hg ht he
  obtain ⟨td, pd, rd⟩ := hd
  have core := pe_lc (pos := pos) hc hN (pi_keys (tg := tg) pd) ok pg pt pe hs
  refine ⟨_, pe_or (pe_lock core) core, fun H0 M0 M H σ env Q g h => ?_⟩
  unfold lcDE at h
  cases q : κ env with
  | bad => rw [q] at h; exact h.elim
  | exc c fs => rw [q] at h; exact h.elim
  | ok d =>
    rw [q] at h
    have hi : isD01 d = true := by
      cases d with
      | dic t es =>
        match t, h with
        | 0, _ => rfl
        | 1, _ => rfl
        | (_ + 2), h => exact h.elim
      | _ => exact h.elim
    obtain ⟨a, ra, run⟩ := rd H0 M0 M H σ env d g q hi
    obtain ⟨u, ks, hu, hv, hm, hk, okk⟩ : ∃ (u : HO) (ks : List VL.D), lockO u = true ∧ (H a = some u ∨ ∃ o, H a = some (.frz o u)) ∧ M a = false ∧ keysD d = .ok ks ∧
        ∀ (o : Obj) (H0' H1 : Hp), H0' a = some (.frz o u) → (∃ kvs, u = .dK kvs ∧ ItOk (gm X) H0' M H1 (Itk a o kvs) ks) ∨ ∃ kvs, u = .dT kvs ∧ ItOk (gm X) H0' M H1 (Itkt a o kvs) ks := by
      have two : (∃ es, d = .dic 0 es) ∨ ∃ es, d = .dic 1 es := by
        cases d with
        | dic t es =>
          match t, hi with
          | 0, _ => exact .inl ⟨es, rfl⟩
          | 1, _ => exact .inr ⟨es, rfl⟩
        | _ => cases hi
      rcases two with ⟨es, rfl⟩ | ⟨es, rfl⟩
      · cases ra with
        | @dicK _ kvs _ ha e r =>
          obtain ⟨hm, hv⟩ := Sh_some ha
          exact ⟨.dK kvs, _, rfl, vw_dK hv, hm, rfl, fun o H0' H1 z0 => .inl ⟨kvs, rfl, itOk_keys z0 e⟩⟩
      · cases ra with
        | @dicT _ kvs _ ha e r =>
          obtain ⟨hm, hv⟩ := Sh_some ha
          exact ⟨.dT kvs, _, rfl, vw_dT hv, hm, rfl, fun o H0' H1 z0 => .inr ⟨kvs, rfl, itOk_keysT z0 e⟩⟩
    have h1 : PostN X W M σ H Q (lcE (own.map (·.2)) γ (fun _ => .ok ks) τ φ env) := by
      rw [show (Res.ok d).bind keysD = .ok ks from hk] at h
      exact h
    have keys : ∀ (o : Obj) (H0' H1 : Hp), H0' a = some (.frz o u) → H1 a = some (.frz o u) → vw H1 = vw H → ∀ R : It → Hp → Prop, PostI X W H0' M σ H1 R (.ok ks) → iKeys td σ H1 R := fun o H0' H1 z0 z1 ev R hR => by
      refine run H1 _ ev ⟨a, o, rfl, ?_⟩
      rcases okk o H0' H1 z0 with ⟨kvs, rfl, okJ⟩ | ⟨kvs, rfl, okJ⟩
      · exact .inl ⟨kvs, z1, hR _ H1 (Ext.refl _) okJ⟩
      · exact .inr ⟨kvs, z1, hR _ H1 (Ext.refl _) okJ⟩
    rcases hv with hv | ⟨o, hv⟩
    · refine .inl ⟨a, u, hv, ?_, fun od => ?_⟩
      · cases u <;> first | trivial | cases hu
      have gl := good_lockS (o := od) g hm hv hu
      refine lc_read (X := X) (W := W) (wi := iKeys td) (ι := fun _ => .ok ks) (own.map fun z : Str × Nat => z.2) (keys od _ _ upd_same upd_same (vw_lock hv hu)) gl ?_
      cases z : lcE (own.map (·.2)) γ (fun _ => .ok ks) τ φ env with
      | bad => rw [z] at h1; exact h1
      | exc c fs => exact absurd z (compL_not _ _)
      | ok d2 =>
        rw [z] at h1
        intro p' H' hp e' o2
        have hne : p' ≠ a := fun y => by rw [y, upd_same] at hp; cases hp
        have hd := e' a _ upd_same
        refine ⟨hd, h1 p' _ (by rw [upd_ne hne] at hp; exact hp) (fun b w hb => ?_) (o2.imp (by rw [vw_unlock hd hu]; exact .refl _) fun w hw => by rw [upd_ne hne]; exact hw)⟩
        by_cases e : b = a
        · subst e; rw [upd_same]; rw [hv] at hb; exact hb
        · rw [upd_ne e]; exact e' b w (by rw [upd_ne e]; exact hb)
    · refine .inr ?_
      exact lc_read (X := X) (W := W) (wi := iKeys td) (ι := fun _ => .ok ks) (own.map fun z : Str × Nat => z.2) (keys o (upd H0 a (.frz o u)) H upd_same hv rfl) (good_up g hm hv) h1
end
def putG : List (Str × D) → Str → D → List (Str × D)
  | [], f, d => [(f, d)]
  | (g, x) :: r, f, d => if g = f then (g, d) :: r else (g, x) :: putG r f d
theorem putG_keys {gs : List (Str × D)} {fs : List (Str × V)} {f : Str} {d : D} {v : V} (h : gs.map (·.1) = fs.map (·.1)) : (putG gs f d).map (·.1) = (putF f v fs).map (·.1) := by
  induction gs generalizing fs with
  | nil =>
    cases fs with
    | nil => rfl
    | cons _ _ => cases h
  | cons g gs ih =>
    cases fs with
    | nil => cases h
    | cons x fs =>
      rw [List.map_cons, List.map_cons] at h
      obtain ⟨h1, h2⟩ := List.cons.inj h
      show (if g.1 = f then (g.1, d) :: gs else (g.1, g.2) :: putG gs f d).map (·.1) = (if x.1 = f then (x.1, v) :: fs else (x.1, x.2) :: putF f v fs).map (·.1)
      rw [h1]
      by_cases c : x.1 = f
      · rw [if_pos c, if_pos c, List.map_cons, List.map_cons, h2]
      · rw [if_neg c, if_neg c, List.map_cons, List.map_cons, ih h2]
theorem putG_vals {mg : Gm} {G : Vw} {gs : List (Str × D)} {fs : List (Str × V)} {f : Str} {d : D} {v : V} (h : gs.map (·.1) = fs.map (·.1)) (r : RpL mg G (gs.map (·.2)) (fs.map (·.2))) (rv : Rp mg G d v) : RpL mg G ((putG gs f d).map (·.2)) ((putF f v fs).map (·.2)) := by
  induction gs generalizing fs with
  | nil =>
    cases fs with
    | nil => exact .cons rv .nil
    | cons _ _ => cases h
  | cons g gs ih =>
    cases fs with
    | nil => cases h
    | cons x fs =>
      rw [List.map_cons, List.map_cons] at h
      obtain ⟨h1, h2⟩ := List.cons.inj h
      have r' : RpL mg G (g.2 :: gs.map (·.2)) (x.2 :: fs.map (·.2)) := r
      cases r' with
      | cons r1 r2 =>
        show RpL mg G ((if g.1 = f then (g.1, d) :: gs else (g.1, g.2) :: putG gs f d).map (·.2)) ((if x.1 = f then (x.1, v) :: fs else (x.1, x.2) :: putF f v fs).map (·.2))
        rw [h1]
        by_cases c : x.1 = f
        · rw [if_pos c, if_pos c]; exact .cons rv r2
        · rw [if_neg c, if_neg c]; exact .cons r1 (ih h2 r2)
theorem fld_rel {mg : Gm} {G : Vw} {f : Str} {d : D} : ∀ {gs : List (Str × D)} {fs : List (Str × V)}, gs.map (·.1) = fs.map (·.1) → RpL mg G (gs.map (·.2)) (fs.map (·.2)) → gs.lookup f = some d → ∃ v, fs.lookup f = some v ∧ Rp mg G d v
  | [], _, _, _, h => by cases h
  | _ :: _, [], e, _, _ => by cases e
  | g :: gs, x :: fs, e, r, h => by
    rw [List.map_cons, List.map_cons] at e
    obtain ⟨e1, e2⟩ := List.cons.inj e
    have r' : RpL mg G (g.2 :: gs.map (·.2)) (x.2 :: fs.map (·.2)) := r
    obtain ⟨gn, gd⟩ := g
    obtain ⟨xn, xv⟩ := x
    have e1' : gn = xn := e1
    subst e1'
    cases r' with
    | cons r1 r2 =>
      rw [List.lookup_cons] at h ⊢
      cases c : f == gn with
      | true =>
        rw [c] at h
        cases h
        exact ⟨xv, rfl, r1⟩
      | false =>
        rw [c] at h
        exact fld_rel e2 r2 h
theorem fld_none {f : Str} : ∀ {gs : List (Str × D)} {fs : List (Str × V)}, gs.map (·.1) = fs.map (·.1) → (gs.lookup f).isNone = true → fs.lookup f = none
  | [], [], _, _ => rfl
  | [], _ :: _, e, _ => by cases e
  | _ :: _, [], e, _ => by cases e
  | g :: gs, x :: fs, e, h => by
    rw [List.map_cons, List.map_cons] at e
    obtain ⟨e1, e2⟩ := List.cons.inj e
    obtain ⟨gn, gd⟩ := g
    obtain ⟨xn, xv⟩ := x
    have e1' : gn = xn := e1
    subst e1'
    rw [List.lookup_cons] at h ⊢
    cases c : f == gn with
    | true => rw [c] at h; cases h
    | false =>
      rw [c] at h
      exact fld_none e2 h
structure ClsOk (K : PySem.W.Frag) (mg : Str → Option Value) (c : Str) (fs : List Str) : Prop where
  ex : ∃ C, mg c = some (.ref C) ∧ Cls K C ∧ ∀ f, fs.contains f = true → NoAttr K C f
def fldI (c f : Str) : D → Res D
  | .ins c' gs => if c' = c then (match gs.lookup f with | some d => .ok d | none => .bad) else .bad
  | _ => .bad
def fldIE (c f : Str) (φ : Env → Res D) (env : Env) : Res D := (φ env).bind (fldI c f)
section
variable {X : Cx} {W : WX} {fl : Bool} {e value : Expr} {pos pos' : Pos} {φ : Env → Res D} {c f : Str} {fs : List Str}
theorem fldI_ins {gs : List (Str × D)} : fldI c f (.ins c gs) = match gs.lookup f with | some d => .ok d | none => .bad := if_pos rfl
theorem ins_of {mg : Gm} {G : Vw} {d : D} {v : V} {c : Str} {gs : List (Str × D)} (ed : d = .ins c gs) (r : Rp mg G d v) : ∃ (a C dx : Addr) (fs : List (Str × V)), v = .ref a ∧ mg.mg c = some (.ref C) ∧ G a = some (.ins C dx fs) ∧ gs.map (·.1) = fs.map (·.1) ∧ RpL mg G (gs.map (·.2)) (fs.map (·.2)) := by
  subst ed
  cases r with
  | ins h1 h2 h3 h4 => exact ⟨_, _, _, _, rfl, h1, h2, h3, h4⟩
theorem ve_fld (hC : ClsOk X.K X.mg c fs) (he : VE X W fl e φ) (hf : fs.contains f = true := by decide) (hb : attributeBase e f X.env (eval e X.env) = eval e X.env := by rfl) : VE X W fl (.Attribute e f pos) (fldIE c f φ) := by
  obtain ⟨t, pt, r⟩ := he
  obtain ⟨C, hm, hc, hn⟩ := hC.ex
  refine ⟨_, pe_fld pt hb, fun H0 M0 M H σ env Q g h => ?_⟩
  refine r H0 M0 M H σ env _ g (PostE.seq h fun d v H1 e1 r1 h1 => ?_)
  cases d with
  | ins c' gs =>
    obtain ⟨ec, h2⟩ := PostE.ite (c := c' = c) (r := match gs.lookup f with | some d => .ok d | none => .bad) h1
    subst ec
    cases q : gs.lookup f with
    | none => rw [q] at h2; exact h2.elim
    | some d =>
      rw [q] at h2
      obtain ⟨a, C', dx, vs, rfl, z1, z2, z3, z4⟩ := ins_of rfl r1
      have z1' : X.mg c' = some (.ref C') := z1
      rw [hm] at z1'
      cases z1'
      obtain ⟨v, q1, rv⟩ := fld_rel z3 z4 q
      exact ⟨a, C, dx, vs, v, rfl, vw_ins (vis_get z2), hc, hn f hf, q1, h2 v H1 (Ext.refl _) rv⟩
  | _ => exact h1.elim
def rSetf (i : Nat) (c f : Str) (s : Option Sl) (r : Res D) (env : Env) : SRes := match s with
  | some (.ow (.sel x c' gs)) => ofE r env fun d => if c' = c ∧ gs.length < 100 then .nx (env.set i (.ow (.sel x c (putG gs f d)))) else .bad
  | _ => .bad
def setfS (i : Nat) (c f : Str) (φ : Env → Res D) (env : Env) : SRes := rSetf i c f env[i]? (φ env) env
theorem rSetf_ok {i : Nat} {x : Addr} {gs : List (Str × D)} {d : D} {env : Env} : rSetf i c f (some (.ow (.sel x c gs))) (.ok d) env = if gs.length < 100 then .nx (env.set i (.ow (.sel x c (putG gs f d)))) else .bad := by
  show (if c = c ∧ gs.length < 100 then _ else _) = _
  by_cases h : gs.length < 100
  · rw [if_pos ⟨rfl, h⟩, if_pos h]
  · rw [if_neg (fun z => h z.2), if_neg h]
theorem vs_setf (i : Nat) {x : Str} {px : Pos} (hC : ClsOk X.K X.mg c fs) (hv : VE X W true value φ) (hf : fs.contains f = true := by decide) (hN : X.N[i]? = some x := by rfl) (hvi : Vis X.env.scope x := by first | exact Or.inl rfl | exact Or.inr (Or.inl rfl) | exact Or.inr (Or.inr rfl))
    (hd : (x == ("__debug__" : Str)) = false := by decide) (hcd : (x == ("__classdict__" : Str)) = false := by decide)
    (hs : swapsWith value (some (.Attribute (.Name x px) f pos')) pos.line X.env = pure false := by rfl) : VS X W (.Assign [.Attribute (.Name x px) f pos'] value pos) (setfS i c f φ) := by
  obtain ⟨t, pt, r⟩ := hv
  obtain ⟨C, hm, hc, hn⟩ := hC.ex
  refine ⟨_, ps_fld (pe_var hN hvi hd hcd) pt hs, fun H0 M0 M H σ env D g h => ?_⟩
  unfold setfS rSetf at h
  cases q : env[i]? with
  | none => rw [q] at h; exact h.elim
  | some s =>
    rw [q] at h
    cases s with
    | no => exact h.elim
    | sh d => exact h.elim
    | ow dd =>
      cases dd with
      | sel x' c' gs =>
        refine r H0 M0 M H σ env _ g (PostS.ofE g h fun d v H1 e1 g1 r1 h1 => ?_)
        obtain ⟨⟨ec, hl⟩, h2⟩ := PostS.ite h1
        subst ec
        obtain ⟨p, hv', mp, m0, ep, C', dx, vs, y1, y2, y3, y4⟩ := g1.sl i _ q
        have y1' : X.mg c' = some (.ref C') := y1
        rw [hm] at y1'
        cases y1'
        have hlen : vs.length < 1000 := by
          have := congrArg List.length y3
          rw [List.length_map, List.length_map] at this
          omega
        refine ⟨_, hv', p, C, dx, vs, rfl, y2, hc, hn f hf, hlen, ?_⟩
        have rr : OwOk (gm X) M (upd H1 p (.ins C dx (putF f v vs))) p (.sel x' c' (putG gs f d)) := ⟨ep, C, dx, _, hm, upd_same, putG_keys y3, by rw [sh_mut mp]; exact putG_vals y3 y4 r1⟩
        exact h2 M _ σ (g1.mut q hv' rr) (by rw [sh_mut mp]; exact .refl _)
      | _ => exact h.elim
end
end VL

set_option maxRecDepth 100000
set_option maxHeartbeats 2000000
set_option autoImplicit false
namespace VL
open PySem L2
section
variable {X : Cx} {CX : CXT} {k : Nat} {C f : Addr} {fd : FuncData} {ps : List Str} {sp : Sp} {x m : Str} {p pos apos : Pos} {o e : Expr} {es : List Expr} {ta : TE} {t : TA} {E : L2.St → XK}
def tMeS (C : Addr) (m : Str) (sp : Sp) (E : L2.St → XK) (ta : TE) (t : TA) : TE := fun σ H Q => ta σ H fun x H1 => ∃ a dx fs, x = .ref a ∧ H1 a = some (.ins C dx fs) ∧ fs.lookup m = none ∧ t σ H1 fun vs H2 => sp (x :: vs) H2 Q (E σ)
theorem pe_meS {pl : Sem Bool} (pa : PE X o ta) (cl : Cls X.K C) (me : Meth X.K C m f) (F : FnOk X.prog X.w X.K X.mg X.base CX k f fd ps sp) (hr : Room k X.A) (hb : Binds X.K fd ps []) (hx : ∀ σ, PassesAt CX X σ (E σ)) (pt : PA X (e :: es) t)
    (h1 : starEach (e :: es) X.env = (false, eval e X.env) :: starEach es X.env := by rfl) (h2 : (backTo pos (starEach es X.env)).any (·.1) = false := by rfl)
    (h3 : eval (.Call (.Attribute o m apos) (e :: es) [] pos) X.env = (do let ov ← eval o X.env; standAt apos.atName; let (f, first) ← holding [ov] (getMethod ov m pl); callWith pos f first (backTo pos (starEach (e :: es) X.env)) (backToKw pos (keywordEach [] X.env))) := by rfl) :
    PE X (.Call (.Attribute o m apos) (e :: es) [] pos) (tMeS C m sp E ta t) where
  run := fun pins s σ H Q I h => by
    have one := pa.run pins s σ H _ I h
    refine PySem.W.methodCall_KW (pl := pl)
      (thn one fun u s1 z => ?_) h3
    obtain ⟨y, H1, I1, ry, a, dx, fs, rfl, ea, l, q⟩ := z
    obtain rfl : u = Value.ref a := ry
    refine getmeth_ok I1 ea cl me l ?_
    have two := pt.run pos pins s1 σ H1 _ I1 q
    refine PySem.W.callWith_K (first := [.ref a])
      (h₀ := X.base) I.ok.mod.kin me.kp
      (thn two fun us s2 z => ?_) h1 h2
    obtain ⟨vs, H2, I2, r, q2⟩ := z
    exact ⟨I2.kIn, run_fnS (us := .ref a :: us) (vs := .ref a :: vs) F hr hb (hx σ) I2 (.cons rfl r) q2⟩
theorem run_mkS {pins : List (Addr × Obj)} {σ : L2.St} {H : Hp} {s : Shared} {Q : VK} {us : List Value} {vs : List V} {E : XK} (mk : Mk X.K C f) (F : FnOk X.prog X.w X.K X.mg X.base CX k f fd ps sp) (hr : Room (k + 1) X.A) (hb : Binds X.K fd ps [])
    (hx : PassesAt CX X σ E) (I : Inv X pins σ H s) (r : Vals vs us) (h : ∀ x dx, H x = none → H dx = none → dx ≠ x → sp (.ref x :: vs) (upd (upd H dx (.own x)) x (.ins C dx [])) (fun v H2 => v = .non ∧ Q (.ref x) H2) E) :
    wpAny (model X.prog X.w) X.A (call (.ref C) us) (EP X pins σ Q) X.xe s := by
  have q0 := h (s.heap.objs.size + 1) s.heap.objs.size (I.hok.fresh (Nat.le_succ _))
    (I.hok.fresh (Nat.le_refl _)) (Nat.ne_of_lt (Nat.lt_succ_self _))
  have J := Inv.made (C := C) I
  have rr : Vals (V.ref (s.heap.objs.size + 1) :: vs) (Value.ref (s.heap.objs.size + 1) :: us) := .cons rfl r
  have hl : (Value.ref (s.heap.objs.size + 1) :: us).length = ps.length := by
    rw [← rr.length]
    exact F.len _ _ _ _ q0
  have bd := hb _ (Value.ref (s.heap.objs.size + 1) :: us) J.kIn (by rw [List.append_nil]; exact hl)
  rw [List.append_nil] at bd
  have body := F.run _ X.stack _ _ ⟨Value.ref (s.heap.objs.size + 1) :: us, []⟩ (Value.ref (s.heap.objs.size + 1) :: us) _ _ E (hr.make C us []) (J.env0.make C us []) bd rr q0
  refine wpAny_call (make_map (f := f) I.kIn mk.makes mk.init
    (beq_iff_eq.mp mk.fn) (codeAny_mono body fun r s' z => ?_))
  cases r with
  | error e =>
    exact hx pins _ _ e s' J z
  | ok fl =>
    cases fl with
    | next => exact z.elim
    | brk => exact z.elim
    | cont => exact z.elim
    | ret u =>
      obtain ⟨v, H', I3, rv, rfl, q3⟩ := J.after z
      exact ⟨rv, V.ref (s.heap.objs.size + 1), H', I3, rfl, q3⟩
def tMkS (C : Addr) (sp : Sp) (E : L2.St → XK) (t : TA) : TE := fun σ H Q => t σ H fun vs H1 => ∀ x dx, H1 x = none → H1 dx = none → dx ≠ x → sp (.ref x :: vs) (upd (upd H1 dx (.own x)) x (.ins C dx [])) (fun v H2 => v = .non ∧ Q (.ref x) H2) (E σ)
theorem pe_mkS (mk : Mk X.K C f) (F : FnOk X.prog X.w X.K X.mg X.base CX k f fd ps sp) (hr : Room (k + 1) X.A) (hg : Gl X x) (hm : X.mg x = some (.ref C)) (hb : Binds X.K fd ps []) (hx : ∀ σ, PassesAt CX X σ (E σ)) (pt : PA X (e :: es) t)
    (hdb : (x == ("__debug__" : Str)) = false := by decide) (h1 : starEach (e :: es) X.env = (false, eval e X.env) :: starEach es X.env := by rfl) (h2 : (backTo pos (starEach es X.env)).any (·.1) = false := by rfl) :
    PE X (.Call (.Name x p) (e :: es) [] pos) (tMkS C sp E t) where
  run := fun pins s σ H Q I h => by
    refine wpAny_Call_Name_kw (ld_glob I hg hm ?_ hdb)
    have two := pt.run pos pins s σ H _ I h
    refine PySem.W.callWith_K (h₀ := X.base)
      I.ok.mod.kin mk.kp (thn two fun us s1 z => ?_) h1 h2
    obtain ⟨vs, H1, I1, r, q⟩ := z
    exact ⟨I1.kIn, run_mkS mk F hr hb (hx σ) I1 r q⟩
end
structure MethOk (P : Program) (w : World) (K : PySem.W.Frag) (mg : Str → Option Value) (base : Heap) (c m : Str) (k : Nat) (ps : List Str) (n : Nat) (F : List D → Res D) : Prop where
  ex : ∃ (C f : Addr) (fd : FuncData), mg c = some (.ref C) ∧ Cls K C ∧ Meth K C m f ∧ Binds K fd ps [] ∧ FnOk P w K mg base (L2N.CX P w) k f fd ps (spV ⟨P, w, K, mg⟩ n F)
structure RawM (K : PySem.W.Frag) (mg : Str → Option Value) (c m qual : Str) (st : Stmt) (ps : List Str) : Prop where
  ex : ∃ (C f : Addr) (fd : FuncData), mg c = some (.ref C) ∧ Cls K C ∧ Meth K C m f ∧ Fun K m qual st f fd ∧ Binds K fd ps []
section
variable {P : Program} {w : World} {K : PySem.W.Frag} {mg : Str → Option Value} {base : Heap} {c m x qual : Str} {st : Stmt} {N ps : List Str} {k n : Nat} {ψ : Env → SRes} {F G : List D → Res D}
theorem meth_v (N : List Str) (ψ : Env → SRes) (R : RawM K mg c m qual st ps) (S : FnScope N ps (defScope st)) (hn : ps.length = n) (hF : F = defM N.length ψ)
    (body : ∀ (f : Addr) (cdv : Value) (A : Around) (outer : List PySem.Env) (s : Shared) (H : Hp) (E : XK), Room k (A.deeper (PyProof.Rows.envOfC qual (defScope st) s.heap.objs.size f cdv)) →
      L2N.Takes (cxOf (L2N.CX P w) P w K mg base N qual (defScope st) f cdv A outer s H E) (WB E) →
      PassesOwn (model P w) (A.deeper (PyProof.Rows.envOfC qual (defScope st) s.heap.objs.size f cdv)) (PyProof.Rows.envOfC qual (defScope st) s.heap.objs.size f cdv) (cxOf (L2N.CX P w) P w K mg base N qual (defScope st) f cdv A outer s H E).xe →
      VB (cxOf (L2N.CX P w) P w K mg base N qual (defScope st) f cdv A outer s H E) (WB E) (defBody st) ψ) :
    MethOk P w K mg base c m (k + 1) ps n F := by
  subst hF
  obtain ⟨C, f, fd, h1, h2, h3, h4, h5⟩ := R.ex
  exact ⟨C, f, fd, h1, h2, h3, h5, fn_v h4 S hn (body f)⟩
end
def isIns (c m : Str) : D → Bool
  | .ins c' gs => decide (c' = c) && (gs.lookup m).isNone
  | _ => false
def methE (c m : Str) (F : List D → Res D) (φ : Env → Res D) (φs : Env → Res (List D)) (env : Env) : Res D := (φ env).bind fun d => if isIns c m d = true then (φs env).bind fun ds => F (d :: ds) else .bad
section
variable {X : Cx} {W : WX} {fl : Bool} {o e : Expr} {es : List Expr} {pos apos : Pos} {φ : Env → Res D} {φs : Env → Res (List D)} {c m : Str} {k n : Nat} {ps : List Str} {F : List D → Res D}
theorem ins_at {mg : Gm} {G : Vw} {d : D} {v : V} (h : isIns c m d = true) (r : Rp mg G d v) : ∃ (a C dx : Addr) (fs : List (Str × V)), v = .ref a ∧ mg.mg c = some (.ref C) ∧ G a = some (.ins C dx fs) ∧ fs.lookup m = none := by
  cases d with
  | ins c' gs =>
    obtain ⟨h1, h2⟩ := Bool.and_eq_true_iff.mp (show (decide (c' = c) && (gs.lookup m).isNone) = true from h)
    have ec := of_decide_eq_true h1
    subst ec
    obtain ⟨a, C, dx, fs, z1, z2, z3, z4, z5⟩ := ins_of rfl r
    exact ⟨a, C, dx, fs, z1, z2, z3, fld_none z4 h2⟩
  | _ => cases h
theorem ve_meth {pl : Sem Bool} (hM : MethOk X.prog X.w X.K X.mg X.base c m k ps n F) (tk : L2N.Takes X W) (hr : Room k X.A) (ho : VE X W true o φ) (ha : VA X W true (e :: es) φs) (hn : (e :: es).length + 1 = n) (hl : ∀ env ds, φs env = .ok ds → ds.length + 1 = n)
    (h1 : starEach (e :: es) X.env = (false, eval e X.env) :: starEach es X.env := by rfl) (h2 : (backTo pos (starEach es X.env)).any (·.1) = false := by rfl)
    (h3 : eval (.Call (.Attribute o m apos) (e :: es) [] pos) X.env = (do let ov ← eval o X.env; standAt apos.atName; let (f, first) ← holding [ov] (getMethod ov m pl); callWith pos f first (backTo pos (starEach (e :: es) X.env)) (backToKw pos (keywordEach [] X.env))) := by rfl) :
    VE X W fl (.Call (.Attribute o m apos) (e :: es) [] pos) (methE c m F φ φs) := by
  obtain ⟨to, po, ro⟩ := ho
  obtain ⟨t, pt, r⟩ := ha
  obtain ⟨C, f, fd, x1, x2, x3, x4, x5⟩ := hM.ex
  refine ⟨_, pe_meS po x2 x3 x5 hr x4 (fun σ => L2N.passAt tk σ) pt h1 h2 h3, fun H0 M0 M H σ env Q g h => ?_⟩
  have h0 : PostE X W fl M σ H Q ((φ env).bind fun d => if isIns c m d = true then (φs env).bind fun ds => F (d :: ds) else .bad) := h
  refine ro H0 M0 M H σ env _ g (PostE.seq h0 fun d v H1 e1 r1 g1 => ?_)
  obtain ⟨hi, g1⟩ := PostE.ite g1
  obtain ⟨a, C', dx, fs, rfl, y1, y2, y3⟩ := ins_at hi r1
  have y1' : X.mg c = some (.ref C') := y1
  rw [x1] at y1'
  cases y1'
  refine ⟨a, dx, fs, rfl, vw_ins (Sh_some y2).2, y3, ?_⟩
  refine r H0 M0 M H1 σ env _ (g.mono e1) ?_
  cases q : φs env with
  | ok ds =>
    rw [q] at g1
    intro vs H2 e2 r2
    refine ⟨?_, M, d :: ds, (g.ok.mono e1).mono e2, .cons (r1.mono (Sh_mono e2.v)) r2, ?_⟩
    · rw [List.length_cons, ← r2.length]
      exact hl env ds q
    · have g2 : PostE X W fl M σ H2 Q (F (d :: ds)) := PostE.mono g1 e2
      cases z : F (d :: ds) with
      | ok d => rw [z] at g2; exact fun v H3 e3 r3 => g2 v H3 e3 (r3.mono (Sh_vis fl M _))
      | exc c fs => rw [z] at g2; exact g2
      | bad => rw [z] at g2; exact g2
  | exc c fs => rw [q] at g1; exact g1
  | bad => rw [q] at g1; exact g1
end
def PostK (mg : Gm) (M : Addr → Bool) (H : Hp) (x : Addr) (Q : VK) (E : XK) : Res D → Prop
  | .ok (.ins c gs) => ∀ (H' : Hp) (C dx : Addr) (fs : List (Str × V)), mg.mg c = some (.ref C) → Ext H H' → H' x = some (.ins C dx fs) → gs.map (·.1) = fs.map (·.1) → RpL mg (Sh M (vw H')) (gs.map (·.2)) (fs.map (·.2)) → Q .non H'
  | .exc c fs => ∀ cls dd H', Ext H H' → RpX mg (Sh M (vw H')) c fs cls dd → E cls dd H'
  | _ => False
def spI (mg : Gm) (c : Str) (n : Nat) (F : Addr → List D → Res D) : Sp := fun vs H1 Q E => ∃ (x C dx : Addr) (vs' : List V) (H : Hp) (M : Addr → Bool) (ds : List D), vs = .ref x :: vs' ∧ vs'.length + 1 = n ∧ mg.mg c = some (.ref C) ∧ H x = none ∧ H dx = none ∧ dx ≠ x ∧
  H1 = upd (upd H dx (.own x)) x (.ins C dx []) ∧ MOk M H ∧ RpL mg (Sh M (vw H)) ds vs' ∧ PostK mg M H x Q E (F x ds)
def outI0 (x : Addr) : Option Sl → Res D
  | some (.ow (.sel x' c gs)) => if x' = x then .ok (.ins c gs) else .bad
  | _ => .bad
def outK (x : Addr) : SRes → Res D
  | .nx env => outI0 x env[0]?
  | .xc c fs _ => .exc c fs
  | _ => .bad
def envI (x : Addr) (c : Str) (m : Nat) (ds : List D) : Env := .ow (.sel x c []) :: env0 (m - 1) ds
def defK (c : Str) (m : Nat) (ψ : Env → SRes) (x : Addr) (ds : List D) : Res D := outK x (ψ (envI x c m ds))
theorem goodI {mg : Gm} {H : Hp} {M : Addr → Bool} {ds : List D} {vs : List V} {c y : Str} {N : List Str} {x C dx : Addr} (m : MOk M H) (r : RpL mg (Sh M (vw H)) ds vs) (hx : H x = none) (hdx : H dx = none) (ne : dx ≠ x) (hc : mg.mg c = some (.ref C)) :
    Good mg H M (addM M x) (upd (upd H dx (.own x)) x (.ins C dx [])) (L2.start (y :: N) (.ref x :: vs)) (envI x c (y :: N).length ds) := by
  have mx : M x = false := by
    cases q : M x with
    | false => rfl
    | true => obtain ⟨o, z⟩ := m.dom x q; rw [hx] at z; cases z
  have mdx : M dx = false := by
    cases q : M dx with
    | false => rfl
    | true => obtain ⟨o, z⟩ := m.dom dx q; rw [hdx] at z; cases z
  have e1 : Ext H (upd (upd H dx (.own x)) x (.ins C dx [])) := fun a o h => by
    rw [upd_ne (fun e => by rw [e, hx] at h; cases h), upd_ne (fun e => by rw [e, hdx] at h; cases h)]
    exact h
  have vx : VEx (Sh M (vw H)) (Sh (addM M x) (vw (upd (upd H dx (.own x)) x (.ins C dx [])))) := fun a u h => by
    obtain ⟨h1, h2⟩ := Sh_some h
    have hne : a ≠ x := fun e => by
      subst e
      have : H a = none := hx
      unfold vw at h2
      rw [this] at h2
      cases h2
    rw [Sh_of (by rw [addM_ne hne]; exact h1)]
    exact e1.v a u h2
  have g0 := good0 (N := N) m r
  have hst : L2.start (y :: N) (.ref x :: vs) = List.cons (some (V.ref x)) (L2.start N vs) := by
    unfold L2.start
    simp
  rw [hst]
  have hlen : (y :: N).length - 1 = N.length := rfl
  unfold envI
  rw [hlen]
  exact {
    len := by rw [List.length_cons, List.length_cons, g0.len]
    ok := {
      dom := fun a h => by
        by_cases e : a = x
        · subst e; exact ⟨_, upd_same⟩
        · rw [addM_ne e] at h
          obtain ⟨o, q⟩ := m.dom a h
          exact ⟨o, e1 a o q⟩
      tup := fun a xs h => by
        by_cases e : a = x
        · subst e; rw [upd_same]; exact fun z => nomatch z
        · rw [addM_ne e] at h
          rw [upd_ne e, upd_ne (fun z => by rw [z, mdx] at h; cases h)]
          exact m.tup a xs h
      xd := fun a xs h => by
        by_cases e : a = x
        · subst e; rw [upd_same]; exact fun z => nomatch z
        · rw [addM_ne e] at h
          rw [upd_ne e, upd_ne (fun z => by rw [z, mdx] at h; cases h)]
          exact m.xd a xs h }
    sub := fun a h => by
      by_cases e : a = x
      · subst e; exact addM_self
      · rw [addM_ne e]; exact h
    new := fun a h => by
      by_cases e : a = x
      · subst e; exact .inr hx
      · rw [addM_ne e] at h; exact .inl h
    ok0 := m
    ex := e1
    sl := fun i s h => by
      cases i with
      | zero =>
        cases h
        exact ⟨x, rfl, addM_self, mx, rfl, C, dx, [], hc, upd_same, rfl, .nil⟩
      | succ i =>
        rw [gs_] at h ⊢
        have z := g0.sl i s h
        cases s with
        | no => trivial
        | sh d => obtain ⟨v, q1, q2⟩ := z; exact ⟨v, q1, q2.mono vx⟩
        | ow d =>
          obtain ⟨p, _, q2, q3, _⟩ := z
          rw [q2] at q3; cases q3
    inj := fun i j p ne' h1 h2 h3 h4 => by
      have no : ∀ i : Nat, isOw (env0 N.length ds)[i]? = true → False := fun i h => by
        cases q : (env0 N.length ds)[i]? with
        | none => rw [q] at h; cases h
        | some s =>
          cases s with
          | ow d =>
            obtain ⟨p, _, q2, q3, _⟩ := g0.sl i _ q
            rw [q2] at q3; cases q3
          | _ => rw [q] at h; cases h
      cases i with
      | zero =>
        cases j with
        | zero => exact ne' rfl
        | succ j => exact no j h2
      | succ i => exact no i h1 }
structure InitOk (P : Program) (w : World) (K : PySem.W.Frag) (mg : Str → Option Value) (base : Heap) (c : Str) (k : Nat) (ps : List Str) (n : Nat) (F : Addr → List D → Res D) : Prop where
  ex : ∃ (C f : Addr) (fd : FuncData), mg c = some (.ref C) ∧ Mk K C f ∧ Binds K fd ps [] ∧ FnOk P w K mg base (L2N.CX P w) k f fd ps (spI ⟨P, w, K, mg⟩ c n F)
structure RawK (K : PySem.W.Frag) (mg : Str → Option Value) (c qual : Str) (st : Stmt) (ps : List Str) : Prop where
  ex : ∃ (C f : Addr) (fd : FuncData), mg c = some (.ref C) ∧ Mk K C f ∧ Fun K "__init__" qual st f fd ∧ Binds K fd ps []
section
variable {P : Program} {w : World} {K : PySem.W.Frag} {mg : Str → Option Value} {base : Heap} {c qual y : Str} {st : Stmt} {N ps : List Str} {k n : Nat} {ψ : Env → SRes} {F : Addr → List D → Res D}
theorem init_v (y : Str) (N : List Str) (ψ : Env → SRes) (R : RawK K mg c qual st ps) (S : FnScope (y :: N) ps (defScope st)) (hn : ps.length = n) (hF : F = defK c (y :: N).length ψ)
    (body : ∀ (f : Addr) (cdv : Value) (A : Around) (outer : List PySem.Env) (s : Shared) (H : Hp) (E : XK), Room k (A.deeper (PyProof.Rows.envOfC qual (defScope st) s.heap.objs.size f cdv)) →
      L2N.Takes (cxOf (L2N.CX P w) P w K mg base (y :: N) qual (defScope st) f cdv A outer s H E) (WB E) →
      PassesOwn (model P w) (A.deeper (PyProof.Rows.envOfC qual (defScope st) s.heap.objs.size f cdv)) (PyProof.Rows.envOfC qual (defScope st) s.heap.objs.size f cdv) (cxOf (L2N.CX P w) P w K mg base (y :: N) qual (defScope st) f cdv A outer s H E).xe →
      VB (cxOf (L2N.CX P w) P w K mg base (y :: N) qual (defScope st) f cdv A outer s H E) (WB E) (defBody st) ψ) :
    InitOk P w K mg base c (k + 1) ps n F := by
  subst hF
  obtain ⟨C0, f, fd, h1, h2, h3, h4⟩ := R.ex
  refine ⟨C0, f, fd, h1, h2, h4, fun_okN h3 S (fun vs H Q E h => ?_) fun cdv A outer s H1 vs Q E hr h => ?_⟩
  · obtain ⟨x, C, dx, vs', H, M, ds, rfl, hl, _⟩ := h
    rw [List.length_cons, hl, hn]
  · obtain ⟨x, C, dx, vs', H, M, ds, rfl, hl, hc, hx, hdx, ne, rfl, m, r, post⟩ := h
    obtain ⟨t, p, rr⟩ := body f cdv A outer s _ E hr (L2N.takes_of rfl rfl rfl rfl) (passes_of rfl)
    refine ⟨t, p, rr H M (addM M x) _ _ (envI x c (y :: N).length ds) _ (goodI m r hx hdx ne hc) ?_⟩
    have sub : ∀ {M' : Addr → Bool} {H' : Hp} {σ' : L2.St} {env : Env}, Good ⟨P, w, K, mg⟩ H M M' H' σ' env → VEx (Sh M' (vw H')) (Sh M (vw H')) := fun g a u hu => by
      obtain ⟨q1, q2⟩ := Sh_some hu
      rw [Sh_of]
      · exact q2
      · cases z : M a with
        | false => rfl
        | true => rw [g.sub a z] at q1; cases q1
    unfold defK at post
    cases q : ψ (envI x c (y :: N).length ds) with
    | rt d => rw [q] at post; exact post.elim
    | bk env => rw [q] at post; exact post.elim
    | ct env => rw [q] at post; exact post.elim
    | bad => rw [q] at post; exact post
    | ro d => rw [q] at post; exact post.elim
    | xc c' fs env =>
      rw [q] at post
      exact fun M' H' σ' cls dd g e r' => post cls dd H' g.ex (r'.mono (sub g))
    | nx env =>
      rw [q] at post
      intro M' H' σ' g e
      have post' : PostK ⟨P, w, K, mg⟩ M H x Q E (outI0 x env[0]?) := post
      unfold outI0 at post'
      split at post'
      · rename_i x' c' gs q0
        obtain ⟨p', hv', mp, m0, ep, C', dx', fs, y1, y2, y3, y4⟩ := g.sl 0 _ q0
        by_cases ex : x' = x
        · subst ex
          rw [if_pos rfl] at post'
          subst ep
          exact post' H' C' dx' fs y1 g.ex y2 y3 (y4.mono (sub g))
        · rw [if_neg ex] at post'
          exact post'.elim
      · exact post'.elim
end
def insOr : Res D → Res D
  | .ok (.ins c gs) => .ok (.ins c gs)
  | .exc c fs => .exc c fs
  | _ => .bad
open Classical in
noncomputable def mkF (F : Addr → List D → Res D) (ds : List D) : Res D := if ∀ x, F x ds = F 0 ds then insOr (F 0 ds) else .bad
theorem mkF_ok {F : Addr → List D → Res D} {ds : List D} {c : Str} {gs : List (Str × D)} (h : ∀ x, F x ds = .ok (.ins c gs)) : mkF F ds = .ok (.ins c gs) := by
  unfold mkF
  rw [if_pos (fun x => by rw [h, h]), h]; rfl
section
variable {X : Cx} {W : WX} {fl : Bool} {e : Expr} {es : List Expr} {p pos : Pos} {φs : Env → Res (List D)} {c : Str} {k n : Nat} {ps : List Str} {F : Addr → List D → Res D}
theorem ve_make (hI : InitOk X.prog X.w X.K X.mg X.base c k ps n F) (tk : L2N.Takes X W) (hr : Room (k + 1) X.A) (ha : VA X W true (e :: es) φs) (hl : ∀ env ds, φs env = .ok ds → ds.length + 1 = n) (hg : Gl X c := by rfl)
    (hdb : (c == ("__debug__" : Str)) = false := by decide) (h1 : starEach (e :: es) X.env = (false, eval e X.env) :: starEach es X.env := by rfl) (h2 : (backTo pos (starEach es X.env)).any (·.1) = false := by rfl) : VE X W fl (.Call (.Name c p) (e :: es) [] pos) (aE (mkF F) φs) := by
  obtain ⟨t, pt, r⟩ := ha
  obtain ⟨C, f, fd, x1, x2, x3, x4⟩ := hI.ex
  refine ⟨_, pe_mkS x2 x4 hr hg x1 x3 (fun σ => L2N.passAt tk σ) pt hdb h1 h2, fun H0 M0 M H σ env Q g h => ?_⟩
  have h0 : PostE X W fl M σ H Q ((φs env).bind (mkF F)) := h
  refine r H0 M0 M H σ env _ g ?_
  cases q : φs env with
  | ok ds =>
    rw [q] at h0
    intro vs H1 e1 r1 x dx hx hdx ne
    have g2 : PostE X W fl M σ H1 Q (mkF F ds) := PostE.mono h0 e1
    have hF : ∀ x, F x ds = F 0 ds := by
      unfold mkF at g2
      split at g2
      · assumption
      · exact g2.elim
    have g2 : PostE X W fl M σ H1 Q (insOr (F 0 ds)) := by
      unfold mkF at g2
      rw [if_pos hF] at g2
      exact g2
    have m1 := g.ok.mono e1
    have mx : M x = false := by
      cases q : M x with
      | false => rfl
      | true => obtain ⟨o, z⟩ := m1.dom x q; rw [hx] at z; cases z
    refine ⟨x, C, dx, vs, H1, M, ds, rfl, by rw [← r1.length]; exact hl env ds q, x1, hx, hdx, ne, rfl, m1, r1, ?_⟩
    rw [hF]
    cases z : F 0 ds with
    | bad => rw [z] at g2; exact g2
    | exc c' fs => rw [z] at g2; exact g2
    | ok d =>
      rw [z] at g2
      cases d with
      | ins c' gs =>
        intro H' C' dx' fs y1 y2 y3 y4 y5
        refine ⟨rfl, g2 _ H' y2 (Rp.mono (Sh_vis fl M _) (.ins (dx := dx') y1 ?_ y4 y5))⟩
        rw [Sh_of mx]
        exact vw_of y3 trivial
      | _ => exact g2.elim
  | exc c' fs => rw [q] at h0; exact h0
  | bad => rw [q] at h0; exact h0
end
end VL

set_option maxRecDepth 100000
set_option maxHeartbeats 2000000
set_option autoImplicit false
namespace VL
open PySem L2 PyProof.Rows
section
variable {prog : Program} {w : World} {A : Around} {E : Value → Shared → Prop} {s : Shared} {vl vu vs : Value} {sl t : Addr}
end
section
variable {X : Cx} {W : WX} {fl : Bool} {e : Expr} {te : TE} {j k : Nat} {p0 p1 p2 p3 pos : Pos} {φ : Env → Res VL.D}
end
theorem Good.besideO {mg : Gm} {H0 H H' : Hp} {M0 M : Addr → Bool} {σ : L2.St} {env : Env} (g : Good mg H0 M0 M H σ env) {p : Addr} (hp : H p = none) (e : Ext H H') {o : HO} (nt : ∀ xs, o ≠ .tup xs) (nd : ∀ fs, o ≠ .xd fs) (hx : H' p = some o) : Good mg H0 M0 (addM M p) H' σ env where
  len := g.len
  ok := by
    have m := g.ok.mono e
    refine ⟨fun a h => ?_, fun a xs h z => ?_, fun a fs h z => ?_⟩
    · by_cases q : a = p
      · subst q; exact ⟨_, hx⟩
      · rw [addM_ne q] at h; exact m.dom a h
    · by_cases q : a = p
      · subst q; rw [hx] at z; cases z; exact nt xs rfl
      · rw [addM_ne q] at h; exact m.tup a xs h z
    · by_cases q : a = p
      · subst q; rw [hx] at z; cases z; exact nd fs rfl
      · rw [addM_ne q] at h; exact m.xd a fs h z
  sub := fun a h => by
    by_cases q : a = p
    · subst q; exact addM_self
    · rw [addM_ne q]; exact g.sub a h
  new := fun a h => by
    by_cases q : a = p
    · subst q; exact .inr (g.h0 hp)
    · rw [addM_ne q] at h; exact g.new a h
  ok0 := g.ok0
  ex := g.ex.trans e
  sl := fun j s h => (g.sl j s h).imp (sh_add e hp) fun a _ ha => ⟨by
    have : a ≠ p := fun z => by rw [z, (g.nm hp).1] at ha; cases ha
    rw [addM_ne this]; exact ha, fun o ho => e a o ho⟩
  inj := g.inj
theorem Good.turnO {mg : Gm} {H0 H : Hp} {M0 M : Addr → Bool} {σ : L2.St} {env : Env} (g : Good mg H0 M0 M H σ env) {p : Addr} {o : HO} (nt : ∀ xs, o ≠ .tup xs) (nd : ∀ fs, o ≠ .xd fs) (mp : M p = true) (h0 : H0 p = none) (hs : ∀ i : Nat, isOw env[i]? = true → σ[i]? ≠ some (some (V.ref p))) : Good mg H0 M0 M (upd H p o) σ env where
  len := g.len
  ok := by
    refine ⟨fun a h => ?_, fun a xs h z => ?_, fun a fs h z => ?_⟩
    · by_cases q : a = p
      · subst q; exact ⟨_, upd_same⟩
      · rw [upd_ne q]; exact g.ok.dom a h
    · by_cases q : a = p
      · subst q; rw [upd_same] at z; cases z; exact nt xs rfl
      · rw [upd_ne q] at z; exact g.ok.tup a xs h z
    · by_cases q : a = p
      · subst q; rw [upd_same] at z; cases z; exact nd fs rfl
      · rw [upd_ne q] at z; exact g.ok.xd a fs h z
  sub := g.sub
  new := g.new
  ok0 := g.ok0
  ex := g.ex.mut h0
  sl := fun j s h => by
    cases s with
    | no => trivial
    | sh d =>
      obtain ⟨x, e2, r2⟩ := g.sl j _ h
      exact ⟨x, e2, by rw [sh_mut mp]; exact r2⟩
    | ow d =>
      obtain ⟨a, e2, m2, m3, r2⟩ := g.sl j _ h
      have hne : a ≠ p := fun z => by subst z; exact hs j (by rw [h]; rfl) e2
      exact ⟨a, e2, m2, m3, r2.imp (by rw [sh_mut mp]; exact .refl _) fun o ho => by rw [upd_ne hne]; exact ho⟩
  inj := g.inj
def dcompL (γ : VL.D → Env → Option Env) (φk φv : Env → Res VL.D) (env : Env) : List VL.D → List (VL.D × VL.D) → Res VL.D
  | [], acc => .ok (.dic 0 acc)
  | d :: ds, acc => match γ d env with
    | none => .bad
    | some env1 => match φk env1 with
      | .ok k => (match φv env1 with
        | .ok v => if keyFit 0 k = true ∧ acc.length < sizeLine then dcompL γ φk φv env ds (setD acc k v) else .bad
        | _ => .bad)
      | _ => .bad
def dcE (vs : List Nat) (γ : VL.D → Env → Option Env) (ι : Env → Res (List VL.D)) (φk φv : Env → Res VL.D) (env : Env) : Res VL.D := (ι env).bind fun ds => dcompL γ φk φv (wipeE env vs) ds []
section
variable {X : Cx} {W : WX} {tg iter kx vx : Expr} {scope : Scope} {own : List (Str × Nat)} {pos : Pos} {ι : Env → Res (List VL.D)} {γ : VL.D → Env → Option Env} {φk φv : Env → Res VL.D}
theorem dc_read {wi : TI} (vs : List Nat) {H0 : Hp} {M0 M : Addr → Bool} {H : Hp} {σ : L2.St} {env : Env} {Q : VK} (ri : ∀ R : It → Hp → Prop, PostI X W H0 M σ H R (ι env) → wi σ H R) (g : Good (gm X) H0 M0 M H σ env) (h : PostN X W M σ H Q (dcE vs γ ι φk φv env)) :
    tDc wi (tGc (gm X) vs γ) (tVT (gm X) X W0 yesT) (tVE (gm X) X W0 true φk) (tVE (gm X) X W0 true φv) vs σ H Q := by
  refine ri _ ?_
  have h0 : PostN X W M σ H Q ((ι env).bind fun ds => dcompL γ φk φv (wipeE env vs) ds []) := h
  cases q : ι env with
  | bad => rw [q] at h0; exact h0
  | exc c fs => rw [q] at h0; exact h0
  | ok ds =>
    rw [q] at h0
    have h1 : PostN X W M σ H Q (dcompL γ φk φv (wipeE env vs) ds []) := h0
    clear h0 h
    intro J H1 e1 ok1 Dd hD
    have gw := (g.mono e1).wipe vs
    have hs0 : ∀ i : Nat, isOw (wipeE env vs)[i]? = true → (L2.wipe σ vs)[i]? ≠ some (some (V.ref Dd)) := fun i ho hr => by
      cases z : (wipeE env vs)[i]? with
      | none => rw [z] at ho; cases ho
      | some s =>
        rw [z] at ho
        cases s with
        | ow d =>
          obtain ⟨p, hp, mp, _⟩ := gw.sl i _ z
          rw [hr] at hp
          cases hp
          rw [(gw.nm hD).1] at mp; cases mp
        | no => cases ho
        | sh _ => cases ho
    refine ⟨fun i m Hc => m = ds.length - i ∧ ∃ (acc : List VL.D) (kvs : List (Key × V)) (accD : List (VL.D × VL.D)), Good (gm X) H0 M0 (addM M Dd) Hc (L2.wipe σ vs) (wipeE env vs) ∧ Hc Dd = some (.dK kvs) ∧ OwOk (gm X) (addM M Dd) Hc Dd (.dic 0 accD) ∧
      VEx (Sh M (vw H1)) (Sh (addM M Dd) (vw Hc)) ∧ Ext H1 Hc ∧ PostN X W M σ H Q (dcompL γ φk φv (wipeE env vs) (ds.drop i) accD), ⟨ds.length, rfl, [], [], [], gw.besideO hD (Ext.new hD) (o := .dK []) (fun _ z => nomatch z) (fun _ z => nomatch z) upd_same, upd_same, ⟨[], upd_same, rfl, .nil⟩, sh_add (Ext.new hD) hD, Ext.new hD, h1⟩, ?_⟩
    rintro i m Hc ⟨rfl, acc, kvs, accD, gc, hx, ow, ve, ex, hp⟩
    obtain ⟨o1, o2⟩ := ok1 _ Hc gc.ok gc.ex ve i
    cases qd : ds[i]? with
    | none =>
      have hi : ds.length ≤ i := List.getElem?_eq_none_iff.mp qd
      rw [List.drop_of_length_le hi] at hp
      exact .inl ⟨o1 hi, hp Dd Hc (e1.fresh hD) (e1.trans ex) ow⟩
    | some d =>
      obtain ⟨o3, o4⟩ := o2 d qd
      have hi : i < ds.length := (List.getElem?_eq_some_iff.mp qd).1
      have hdr : ds.drop i = d :: ds.drop (i + 1) := by
        rw [List.drop_eq_getElem_cons hi]
        rw [List.getElem?_eq_getElem hi] at qd
        cases qd; rfl
      rw [hdr] at hp
      unfold dcompL at hp
      refine .inr ⟨o3, fun Hc' => ∃ (acc : List VL.D) (kvs : List (Key × V)) (accD : List (VL.D × VL.D)), Good (gm X) H0 M0 (addM M Dd) Hc' (L2.wipe σ vs) (wipeE env vs) ∧ Hc' Dd = some (.dK kvs) ∧ OwOk (gm X) (addM M Dd) Hc' Dd (.dic 0 accD) ∧
        VEx (Sh M (vw H1)) (Sh (addM M Dd) (vw Hc')) ∧ Ext H1 Hc' ∧ PostN X W M σ H Q (dcompL γ φk φv (wipeE env vs) (ds.drop (i + 1)) accD), fun Hc' w => ⟨ds.length - (i + 1), by omega, rfl, w⟩, fun x H2 y => ?_⟩
      obtain ⟨ey, ry⟩ := o4 x H2 y
      cases qg : γ d (wipeE env vs) with
      | none => rw [qg] at hp; exact hp.elim
      | some env1 =>
        rw [qg] at hp
        refine ⟨H0, M0, addM M Dd, _, env1, d, gc.mono ey, ry, qg, fun σ2 g2 w2 => ⟨by rw [w2, wipe_wipe], ?_⟩⟩
        refine ⟨H0, M0, addM M Dd, env1, g2, ?_⟩
        intro H3 e3
        rw [if_pos rfl]
        have hp2 : PostN X W M σ H Q (match φk env1 with
          | .ok k => (match φv env1 with
            | .ok v => if keyFit 0 k = true ∧ accD.length < sizeLine then dcompL γ φk φv (wipeE env vs) (ds.drop (i + 1)) (setD accD k v) else .bad
            | _ => .bad)
          | _ => .bad) := hp
        refine ⟨H0, M0, addM M Dd, env1, g2.mono e3, ?_⟩
        cases qk : φk env1 with
        | bad => rw [qk] at hp2; exact hp2.elim
        | exc c fs => rw [qk] at hp2; exact hp2.elim
        | ok kD =>
          rw [qk] at hp2
          have hp3 : PostN X W M σ H Q (match φv env1 with
            | .ok v => if keyFit 0 kD = true ∧ accD.length < sizeLine then dcompL γ φk φv (wipeE env vs) (ds.drop (i + 1)) (setD accD kD v) else .bad
            | _ => .bad) := hp2
          intro y H4 e4 r4
          refine ⟨H0, M0, addM M Dd, env1, (g2.mono e3).mono e4, ?_⟩
          cases qv : φv env1 with
          | bad => rw [qv] at hp3; exact hp3.elim
          | exc c fs => rw [qv] at hp3; exact hp3.elim
          | ok vD =>
            rw [qv] at hp3
            have hp4 : PostN X W M σ H Q (if keyFit 0 kD = true ∧ accD.length < sizeLine then dcompL γ φk φv (wipeE env vs) (ds.drop (i + 1)) (setD accD kD vD) else .bad) := hp3
            intro z H5 e5 r5
            by_cases cz : keyFit 0 kD = true ∧ accD.length < sizeLine
            · rw [if_pos cz] at hp4
              obtain ⟨hf, hl⟩ := cz
              have e25 : Ext Hc H5 := ((ey.trans e3).trans e4).trans e5
              cases qq : keyOf kD with
              | none => rw [show keyFit 0 kD = (keyOf kD).isSome by cases kD <;> rfl, qq] at hf; cases hf
              | some key =>
                have ry' : y = kV key := rp_key (r4.mono (vis_le true _ _)) qq
                obtain ⟨kvs', h5, k5, v5⟩ := OwOk.mono e25 ow
                obtain ⟨s1, s2⟩ := set_rel (eqK_key qq) (keyD_of qq) (r5.mono (vis_mono (Ext.refl _).v)) k5 v5
                refine ⟨kvs', key, ry', h5, by rw [← map_len k5]; exact hl, [], _, setD accD kD vD, (gc.mono e25).turnO (fun _ z => nomatch z) (fun _ z => nomatch z) addM_self (g.h0 (e1.fresh hD)) hs0, upd_same, ⟨_, upd_same, s1, ?_⟩, ?_, ?_, hp4⟩
                · rw [sh_mut addM_self]; exact s2
                · rw [sh_mut addM_self]; exact ve.trans (Sh_mono e25.v)
                · exact (ex.trans e25).mut hD
            · rw [if_neg cz] at hp4; exact hp4.elim
theorem vf_dc (hc : X.calm = true) (hN : X.N.Nodup) (hi : VI X W tg iter ι) (ok : BlkOk X.N X.env.scope scope own)
    (hg : ∀ (s : Shared) (H : Hp) (C : Addr) (cl : List (Str × Addr)) (fp : List Addr), VGc (own.map (·.2)) (X.blk s H scope (compEnvC scope cl C X.env) fp) tg γ)
    (hk : ∀ (s : Shared) (H : Hp) (C : Addr) (cl : List (Str × Addr)) (fp : List Addr), VE (X.blk s H scope (compEnvC scope cl C X.env) fp) W0 true kx φk)
    (he : ∀ (s : Shared) (H : Hp) (C : Addr) (cl : List (Str × Addr)) (fp : List Addr), VE (X.blk s H scope (compEnvC scope cl C X.env) fp) W0 true vx φv)
    (hs : ∀ x, foldedSetIterable iter X.env x = pure x := by intro _; rfl) : VF X W (.DictComp kx vx [⟨tg, iter, [], 0⟩] scope pos) (dcE (own.map (·.2)) γ ι φk φv) := by
  obtain ⟨wi, pi, ri⟩ := hi
  obtain ⟨pg, pt, pe⟩ := lc_parts (ifs := []) (τ := yesT) hg (fun _ _ _ _ _ => vts_nil) he
  obtain ⟨_, _, pk⟩ := lc_parts (ifs := []) (τ := yesT) hg (fun _ _ _ _ _ => vts_nil) hk
  exact ⟨_, pe_dc hc hN pi ok pg pt pk pe hs, fun H0 M0 M H σ env Q g h => dc_read _ (fun R => ri H0 M0 M H σ env R g) g h⟩
end
section
variable {K : PySem.W.Frag} {C : Addr} {f : Str} {fs : List Str}
theorem fs_nil : ∀ f, ([] : List Str).contains f = true → NoAttr K C f := fun _ h => by cases h
theorem fs_cons (h : PySem.W.findIn K (.ref C) f = some none) (r : ∀ g, fs.contains g = true → NoAttr K C g) : ∀ g, (f :: fs).contains g = true → NoAttr K C g := fun g hg => by
  rw [List.contains_cons, Bool.or_eq_true] at hg
  rcases hg with e | hg
  · have : g = f := by simpa using e
    subst this
    exact h
  · exact r g hg
end
end VL

set_option maxRecDepth 100000
set_option maxHeartbeats 2000000
set_option autoImplicit false
namespace VL
open PySem L2
structure PropOk (P : Program) (w : World) (K : PySem.W.Frag) (mg : Str → Option Value) (base : Heap) (c f : Str) (k : Nat) (F : List D → Res D) : Prop where
  ex : ∃ (C p g : Addr) (fd : FuncData), mg c = some (.ref C) ∧ Cls K C ∧ PropOf K C f p g ∧ Binds K fd ["self"] [] ∧ FnOk P w K mg base (L2N.CX P w) k g fd ["self"] (spV ⟨P, w, K, mg⟩ 1 F)
structure RawP (K : PySem.W.Frag) (mg : Str → Option Value) (c f qual : Str) (st : Stmt) : Prop where
  ex : ∃ (C p g : Addr) (fd : FuncData), mg c = some (.ref C) ∧ Cls K C ∧ PropOf K C f p g ∧ Fun K f qual st g fd ∧ Binds K fd ["self"] []
section
variable {P : Program} {w : World} {K : PySem.W.Frag} {mg : Str → Option Value} {base : Heap} {c m qual : Str} {st : Stmt} {N : List Str} {k : Nat} {ψ : Env → SRes} {F : List D → Res D}
end
def isCls (c : Str) : D → Bool
  | .ins c' _ => decide (c' = c)
  | _ => false
def propE (c : Str) (F : List D → Res D) (φ : Env → Res D) (env : Env) : Res D := (φ env).bind fun d => if isCls c d = true then (match F [d] with | .ok r => .ok r | _ => .bad) else .bad
section
variable {X : Cx} {W : WX} {fl : Bool} {e : Expr} {pos : Pos} {φ : Env → Res D} {c f : Str} {k : Nat} {F : List D → Res D}
end
section
variable {X : Cx} {W : WX} {tg iter kx vx : Expr} {scope : Scope} {own : List (Str × Nat)} {pos : Pos} {γ : D → Env → Option Env} {φk φv κ : Env → Res D}
end
end VL

set_option maxRecDepth 100000
set_option maxHeartbeats 2000000
set_option autoImplicit false
namespace VL
open PySem PySem.W PyProof.Rows
section
variable {prog : Program} {w : World} {K : Type} [DecidableEq K] {knd : HeapKind prog w K} {A : Around} {E : Value → Shared → Prop} {s : Shared}
inductive HitsH (prog : Program) (w : World) (A : Around) (s : Shared) (kb : List (K × Addr × Value)) : List (K × Addr × Value) → Bool → Prop
  | nil : HitsH prog w A s kb [] true
  | miss {k : K} {p : Addr × Value} {r : List (K × Addr × Value)} : atKey kb k = none → HitsH prog w A s kb ((k, p) :: r) false
  | hit {k : K} {p y : Addr × Value} {r : List (K × Addr × Value)} {e b : Bool} : atKey kb k = some y → SeqAt.EqP prog w A s p.2 y.2 e → HitsH prog w A s kb r b → HitsH prog w A s kb ((k, p) :: r) (e && b)
end
end VL

set_option maxRecDepth 100000
set_option maxHeartbeats 2000000
set_option autoImplicit false
namespace VL
open PySem L2 PyProof.Rows
section
variable {P : Program} {w : World} {A : Around} {s : Shared} {H : Hp}
end
section
variable {X : Cx}
end
section
variable {prog : Program} {w : World} {K : Type} [DecidableEq K] {A : Around} {E : Value → Shared → Prop} {s : Shared}
open PySem.W in
open PySem.W in
end
section
variable {P : Program} {w : World} {A : Around} {s : Shared} {H : Hp}
end
section
variable {X : Cx}
end
section
variable {X : Cx} {W : WX} {fl fla flb : Bool}
end
end VL

set_option maxRecDepth 100000
set_option maxHeartbeats 2000000
set_option autoImplicit false
namespace VL
open PySem PySem.Spec PyProof.Rows L2 L2H HotX
section
variable {prog : Program} {w : World} {A : Around} {s : Shared} {E : Value → Shared → Prop}
end
def HG (X : Cx) : Prop := ∀ (pins : List (Addr × Obj)) (σ : L2.St) (H : Hp) (s : Shared), Inv X pins σ H s → X.A.handled = none ∨ ∃ x1, HotAt X.A x1 s.heap
theorem HG.calm {X : Cx} (h : X.A.handled = none) : HG X := fun _ _ _ _ _ => .inl h
theorem HG.base {X : Cx} {a : Addr} {o : Obj} {vs : Array Value} {u : HO} (hh : X.A.handled = some (.ref a)) (hH : X.H_0 a = some (.frz o u)) (hdt : o.data = .fields vs) (hc : vs[2]? = some .none) : HG X :=
  fun _ _ _ _ I => .inr ⟨a, hh, o, vs, (I.hok a _ (I.base.frzs a o u hH)).1, hdt, hc⟩
end VL

set_option maxRecDepth 100000
set_option maxHeartbeats 2000000
set_option autoImplicit false
namespace VL
open PySem PySem.Spec PyProof.Rows L2 L2H HotX
structure TurnG (P : Program) (w : World) (K : PySem.W.Frag) (tg : Expr) (J : It) (fpr : List Addr) (jt : Addr) (tn : Nat → Heap → Prop) : Prop where
  mem : jt ∈ fpr
  obj : ∀ i h, tn i h → ∀ b ∈ fpr, ∃ o, h.get? b = some o ∧ ∀ v, o.data ≠ .cell v
  keep : ∀ i h h', tn i h → (∀ b ∈ fpr, ∀ o, h.get? b = some o → h'.get? b = some o) → tn i h'
  item : ∀ (X : Cx), X.prog = P → X.w = w → X.K = K → HG X → ∀ (i : Nat) (pis : List (Addr × Obj)) (s : Shared) (σ : L2.St) (H : Hp) (E : Value → Shared → Prop), Inv X pis σ H s → (∀ b ∈ fpr, FpOk X pis H b) → tn i s.heap → J.go i H →
    wpAny (model P w) X.A (pyNext (.ref jt)) (fun r s1 => ∃ u, r = some u ∧
      wpAny (model P w) X.A (letOwnedTupleGo tg (.ref jt) u) (fun _ s2 => ∃ x H', Inv X pis σ H' s2 ∧ RelV x u ∧ J.yld i H x H' ∧ tn (i + 1) s2.heap ∧ ∀ b ∈ fpr, H' b = none) E s1) E s
  done : ∀ (X : Cx), X.prog = P → X.w = w → X.K = K → HG X → ∀ (i : Nat) (pis : List (Addr × Obj)) (s : Shared) (σ : L2.St) (H : Hp) (E : Value → Shared → Prop), Inv X pis σ H s → (∀ b ∈ fpr, FpOk X pis H b) → tn i s.heap → J.stop i H →
    wpAny (model P w) X.A (pyNext (.ref jt)) (fun r s1 => r = none ∧ Inv X pis σ H s1) E s
  self : ∀ (A : Around) (i : Nat) (s : Shared) (Q : Value → Shared → Prop) (E : Value → Shared → Prop), tn i s.heap → Q (.ref jt) s → wpAny (model P w) A (pyIter (.ref jt)) Q E s
def PIEG (X : Cx) (pis : List (Addr × Obj)) (σ : L2.St) (tg : Expr) (R : It → Hp → Prop) (itv : Value) (s2 : Shared) : Prop :=
  ∃ (jt : Addr) (fpr : List Addr) (tn : Nat → Heap → Prop) (J : It) (H' : Hp), itv = .ref jt ∧ Inv X pis σ H' s2 ∧ TurnG X.prog X.w X.K tg J fpr jt tn ∧ tn 0 s2.heap ∧ (∀ b ∈ fpr, FpOk X pis H' b) ∧ R J H'
structure PIG (X : Cx) (tg iter : Expr) (wi : TI) : Prop where
  run : ∀ (pis : List (Addr × Obj)) (s : Shared) (σ : L2.St) (H : Hp) (R : It → Hp → Prop), Inv X pis σ H s → wi σ H R →
    wpAny (model X.prog X.w) X.A (eval iter X.env) (fun v s1 => wpAny (model X.prog X.w) X.A (pyIter v) (PIEG X pis σ tg R) X.xe s1) X.xe s
section
variable {X : Cx} {tg : Expr}
end
section
variable {X : Cx} {tg : Expr}
end
section
variable {X : Cx} {W : WX} {tg e iter : Expr} {sts : List Stmt} {pos : Pos} {φ : Env → Res D} {ψ : Env → SRes} {ι : Env → Res (List D)} {γ : D → Env → Option Env}
end
end VL

set_option maxRecDepth 100000
set_option maxHeartbeats 2000000
set_option autoImplicit false
namespace VL
open PySem L2
def HotS (A : Around) (H : Hp) : Prop := A.handled = none ∨ ∃ (a : Addr) (o : Obj) (vs : Array Value) (u : HO), A.handled = some (.ref a) ∧ H a = some (.frz o u) ∧ o.data = .fields vs ∧ vs[2]? = some .none
def HS (X : Cx) : Prop := ∀ (pins : List (Addr × Obj)) (σ : L2.St) (H : Hp) (s : Shared), Inv X pins σ H s → HotS X.A H
theorem HS.calm {X : Cx} (h : X.A.handled = none) : HS X := fun _ _ _ _ _ => .inl h
theorem HS.hg {X : Cx} (h : HS X) : HG X := fun pins σ H s I => (h pins σ H s I).elim .inl fun ⟨a, o, vs, u, h1, h2, h3, h4⟩ => .inr ⟨a, h1, o, vs, (I.hok a _ h2).1, h3, h4⟩
theorem HS.start {X : Cx} (h : HotS X.A X.H_0) : HS X := fun _ _ _ _ I => h.elim .inl fun ⟨a, o, vs, u, h1, h2, h3, h4⟩ => .inr ⟨a, o, vs, u, h1, I.base.frzs a o u h2, h3, h4⟩
structure FnG (P : Program) (w : World) (K : PySem.W.Frag) (mg : Str → Option Value) (base : Heap) (CX : CXT) (k : Nat) (f : Addr) (fd : FuncData) (ps : List Str) (sp : Sp) : Prop where
  len : ∀ vs H Q E, sp vs H Q E → vs.length = ps.length
  run : ∀ (A : Around) (outer : List PySem.Env) (s : Shared) (H : Hp) (args : Args) (us : List Value) (vs : List V) (Q : VK) (E : XK), L2H.RoomH k A → HotS A H → Env0 P w K mg base A outer s H → BindsTo s fd args (ps.zip us) → Vals vs us → sp vs H Q E →
    codeAny (model P w) A (.call (.ref f) args) (CR CX outer P w H s Q E) s
section
variable {P : Program} {w : World} {K : PySem.W.Frag} {mg : Str → Option Value} {base : Heap} {CX : CXT} {x qual : Str} {st : Stmt} {f : Addr} {fd : FuncData} {N ps : List Str} {k n : Nat} {sp : Sp}
theorem FnG.ok (F : FnG P w K mg base CX k f fd ps sp) : FnOk P w K mg base CX k f fd ps sp := ⟨F.len, fun A outer s H args us vs Q E hr => F.run A outer s H args us vs Q E (L2H.roomH_of hr) (.inl hr.hd)⟩
end
structure DefOkG (P : Program) (w : World) (K : PySem.W.Frag) (mg : Str → Option Value) (base : Heap) (x : Str) (k : Nat) (ps : List Str) (n : Nat) (F : List D → Res D) : Prop where
  ex : ∃ (f : Addr) (fd : FuncData), mg x = some (.ref f) ∧ PySem.W.keepIn K (.ref f) = true ∧ Binds K fd ps [] ∧ FnG P w K mg base (L2N.CX P w) k f fd ps (spV ⟨P, w, K, mg⟩ n F)
  lk : ∀ f fd, mg x = some (.ref f) → (∃ oc od osl, K.lookup f = some ⟨oc, od, .func fd, osl⟩) → FnG P w K mg base (L2N.CX P w) k f fd ps (spV ⟨P, w, K, mg⟩ n F)
section
variable {P : Program} {w : World} {K : PySem.W.Frag} {mg : Str → Option Value} {base : Heap} {x qual : Str} {st : Stmt} {N ps : List Str} {k n : Nat} {ψ : Env → SRes} {F G : List D → Res D}
theorem DefOkG.ok (h : DefOkG P w K mg base x k ps n F) : DefOk P w K mg base x k ps n F := by
  obtain ⟨f, fd, h1, h2, h3, h4⟩ := h.ex
  exact ⟨⟨f, fd, h1, h2, h3, h4.ok⟩, fun f fd e1 e2 => (h.lk f fd e1 e2).ok⟩
variable {X : Cx} {W : WX} {fl : Bool} {e : Expr} {es : List Expr} {pos p : Pos} {φs : Env → Res (List D)}
end
end VL

set_option maxRecDepth 100000
set_option maxHeartbeats 2000000
set_option autoImplicit false
namespace VL
open PySem L2
abbrev suiteG (X : Cx) (a : Addr) (oe : Obj) (pn : List (Addr × Obj)) : Cx := { X.suite a pn with H_0 := upd X.H_0 a (.frz oe (.own a)) }
structure Fits (X : Cx) (a : Addr) (oe : Obj) : Prop where
  new : ∀ o, X.s_0.heap.get? a = some o → X.H_0 a = none → False
  tup : ∀ xs, X.H_0 a = some (.tup xs) → False
  tbl : ∀ ps, X.H_0 a = some (.tbl ps) → False
  frz : ∀ o u, X.H_0 a = some (.frz o u) → some (HO.frz o u) = some (.frz oe (.own a))
  nfs : a ∉ X.fs
section
variable {X : Cx} {pins : List (Addr × Obj)} {σ : L2.St} {H : Hp} {s : Shared} {a : Addr} {oe : Obj}
theorem HS.suite {pn : List (Addr × Obj)} {vs : Array Value} (hd : oe.data = .fields vs) (hc : vs[2]? = some .none) : HS (suiteG X a oe pn) :=
  HS.start (.inr ⟨a, oe, vs, .own a, rfl, upd_same, hd, hc⟩)
end
end VL

set_option maxRecDepth 100000
set_option maxHeartbeats 2000000
set_option autoImplicit false
namespace VL
open PySem PySem.Spec PyProof.Rows L2 L2H HotX
section
variable {X : Cx} {tg : Expr}
end
section
variable {X : Cx} {W : WX} {fl : Bool} {tg : Expr} {pos : Pos} {φs : Env → Res (List D)}
end
end VL

set_option maxRecDepth 100000
set_option maxHeartbeats 2000000
namespace VL
open PySem L2

section
variable {X : Cx}
end
def lmE (f : List D → D → Res D) (φa φb : Env → Res D) (env : Env) : Res D := (φa env).bind fun d => match d with
  | .lst ds => (φb env).bind (f ds)
  | _ => .bad
section
variable {X : Cx} {W : WX} {fl fla flb : Bool} {o e : Expr} {name : Str} {apos pos : Pos} {φa φb : Env → Res D}
end
end VL

set_option maxRecDepth 100000
set_option maxHeartbeats 2000000
set_option autoImplicit false
namespace VL
open PySem PySem.Spec PyProof.Rows L2 L2H HotX
section
variable {prog : Program} {w : World} {A : Around} {s : Shared} {E : Value → Shared → Prop}
end
section
variable {X : Cx} {tg : Expr}
end
section
variable {X : Cx} {W : WX} {tg e : Expr} {φ : Env → Res D}
end
inductive HdsG (X : Cx) : List ExceptHandler → List (Value × Option Nat × TSx) → Prop
  | nil : HdsG X [] []
  | named {x n : Str} {c : Value} {i : Nat} {ts : TSx} {st1 : Stmt} {sts : List Stmt} {np hp : Pos} {hds : List ExceptHandler} {l : List (Value × Option Nat × TSx)} (hc : Names X x c) (hi : X.N[i]? = some n) (hln : X.env.kindOf n = some .local)
      (hsu : ∀ (a : Addr) (oe : Obj) (cls : Value) (d : Option Addr) (pn : List (Addr × Obj)), L2N.Zn cls d oe → (∃ vs, oe.data = .fields vs) → PSs (suiteG X a oe pn) (st1 :: sts) (ts a oe cls d)) (r : HdsG X hds l) :
      HdsG X (.ExceptHandler (some (.Name x np)) (some n) (st1 :: sts) hp :: hds) ((c, some i, ts) :: l)
  | anon {x : Str} {c : Value} {ts : TSx} {st1 : Stmt} {sts : List Stmt} {np hp : Pos} {hds : List ExceptHandler} {l : List (Value × Option Nat × TSx)} (hc : Names X x c)
      (hsu : ∀ (a : Addr) (oe : Obj) (cls : Value) (d : Option Addr) (pn : List (Addr × Obj)), L2N.Zn cls d oe → (∃ vs, oe.data = .fields vs) → PSs (suiteG X a oe pn) (st1 :: sts) (ts a oe cls d)) (r : HdsG X hds l) :
      HdsG X (.ExceptHandler (some (.Name x np)) none (st1 :: sts) hp :: hds) ((c, none, ts) :: l)
section
variable {X : Cx} {body : List Stmt} {h1 : ExceptHandler} {hds : List ExceptHandler} {l : List (Value × Option Nat × TSx)} {pos : Pos} {tb : WX → TS} {Wout : WX}
end
inductive VHdsG (X : Cx) : List ExceptHandler → List HdD → Prop
  | nil : VHdsG X [] []
  | named {x n : Str} {cv : Value} {cat : List (Str × Bool)} {i : Nat} {χ : Env → SRes} {st1 : Stmt} {sts : List Stmt} {np hp : Pos} {hds : List ExceptHandler} {l : List HdD} (hc : Names X x cv)
      (hcat : ∀ c b, cat.lookup c = some b → ∃ C, X.mg c = some C ∧ PySem.W.exmOne X.K C cv = some b) (hi : X.N[i]? = some n) (hln : X.env.kindOf n = some .local) (hs : ∀ (a : Addr) (oe : Obj) (pn : List (Addr × Obj)), HS (suiteG X a oe pn) → VB (suiteG X a oe pn) W0 (st1 :: sts) χ) (r : VHdsG X hds l) :
      VHdsG X (.ExceptHandler (some (.Name x np)) (some n) (st1 :: sts) hp :: hds) ((cat, some i, χ) :: l)
  | anon {x : Str} {cv : Value} {cat : List (Str × Bool)} {χ : Env → SRes} {st1 : Stmt} {sts : List Stmt} {np hp : Pos} {hds : List ExceptHandler} {l : List HdD} (hc : Names X x cv)
      (hcat : ∀ c b, cat.lookup c = some b → ∃ C, X.mg c = some C ∧ PySem.W.exmOne X.K C cv = some b) (hs : ∀ (a : Addr) (oe : Obj) (pn : List (Addr × Obj)), HS (suiteG X a oe pn) → VB (suiteG X a oe pn) W0 (st1 :: sts) χ) (r : VHdsG X hds l) :
      VHdsG X (.ExceptHandler (some (.Name x np)) none (st1 :: sts) hp :: hds) ((cat, none, χ) :: l)
section
variable {X : Cx}
theorem hs_zn {a : Addr} {oe : Obj} {pn : List (Addr × Obj)} {cls : Value} {d : Option Addr} (z : L2N.Zn cls d oe) (v : ∃ vs, oe.data = .fields vs) : HS (suiteG X a oe pn) := by
  obtain ⟨vs, hd⟩ := v
  exact HS.suite hd (z.2.2 vs hd)
theorem HdsG.of {hds : List ExceptHandler} {l : List HdD} (h : VHdsG X hds l) : ∃ l', HdsG X hds l' ∧
    ∀ (Zp : Value → Option Addr → Obj → Prop) (hZ : ∀ c d o, Zp c d o → Zc c d o) (W : WX) (H0 : Hp) (M0 M : Addr → Bool) (H : Hp) (σ : L2.St) (env : Env) (D : Ends) (c : Str) (fs : List (Str × VL.D)) (cls : Value) (dd : Option Addr), Good (gm X) H0 M0 M H σ env → RpX (gm X) (Sh M (vw H)) c fs cls dd →
      PostS X W H0 M0 M H D (hndS c fs l env) → wHs Zp X.K W D l' cls dd σ H := by
  induction h with
  | nil => exact ⟨[], .nil, fun Zp hZ W H0 M0 M H σ env D c fs cls dd g rx h => h M H σ cls dd g (.refl _) rx⟩
  | @named x n cv cat i χ st1 sts np hp hds l hc hcat hi hln hs r ih =>
    obtain ⟨l', k1, k3⟩ := ih
    refine ⟨(cv, some i, fun _ _ _ _ => tVB X W0 χ) :: l', .named hc hi hln (fun a oe cls d pn z v => vb_canon (Y := X) (hs a oe pn (hs_zn z v)) rfl) k1, fun Zp hZ W H0 M0 M H σ env D c fs cls dd g rx h => ?_⟩
    unfold hndS at h
    cases q : cat.lookup c with
    | none => rw [q] at h; exact h.elim
    | some b =>
      obtain ⟨C, e1, e2⟩ := hcat c b q
      have ec : C = cls := by
        have := rx.1.symm.trans e1
        cases this; rfl
      subst ec
      rw [q] at h
      refine ⟨b, e2, fun hb a oe na z hv => ?_, fun hb => ?_⟩
      · subst hb
        have ex := Ext.new (o := .frz oe (.own a)) na
        exact ⟨H0, M0, M, _, (g.mono ex).set (rp_exn na (g.nm na).1 (hZ _ _ _ z) hv rx), PostS.outI (PostS.mono h (Sh_mono ex.v))⟩
      · subst hb
        exact k3 Zp hZ W H0 M0 M H σ env D c fs _ dd g rx h
  | @anon x cv cat χ st1 sts np hp hds l hc hcat hs r ih =>
    obtain ⟨l', k1, k3⟩ := ih
    refine ⟨(cv, none, fun _ _ _ _ => tVB X W0 χ) :: l', .anon hc (fun a oe cls d pn z v => vb_canon (Y := X) (hs a oe pn (hs_zn z v)) rfl) k1, fun Zp hZ W H0 M0 M H σ env D c fs cls dd g rx h => ?_⟩
    unfold hndS at h
    cases q : cat.lookup c with
    | none => rw [q] at h; exact h.elim
    | some b =>
      obtain ⟨C, e1, e2⟩ := hcat c b q
      have ec : C = cls := by
        have := rx.1.symm.trans e1
        cases this; rfl
      subst ec
      rw [q] at h
      refine ⟨b, e2, fun hb a oe na z hv => ?_, fun hb => ?_⟩
      · subst hb
        have ex := Ext.new (o := .frz oe (.own a)) na
        exact ⟨H0, M0, M, _, g.mono ex, PostS.outI (PostS.mono h (Sh_mono ex.v))⟩
      · subst hb
        exact k3 Zp hZ W H0 M0 M H σ env D c fs _ dd g rx h
end
section
variable {X : Cx} {W : WX} {body : List Stmt} {h1 : ExceptHandler} {hds : List ExceptHandler} {pos : Pos} {ψ : Env → SRes} {l : List HdD}
end
end VL

set_option maxRecDepth 100000
set_option maxHeartbeats 2000000
set_option autoImplicit false
namespace VL
open PySem L2
theorem m_eq {n : Nat} {b : Env → SRes} {ds : List D} {r : Res D} (h : outS (b (env0 n ds)) = r) : defM n b ds = r := h
section
variable {d : D} {env : Env} {c : Str} {fs : List (Str × D)} {hs : List HdD} {γ : D → Env → Option Env} {ψ : Env → SRes} {ι : Env → Res (List D)} {ds : List D} {φ : Env → Res D} {φs : Env → Res (List D)} {m f : Str} {F : List D → Res D}
theorem outS_rt : outS (.rt d) = .ok d := rfl
theorem outS_nx : outS (.nx env) = .ok .non := rfl
theorem outS_xc : outS (.xc c fs env) = .exc c fs := rfl
def rTry (hs : List HdD) : SRes → SRes
  | .xc c fs e => hndS c fs hs e
  | r => r
theorem tryS_eq : tryS ψ hs env = rTry hs (ψ env) := by
  unfold tryS rTry
  cases ψ env <;> rfl
theorem rTry_nx : rTry hs (.nx env) = .nx env := rfl
theorem rTry_rt : rTry hs (.rt d) = .rt d := rfl
theorem rTry_xc : rTry hs (.xc c fs env) = hndS c fs hs env := rfl
theorem hndS_eq {cat : List (Str × Bool)} {on : Option Nat} {χ : Env → SRes} {r : List HdD} : hndS c fs ((cat, on, χ) :: r) env = match cat.lookup c with
    | some true => outI on (χ (inE on c fs env))
    | some false => hndS c fs r env
    | none => .bad := rfl
def rMeth (c m : Str) (F : List D → Res D) (a : Res D) (b : Res (List D)) : Res D := a.bind fun d => if isIns c m d = true then b.bind fun ds => F (d :: ds) else .bad
theorem methE_eq : methE c m F φ φs env = rMeth c m F (φ env) (φs env) := rfl
theorem rMeth_ok : rMeth c m F (.ok d) (.ok ds) = if isIns c m d = true then F (d :: ds) else .bad := rfl
def rProp (c : Str) (F : List D → Res D) (a : Res D) : Res D := a.bind fun d => if isCls c d = true then (match F [d] with | .ok r => .ok r | _ => .bad) else .bad
theorem propE_eq : propE c F φ env = rProp c F (φ env) := rfl
theorem rProp_ok : rProp c F (.ok d) = if isCls c d = true then (match F [d] with | .ok r => .ok r | _ => .bad) else .bad := rfl
def rLm (f : List D → D → Res D) (a b : Res D) : Res D := a.bind fun d => match d with
  | .lst ds => b.bind (f ds)
  | _ => .bad
theorem lmE_eqR {f : List D → D → Res D} {φa φb : Env → Res D} : lmE f φa φb env = rLm f (φa env) (φb env) := rfl
theorem rLm_ok {f : List D → D → Res D} {e : D} : rLm f (.ok (.lst ds)) (.ok e) = f ds e := rfl
theorem fldIE_eqR : fldIE c f φ env = r1 (fldI c f) (φ env) := rfl
end
def outP : Res D → Post
  | .ok d => { rt := fun x => x = d, nx := fun _ => d = .non }
  | .exc c fs => { xc := fun x y _ => x = c ∧ y = fs }
  | .bad => {}
theorem m_out {n : Nat} {b : Env → SRes} {ds : List D} {r : Res D} (h : Sat (outP r) (b (env0 n ds))) : defM n b ds = r := by
  unfold defM
  cases r with
  | ok d =>
    cases q : b (env0 n ds) <;> rw [q] at h <;> first | exact h.elim | skip
    case nx e => exact congrArg Res.ok (show D.non = d from (show d = .non from h).symm)
    case rt x => exact congrArg Res.ok (show x = d from h)
  | exc c fs =>
    cases q : b (env0 n ds) <;> rw [q] at h <;> first | exact h.elim | skip
    case xc x y e =>
      obtain ⟨h1, h2⟩ := h
      rw [h1, h2]; rfl
  | bad => cases q : b (env0 n ds) <;> rw [q] at h <;> exact h.elim
def runL {α σ : Type} (step : σ → α → σ ⊕ Res D) (s : σ) : List α → σ ⊕ Res D
  | [] => .inl s
  | a :: xs => match step s a with
    | .inl s' => runL step s' xs
    | .inr o => .inr o
def stepP {σ : Type} (R : σ → Env → Prop) : σ ⊕ Res D → Post
  | .inl s => { nx := R s, ct := R s }
  | .inr (.ok d) => { rt := fun x => x = d }
  | .inr (.exc c fs) => { xc := fun x y _ => x = c ∧ y = fs }
  | .inr .bad => {}
def endK {σ : Type} (P : Post) (R : σ → Env → Prop) : σ ⊕ Res D → Prop
  | .inl s => ∀ env, R s env → P.nx env
  | .inr (.ok d) => P.rt d
  | .inr (.exc c fs) => ∀ env, P.xc c fs env
  | .inr .bad => True
theorem Sat.runL {α σ : Type} {P : Post} {γ : D → Env → Option Env} {ψ : Env → SRes} {f : α → D} {step : σ → α → σ ⊕ Res D} {R : σ → Env → Prop} : ∀ {xs : List α} {s : σ} {env : Env},
    (∀ s a env, a ∈ xs → R s env → ∃ env1, γ (f a) env = some env1 ∧ Sat (stepP R (step s a)) (ψ env1)) → R s env → endK P R (VL.runL step s xs) → Sat P (forL γ ψ (xs.map f) env)
  | [], s, env, _, h0, hk => hk env h0
  | a :: xs, s, env, h, h0, hk => by
    obtain ⟨env1, e1, h1⟩ := h s a env (List.mem_cons_self ..) h0
    show Sat P (match γ (f a) env with | none => SRes.bad | some env1 => flowL (ψ env1) (forL γ ψ (xs.map f)))
    rw [e1]
    show Sat P (flowL (ψ env1) (forL γ ψ (xs.map f)))
    have hk' : endK P R (match step s a with | .inl s' => VL.runL step s' xs | .inr o => .inr o) := hk
    cases q : step s a with
    | inl s' =>
      rw [q] at h1 hk'
      have go : ∀ env, R s' env → Sat P (forL γ ψ (xs.map f) env) := fun env hr => Sat.runL (fun s a env ha => h s a env (List.mem_cons_of_mem _ ha)) hr hk'
      cases z : ψ env1 <;> rw [z] at h1 <;> first | exact h1.elim | exact go _ h1
    | inr o =>
      rw [q] at h1 hk'
      cases o with
      | ok d =>
        cases z : ψ env1 <;> rw [z] at h1 <;> first | exact h1.elim | skip
        case rt x =>
          have e : x = d := h1
          rw [e]; exact hk'
      | exc c fs =>
        cases z : ψ env1 <;> rw [z] at h1 <;> first | exact h1.elim | skip
        case xc x y e =>
          obtain ⟨q1, q2⟩ := h1
          rw [q1, q2]; exact hk' e
      | bad => cases z : ψ env1 <;> rw [z] at h1 <;> exact h1.elim
theorem Sat.run {α σ : Type} {P : Post} {γ : D → Env → Option Env} {ψ : Env → SRes} {ι : Env → Res (List D)} {env : Env} (xs : List α) (f : α → D) (step : σ → α → σ ⊕ Res D) (R : σ → Env → Prop) (s : σ) (hi : ι env = .ok (xs.map f)) (h0 : R s env)
    (h : ∀ s a env, a ∈ xs → R s env → ∃ env1, γ (f a) env = some env1 ∧ Sat (stepP R (step s a)) (ψ env1)) (hk : endK P R (VL.runL step s xs)) : Sat P (VL.forS γ ι ψ env) := by
  unfold VL.forS ofA
  rw [hi]
  exact Sat.runL h h0 hk
end VL

set_option maxRecDepth 100000
set_option maxHeartbeats 2000000
set_option autoImplicit false
namespace VL
open PySem L2

section
variable {X : Cx} {W : WX} {fl fla flb : Bool}
end

def tyNames : List String := ["NoneType", "bool", "int", "str", "tuple", "list", "dict"]
structure ClsQ (K : PySem.W.Frag) (mg : Str → Option Value) (c : Str) : Prop where
  ex : ∃ C, mg c = some (.ref C) ∧ Cls K C ∧ PySem.W.findIn K (.ref C) "__class__" = some (some (.builtin "object.__class__")) ∧ PySem.W.specialIn K (.builtin "object.__class__") "__get__" = some (some (.builtin "getset_descriptor.__get__")) ∧
    PySem.W.takesIn K (.builtin "object.__class__") = some true ∧ PySem.W.mroIn K C (.type "object") = some true ∧ ∀ S ∈ tyNames, PySem.W.kitOne K (.type S) (.ref C) = some false
section
variable {X : Cx} {W : WX} {fl fla : Bool} {e : Expr} {pos : Pos} {φ : Env → Res D}
end

section
variable {X : Cx} {W : WX} {fl fla flb : Bool} {e e2 : Expr} {es : List Expr} {pos : Pos} {φ φi : Env → Res D} {φs : Env → Res (List D)}
end

def quietO : SRes → SRes
  | .ro _ => .bad
  | r => r
def forXS (γ : D → Env → Option Env) (φ : Env → Res D) (ψ : Env → SRes) (env : Env) : SRes := match (φ env).bind keysD with
  | .ok ds => quietO (forL γ ψ ds env)
  | _ => .bad
def lockW (X : Cx) (W : WX) : WX := fun cls dd σ H => W cls dd σ H ∨ ∃ (a : Addr) (u : HO) (od : Obj), H a = some (.frz od u) ∧ (∀ o' u', X.H_0 a ≠ some (.frz o' u')) ∧ W cls dd σ (upd H a u)
def tLockN (X : Cx) (t : TS) : TS := fun D σ H => ∃ d u, H d = some u ∧ Mut (some u) ∧ ∀ od, (∀ o' u', X.H_0 d ≠ some (.frz o' u')) → t { nx := fun σ' H' => H' d = some (.frz od u) ∧ D.nx σ' (upd H' d u), rt := fun v H' => H' d = some (.frz od u) ∧ D.rt v (upd H' d u), bk := fun σ' H' => H' d = some (.frz od u) ∧ D.bk σ' (upd H' d u), ct := fun σ' H' => H' d = some (.frz od u) ∧ D.ct σ' (upd H' d u) } σ (upd H d (.frz od u))
section
variable {X : Cx} {W : WX}
theorem ps_lockN {st : Stmt} {t : TS} (h : PS X st t) : PS X st (tLockN X t) := by
  refine ⟨fun pins s σ H D I hw => ?_⟩
  obtain ⟨d, u, hd, mu, hw⟩ := hw
  obtain ⟨od, I1⟩ := I.lock hd mu
  have nf := I.nofrz hd mu
  refine thn (h.run pins s σ _ _ I1 (hw od nf)) fun f s1 q => ?_
  cases f with
  | next => obtain ⟨σ', H', I2, e, q⟩ := q; exact ⟨σ', _, I2.unlock e nf, q⟩
  | brk => obtain ⟨σ', H', I2, e, q⟩ := q; exact ⟨σ', _, I2.unlock e nf, q⟩
  | cont => obtain ⟨σ', H', I2, e, q⟩ := q; exact ⟨σ', _, I2.unlock e nf, q⟩
  | ret v => obtain ⟨x, σ', H', I2, r, e, q⟩ := q; exact ⟨x, σ', _, I2.unlock e nf, r, q⟩
theorem takes_lock (tk : L2N.Takes X W) : L2N.Takes X (lockW X W) := by
  rintro u s' ⟨a, B, sI, pins, σ, H, cls, d, e, I, nb, up, sky, na, os, ag, w | ⟨b, v, od, hb, nf, w⟩⟩
  · exact tk u s' ⟨a, B, sI, pins, σ, H, cls, d, e, I, nb, up, sky, na, os, ag, w⟩
  · refine tk u s' ⟨a, B, sI, pins, σ, upd H b v, cls, d, e, I.unlock hb nf, nb, up, sky, ?_, os, ag, w⟩
    have hne : a ≠ b := fun z => by rw [z, hb] at na; cases na
    rw [upd_ne hne]
    exact na
end
section
variable {X : Cx} {W : WX} {tg iter : Expr} {sts : List Stmt} {pos : Pos} {γ : D → Env → Option Env} {ψ : Env → SRes} {φ : Env → Res D}
theorem vs_forDX (tk : L2N.Takes X W) (hp : PassesOwn (model X.prog X.w) X.A X.env X.xe) (hc : X.calm = true) (hd : VD X iter φ) (hg : VG X tg γ) (hb : ∀ W : WX, L2N.Takes X W → VB X W sts ψ) (hs : ∀ x, foldedSetIterable iter X.env x = pure x := by intro _; rfl) : VS X W (.For tg iter sts [] pos) (forXS γ φ ψ) := by
  obtain ⟨td, pd, rd⟩ := hd
  obtain ⟨tg', pg, rg⟩ := hg
  obtain ⟨tb, pb, rb⟩ := hb (lockW X W) (takes_lock tk)
  refine ⟨_, ps_or (ps_lockN (ps_for hp hc (pi_keys pd) pg pb hs)) (ps_for hp hc (pi_keys pd) pg pb hs), fun H0 M0 M H σ env D g h => ?_⟩
  unfold forXS at h
  cases q : φ env with
  | bad => rw [q] at h; exact h.elim
  | exc c fs => rw [q] at h; exact h.elim
  | ok d =>
    rw [q] at h
    have hi : isD01 d = true := by
      cases d with
      | dic t es =>
        match t, h with
        | 0, _ => rfl
        | 1, _ => rfl
        | (_ + 2), h => exact h.elim
      | _ => exact h.elim
    obtain ⟨a, ra, run⟩ := rd H0 M0 M H σ env d g q hi
    -- what stands there
    obtain ⟨u, ks, hu, hv, hm, hk, ok⟩ : ∃ (u : HO) (ks : List VL.D), lockO u = true ∧ (H a = some u ∨ ∃ o, H a = some (.frz o u)) ∧ M a = false ∧ keysD d = .ok ks ∧
        ∀ (o : Obj) (H0' H1 : Hp), H0' a = some (.frz o u) → (∃ kvs, u = .dK kvs ∧ ItOk (gm X) H0' M H1 (Itk a o kvs) ks) ∨ ∃ kvs, u = .dT kvs ∧ ItOk (gm X) H0' M H1 (Itkt a o kvs) ks := by
      have two : (∃ es, d = .dic 0 es) ∨ ∃ es, d = .dic 1 es := by
        cases d with
        | dic t es =>
          match t, hi with
          | 0, _ => exact .inl ⟨es, rfl⟩
          | 1, _ => exact .inr ⟨es, rfl⟩
        | _ => cases hi
      rcases two with ⟨es, rfl⟩ | ⟨es, rfl⟩
      · cases ra with
        | @dicK _ kvs _ ha e r =>
          obtain ⟨hm, hv⟩ := Sh_some ha
          exact ⟨.dK kvs, _, rfl, vw_dK hv, hm, rfl, fun o H0' H1 z0 => .inl ⟨kvs, rfl, itOk_keys z0 e⟩⟩
      · cases ra with
        | @dicT _ kvs _ ha e r =>
          obtain ⟨hm, hv⟩ := Sh_some ha
          exact ⟨.dT kvs, _, rfl, vw_dT hv, hm, rfl, fun o H0' H1 z0 => .inr ⟨kvs, rfl, itOk_keysT z0 e⟩⟩
    have h1 : PostS X W H0 M0 M H D (quietO (forL γ ψ ks env)) := by
      have e : (match (Res.ok d).bind keysD with
        | .ok ds => quietO (forL γ ψ ds env)
        | _ => SRes.bad) = quietO (forL γ ψ ks env) := by
        show (match keysD d with
          | .ok ds => quietO (forL γ ψ ds env)
          | _ => SRes.bad) = _
        rw [hk]
      rw [← e]; exact h
    have m0 := m0_of g hm
    rcases hv with hv | ⟨o, hv⟩
    · refine .inl ⟨a, u, hv, ?_, fun od nf => ?_⟩
      · cases u <;> first | trivial | cases hu
      have gl := good_lockS (o := od) g hm hv hu
      have h00 : H0 a = none ∨ H0 a = some u := by
        cases z : H0 a with
        | none => exact .inl rfl
        | some w => rw [← hv]; exact .inr (g.ex _ _ z).symm
      suffices post : PostS X (lockW X W) (upd H0 a (.frz od u)) M0 M (upd H a (.frz od u)) ⟨fun σ' H' => H' a = some (.frz od u) ∧ D.nx σ' (upd H' a u), fun v H' => H' a = some (.frz od u) ∧ D.rt v (upd H' a u), fun σ' H' => H' a = some (.frz od u) ∧ D.bk σ' (upd H' a u), fun σ' H' => H' a = some (.frz od u) ∧ D.ct σ' (upd H' a u)⟩ (forL γ ψ ks env) by
        refine run _ _ (vw_lock hv hu) ⟨a, od, rfl, ?_⟩
        rcases ok od (upd H0 a (.frz od u)) (upd H a (.frz od u)) upd_same with ⟨kvs, rfl, okJ⟩ | ⟨kvs, rfl, okJ⟩
        · exact .inl ⟨kvs, upd_same, for_core rg rb gl okJ post⟩
        · exact .inr ⟨kvs, upd_same, for_core rg rb gl okJ post⟩
      have un : ∀ {M' : Addr → Bool} {H' : Hp} {σ' : L2.St} {env' : Env}, Good (gm X) (upd H0 a (.frz od u)) M0 M' H' σ' env' → Good (gm X) H0 M0 M' (upd H' a u) σ' env' := fun g' => good_unlockS g' g.ok0 h00 m0 hu
      have vx : ∀ {M' : Addr → Bool} {H' : Hp}, H' a = some (.frz od u) → VEx (Sh M (vw (upd H a (.frz od u)))) (Sh M' (vw H')) → VEx (Sh M (vw H)) (Sh M' (vw (upd H' a u))) := fun hd e => by
        rw [vw_lock hv hu] at e
        rw [vw_unlock hd hu]
        exact e
      cases z : forL γ ψ ks env with
      | nx env' => rw [z] at h1; exact fun M' H' σ' g' e' => ⟨(at_lock g' m0).1, h1 M' _ σ' (un g') (vx (at_lock g' m0).1 e')⟩
      | bk env' => rw [z] at h1; exact fun M' H' σ' g' e' => ⟨(at_lock g' m0).1, h1 M' _ σ' (un g') (vx (at_lock g' m0).1 e')⟩
      | ct env' => rw [z] at h1; exact fun M' H' σ' g' e' => ⟨(at_lock g' m0).1, h1 M' _ σ' (un g') (vx (at_lock g' m0).1 e')⟩
      | rt d' =>
        rw [z] at h1
        intro v H' e' r'
        have hd := e' a _ upd_same
        refine ⟨hd, h1 v _ (fun b w hb => ?_) (by rw [vw_unlock hd hu]; exact r')⟩
        by_cases e : b = a
        · subst e
          rcases h00 with y | y
          · rw [y] at hb; cases hb
          · rw [upd_same, ← y]; exact hb
        · rw [upd_ne e]
          exact e' b w (by rw [upd_ne e]; exact hb)
      | xc c fs env' =>
        rw [z] at h1
        intro M' H' σ' cls dd g' e' rx
        have hd := (at_lock g' m0).1
        exact .inr ⟨a, u, od, hd, nf, h1 M' _ σ' cls dd (un g') (vx hd e') (by rw [vw_unlock hd hu]; exact rx)⟩
      | bad => rw [z] at h1; exact h1.elim
      | ro d' => rw [z] at h1; exact h1.elim
    · refine .inr ?_
      have gl := good_up g hm hv
      have h00 : H0 a = none ∨ H0 a = some (.frz o u) := by
        cases z : H0 a with
        | none => exact .inl rfl
        | some w => rw [← hv]; exact .inr (g.ex _ _ z).symm
      suffices post : PostS X (lockW X W) (upd H0 a (.frz o u)) M0 M H D (forL γ ψ ks env) by
        refine run _ _ rfl ⟨a, o, rfl, ?_⟩
        rcases ok o (upd H0 a (.frz o u)) H upd_same with ⟨kvs, rfl, okJ⟩ | ⟨kvs, rfl, okJ⟩
        · exact .inl ⟨kvs, hv, for_core rg rb gl okJ post⟩
        · exact .inr ⟨kvs, hv, for_core rg rb gl okJ post⟩
      have dn : ∀ {M' : Addr → Bool} {H' : Hp} {σ' : L2.St} {env' : Env}, Good (gm X) (upd H0 a (.frz o u)) M0 M' H' σ' env' → Good (gm X) H0 M0 M' H' σ' env' := fun g' => good_down g' g.ok0 h00
      cases z : forL γ ψ ks env with
      | nx env' => rw [z] at h1; exact fun M' H' σ' g' e' => h1 M' H' σ' (dn g') e'
      | bk env' => rw [z] at h1; exact fun M' H' σ' g' e' => h1 M' H' σ' (dn g') e'
      | ct env' => rw [z] at h1; exact fun M' H' σ' g' e' => h1 M' H' σ' (dn g') e'
      | rt d' =>
        rw [z] at h1
        intro v H' e' r'
        refine h1 v H' (fun b w hb => ?_) r'
        by_cases e : b = a
        · subst e
          rcases h00 with y | y
          · rw [y] at hb; cases hb
          · rw [y] at hb; cases hb
            exact e' b _ upd_same
        · exact e' b w (by rw [upd_ne e]; exact hb)
      | xc c fs env' => rw [z] at h1; exact fun M' H' σ' cls dd g' e' rx => .inl (h1 M' H' σ' cls dd (dn g') e' rx)
      | bad => rw [z] at h1; exact h1.elim
      | ro d' => rw [z] at h1; exact h1.elim
end
end VL

set_option maxRecDepth 100000
set_option maxHeartbeats 2000000
set_option autoImplicit false
namespace VL
open PySem L2
section
variable {X : Cx} {W : WX} {tg iter tg1 iter1 elt : Expr} {ifs ifs1 : List Expr} {scope : Scope} {pos : Pos} {ι ι1 : Env → Res (List D)} {γ γ1 : D → Env → Option Env} {τ τ1 : Env → Res Bool} {φ : Env → Res D}
end
end VL

set_option maxRecDepth 100000
set_option maxHeartbeats 2000000
set_option autoImplicit false
namespace VL
open PySem L2
end VL

set_option maxRecDepth 100000
set_option maxHeartbeats 2000000
set_option autoImplicit false
namespace VL
open PySem L2
section
variable {P : Program} {w : World} {H : Hp} {h : Heap} {a : Addr}
end
section
variable {P : Program} {w : World} {H : Hp} {h : Heap} {a : Addr} {kvs : List (NK × Addr × V)}
end
section
variable {X : Cx} {pins : List (Addr × Obj)} {σ : St} {H : Hp} {s : Shared} {a q : Addr} {A : Around} {E : Value → Shared → Prop} {G : Vw} {kvs : List (NK × Addr × V)} {k : NK} {v : V} {r : Value}
structure NRd (X : Cx) (H : Hp) (a q : Addr) (kvs : List (NK × Addr × V)) (k : NK) : Prop where
  rd : Rd H a (nDict X.w a kvs)
  ks : ∀ e ∈ kvs, NTup H e.1 e.2.1
  ky : NTup H k q
end
end VL

set_option maxRecDepth 100000
set_option maxHeartbeats 2000000
set_option autoImplicit false
namespace VL
open PySem L2
theorem NItem.to {G G' : Vw} (e : ∀ a xs, G a = some (.tup xs) → G' a = some (.tup xs)) {k : Sum Key (List Key)} {x : V} (h : NItem G k x) : NItem G' k x := by
  cases k with
  | inl k => exact h
  | inr ks => obtain ⟨b, h1, h2⟩ := h; exact ⟨b, h1, e _ _ h2⟩
theorem NItems.to {G G' : Vw} (e : ∀ a xs, G a = some (.tup xs) → G' a = some (.tup xs)) : ∀ {k : NK} {xs : List V}, NItems G k xs → NItems G' k xs
  | _, _, .nil => .nil
  | _, _, .cons a b => .cons (a.to e) (b.to e)
theorem NTup.to {G G' : Vw} (e : ∀ a xs, G a = some (.tup xs) → G' a = some (.tup xs)) {k : NK} {q : Addr} (h : NTup G k q) : NTup G' k q := by
  obtain ⟨xs, h1, h2⟩ := h
  exact ⟨xs, e _ _ h1, h2.to e⟩
section
variable {X : Cx} {W : WX} {fla flb fl : Bool} {a b value : Expr} {φa φb : Env → Res D} {pos pos' : Pos}
end
end VL

set_option maxRecDepth 100000
set_option maxHeartbeats 2000000
set_option autoImplicit false
namespace VL
open PySem L2
section
variable {X : Cx} {W : WX} {fla flb fl : Bool} {a b value : Expr} {φa φb : Env → Res D} {pos pos' : Pos}
end
end VL

set_option maxRecDepth 100000
set_option maxHeartbeats 2000000
set_option autoImplicit false
namespace VL
open PySem L2
section
variable {X : Cx} {pins : List (Addr × Obj)} {σ : St} {H : Hp} {s : Shared} {d : Addr} {o : Obj} {kvs : List (NK × Addr × V)}
end
section
variable {P : Program} {w : World} {K : PySem.W.Frag} {tg : Expr} {d : Addr} {o : Obj} {es : Array DictEntry} {ep : Nat} {kvs : List (NK × Addr × V)}
end
section
variable {X : Cx} {tg e : Expr} {td : TE} {apos cpos : Pos}
end
end VL

set_option maxRecDepth 100000
set_option maxHeartbeats 2000000
set_option autoImplicit false
namespace VL
open PySem L2
section
variable {X : Cx} {W : WX} {tg elt kx vx : Expr} {ifs : List Expr} {scope : Scope} {own : List (Str × Nat)} {pos : Pos} {γ : D → Env → Option Env} {τ : Env → Res Bool} {φ φk φv : Env → Res D}
end
end VL

set_option maxRecDepth 100000
set_option maxHeartbeats 2000000
set_option autoImplicit false
namespace VL
open PySem L2
section
variable {X : Cx} {W : WX} {tg elt iter : Expr} {ifs : List Expr} {scope : Scope} {own : List (Str × Nat)} {pos : Pos} {γ : D → Env → Option Env} {τ : Env → Res Bool} {φ φd : Env → Res D}
end
end VL

set_option maxRecDepth 100000
set_option maxHeartbeats 2000000
set_option autoImplicit false
namespace VL
open PySem L2
section
variable {X : Cx} {W : WX} {flb fl : Bool} {b : Expr} {φb : Env → Res D} {pos : Pos}
end
end VL

set_option maxRecDepth 100000
set_option maxHeartbeats 2000000
set_option autoImplicit false
namespace VL
open PySem L2
def dct : Option HO → Bool
  | some (.dK _) => true
  | some (.dT _) => true
  | some (.ext _) => true
  | _ => false
def dm (M : Addr → Bool) (H : Hp) (a : Addr) : Bool := M a && !dct (H a)
def nodic : D → Bool
  | .tup ds => nodics ds
  | .lst ds => nodics ds
  | .scr _ => false
  | .dic _ _ => false
  | .ins _ _ => false
  | .exn _ _ => false
  | .sel _ _ _ => false
  | _ => true
where nodics : List D → Bool
  | [] => true
  | d :: ds => nodic d && nodics ds
mutual
theorem Rp.nd {mg : Gm} {G G' : Vw} (e : ∀ a xs, G a = some (.tup xs) → G' a = some (.tup xs)) (e2 : ∀ a xs, G a = some (.lst xs) → G' a = some (.lst xs)) : ∀ {d : D} {v : V}, Rp mg G d v → nodic d = true → Rp mg G' d v
  | _, _, .non, _ => .non
  | _, _, .bl b, _ => .bl b
  | _, _, .int i, _ => .int i
  | _, _, .str s, _ => .str s
  | _, _, .tup h r, q => .tup (e _ _ h) (RpL.nd e e2 r q)
  | _, _, .lst h r, q => .lst (e2 _ _ h) (RpL.nd e e2 r q)
  | _, _, .scr h, q => by cases q
  | _, _, .dicK h k r, q => by cases q
  | _, _, .dicT h k r, q => by cases q
  | _, _, .dicN h n k r, q => by cases q
  | _, _, .ins m h k r, q => by cases q
  | _, _, .sel m h k r, q => by cases q
  | _, _, .exn0 .., q => by cases q
  | _, _, .exnF .., q => by cases q
theorem RpL.nd {mg : Gm} {G G' : Vw} (e : ∀ a xs, G a = some (.tup xs) → G' a = some (.tup xs)) (e2 : ∀ a xs, G a = some (.lst xs) → G' a = some (.lst xs)) : ∀ {ds : List D} {vs : List V}, RpL mg G ds vs → nodic.nodics ds = true → RpL mg G' ds vs
  | _, _, .nil, _ => .nil
  | _, _, .cons h r, q => by
    obtain ⟨q1, q2⟩ := Bool.and_eq_true_iff.mp (show (nodic _ && nodic.nodics _) = true from q)
    exact .cons (Rp.nd e e2 h q1) (RpL.nd e e2 r q2)
end
def PostAd (X : Cx) (W : WX) (M : Addr → Bool) (σ : St) (H : Hp) (Q : List V → Hp → Prop) : Res (List D) → Prop
  | .ok ds => ∀ vs H', Ext H H' → RpL (gm X) (Sh (dm M H') (vw H')) ds vs → Q vs H'
  | .exc c fs => ∀ cls dd H', Ext H H' → RpX (gm X) (Sh M (vw H')) c fs cls dd → W cls dd σ H'
  | .bad => False
section
variable {X : Cx} {W : WX} {e : Expr} {es : List Expr} {pos p : Pos} {φ : Env → Res D} {φs : Env → Res (List D)} {k n : Nat} {x : Str} {ps : List Str} {F : List D → Res D}
theorem PostAd.mono {M : Addr → Bool} {σ : St} {H H' : Hp} {Q : List V → Hp → Prop} {r : Res (List D)} (h : PostAd X W M σ H Q r) (e : Ext H H') : PostAd X W M σ H' Q r := by
  cases r with
  | ok d => exact fun v H2 e2 r => h v H2 (e.trans e2) r
  | exc c fs => exact fun cls dd H2 e2 r => h cls dd H2 (e.trans e2) r
  | bad => exact h
end
end VL

set_option maxRecDepth 100000
set_option maxHeartbeats 2000000
set_option autoImplicit false
namespace VL
open PySem L2
section
variable {X : Cx} {W : WX} {e : Expr} {es : List Expr} {pos p : Pos} {φs : Env → Res (List D)}
end
end VL

set_option maxRecDepth 100000
set_option maxHeartbeats 2000000
set_option autoImplicit false
namespace VL
open PySem L2
@[irreducible] def fuelN (_ : Env) : Nat := 1000000
section
variable {X : Cx} {W : WX} {e : Expr} {pos : Pos} {φ : Env → Res D}
end
end VL

set_option maxRecDepth 100000
set_option maxHeartbeats 2000000
set_option autoImplicit false
namespace VL
open PySem L2 PyProof.Rows
section
variable {X : Cx} {W : WX} {tg elt kx vx iter : Expr} {ifs : List Expr} {scope : Scope} {own : List (Str × Nat)} {pos spos py : Pos} {γ : D → Env → Option Env} {τ : Env → Res Bool} {φ φk φv : Env → Res D} {ι : Env → Res (List D)}
end
end VL

set_option maxRecDepth 100000
set_option maxHeartbeats 2000000
set_option autoImplicit false
namespace VL
open PySem L2
section
variable {X : Cx} {W : WX} {fl : Bool} {e : Expr} {φ : Env → Res D}
end
end VL

set_option maxRecDepth 100000
set_option maxHeartbeats 2000000
set_option autoImplicit false
namespace VL
open PySem L2
section
variable {X : Cx} {CX : CXT} {k : Nat} {C f : Addr} {fd : FuncData} {ps : List Str} {sp : Sp} {pos : Pos} {a b : Expr} {ta tb : TE} {E : L2.St → XK} {op : CmpOp}
def tOwnIn (C : Addr) (neg : Bool) (sp : Sp) (E : L2.St → XK) (ta tb : TE) : TE := fun σ H Q => ta σ H fun x H1 => tb σ H1 fun y H2 => (∃ a dx fs, y = .ref a ∧ H2 a = some (.ins C dx fs)) ∧ sp [y, x] H2 (fun z H3 => ∃ r, z = .bl r ∧ Q (.bl (r != neg)) H3) (E σ)
def inOp (neg : Bool) : CmpOp := if neg = true then .NotIn else .In
theorem ownIn_run {neg : Bool} {pins : List (Addr × Obj)} {s : Shared} {σ : L2.St} {H : Hp} {x y : V} {v u : Value} {Q : VK} (me : Meth X.K C "__contains__" f) (F : FnOk X.prog X.w X.K X.mg X.base CX k f fd ps sp) (hr : Room k X.A) (hb : Binds X.K fd ps []) (hx : ∀ σ, PassesAt CX X σ (E σ))
    (I : Inv X pins σ H s) (rx : RelV x v) (ry : RelV y u) (h1 : ∃ a dx fs, y = .ref a ∧ H a = some (.ins C dx fs)) (h3 : sp [y, x] H (fun z H3 => ∃ r, z = .bl r ∧ Q (.bl (r != neg)) H3) (E σ)) : wpAny (model X.prog X.w) X.A (compareOp (inOp neg) v u) (EP X pins σ Q) X.xe s := by
  obtain ⟨a, dx, fs, rfl, ea⟩ := h1
  obtain rfl : u = Value.ref a := ry
  obtain ⟨mA, J, _⟩ := ins_get I.hok ea
  obtain ⟨od, J, _⟩ := J.look
  obtain ⟨m, hF⟩ := I.fr
  have call := run_fnS (us := [.ref a, v]) (vs := [.ref a, x]) F hr hb (hx σ) I (.cons rfl (.cons rx .nil)) h3
  cases neg with
  | false =>
    refine PySem.W.in_K hF I.ok.mod.kin J me.at_ me.fn (wpAny_mono call (fun v' s' z => ?_) fun _ _ z => z)
    obtain ⟨w, H', I', rw', r, rfl, q⟩ := z
    cases rw'
    rw [Bool.bne_false] at q
    exact wpAny_truthy_bool ⟨.bl r, H', I', rfl, q⟩
  | true =>
    refine PySem.W.notIn_K hF I.ok.mod.kin J me.at_ me.fn (wpAny_mono call (fun v' s' z => ?_) fun _ _ z => z)
    obtain ⟨w, H', I', rw', r, rfl, q⟩ := z
    cases rw'
    rw [Bool.bne_true] at q
    exact wpAny_truthy_bool ⟨.bl (!r), H', I', rfl, q⟩
theorem pe_ownIn {neg : Bool} (me : Meth X.K C "__contains__" f) (F : FnOk X.prog X.w X.K X.mg X.base CX k f fd ps sp) (hr : Room k X.A) (hb : Binds X.K fd ps []) (hx : ∀ σ, PassesAt CX X σ (E σ)) (pa : PE X a ta) (pb : PE X b tb)
    (hm : behindInMarks (inOp neg) b = false) : PE X (.Compare a [inOp neg] [b] pos) (tOwnIn C neg sp E ta tb) := by
  refine ⟨fun pins s σ H Q I h => ?_⟩
  exact wpAny_Compare1 (binT pa pb I h fun v u s2 x y H2 I2 rx ry q => ownIn_run me F hr hb hx I2 rx ry q.1 q.2) hm
theorem pt_ownIn {neg : Bool} (me : Meth X.K C "__contains__" f) (F : FnOk X.prog X.w X.K X.mg X.base CX k f fd ps sp) (hr : Room k X.A) (hb : Binds X.K fd ps []) (hx : ∀ σ, PassesAt CX X σ (E σ)) (pa : PE X a ta) (pb : PE X b tb)
    (hm : behindInMarks (inOp neg) b = false) : PT X (.Compare a [inOp neg] [b] pos) (tTest (tOwnIn C neg sp E ta tb)) := by
  refine ⟨fun pins s σ H Q I h => ?_⟩
  refine wpAny_isTrue_Compare1 (thn (pa.run pins s σ H _ I h) fun v s1 ⟨x, H1, I1, r1, q1⟩ => thn (pb.run pins s1 σ H1 _ I1 q1) fun u s2 ⟨y, H2, I2, r2, q2⟩ =>
    thn (ownIn_run (Q := fun x H' => ∃ k, x = .bl k ∧ Q k H') me F hr hb hx I2 r1 r2 q2.1 q2.2) fun c s3 ⟨z, H3, I3, r3, k', e, q3⟩ => ?_) hm
  subst e
  cases r3
  exact wpAny_truthy_bool ⟨H3, I3, q3⟩
end
def isInsC (c : Str) : D → Bool
  | .ins c' _ => decide (c' = c)
  | _ => false
def neqR (neg : Bool) : Res D → Res D
  | .ok (.bl r) => .ok (.bl (r != neg))
  | .ok _ => .bad
  | .exc c fs => .exc c fs
  | .bad => .bad
def ownInE (c : Str) (neg : Bool) (F : List D → Res D) (φa φb : Env → Res D) (env : Env) : Res D := (φa env).bind fun d => (φb env).bind fun e => if isInsC c e = true then neqR neg (F [e, d]) else .bad
theorem insC_at {mg : Gm} {G : Vw} {d : D} {v : V} {c : Str} (h : isInsC c d = true) (r : Rp mg G d v) : ∃ (a C dx : Addr) (fs : List (Str × V)), v = .ref a ∧ mg.mg c = some (.ref C) ∧ G a = some (.ins C dx fs) := by
  cases d with
  | ins c' gs =>
    have ec := of_decide_eq_true (show decide (c' = c) = true from h)
    subst ec
    obtain ⟨a, C, dx, fs, z1, z2, z3, _⟩ := ins_of rfl r
    exact ⟨a, C, dx, fs, z1, z2, z3⟩
  | _ => cases h
section
variable {X : Cx} {W : WX} {fl : Bool} {a b : Expr} {pos : Pos} {φa φb : Env → Res D} {c m : Str} {k : Nat} {ps : List Str} {F : List D → Res D} {op : CmpOp}
theorem ownIn_read {neg : Bool} {C : Addr} {H0 : Hp} {M0 M : Addr → Bool} {H : Hp} {σ : L2.St} {env : Env} {Q : VK} {ta tb : TE} (hC : X.mg c = some (.ref C))
    (ra : ∀ (H0 : Hp) (M0 M : Addr → Bool) (H : Hp) (σ : L2.St) (env : Env) (Q : VK), Good (gm X) H0 M0 M H σ env → PostE X W true M σ H Q (φa env) → ta σ H Q)
    (rb : ∀ (H0 : Hp) (M0 M : Addr → Bool) (H : Hp) (σ : L2.St) (env : Env) (Q : VK), Good (gm X) H0 M0 M H σ env → PostE X W true M σ H Q (φb env) → tb σ H Q)
    (g : Good (gm X) H0 M0 M H σ env) (h : PostE X W fl M σ H Q (ownInE c neg F φa φb env)) : tOwnIn C neg (spV ⟨X.prog, X.w, X.K, X.mg⟩ 2 F) (WE W) ta tb σ H Q := by
  have h0 : PostE X W fl M σ H Q ((φa env).bind fun d => (φb env).bind fun e => if isInsC c e = true then neqR neg (F [e, d]) else .bad) := h
  refine ra H0 M0 M H σ env _ g (PostE.seq h0 fun d v H1 e1 r1 h1 => ?_)
  refine rb H0 M0 M H1 σ env _ (g.mono e1) (PostE.seq h1 fun e w H2 e2 r2 h2 => ?_)
  obtain ⟨q1, h2⟩ := PostE.ite h2
  have r1' := r1.mono (Sh_mono e2.v)
  obtain ⟨x, C', dx, fs, rfl, y1, y2⟩ := insC_at q1 r2
  have y1' : X.mg c = some (.ref C') := y1
  rw [hC] at y1'
  cases y1'
  refine ⟨⟨x, dx, fs, rfl, vw_ins (Sh_some y2).2⟩, rfl, M, [e, d], (g.ok.mono e1).mono e2, .cons r2 (.cons r1' .nil), ?_⟩
  cases z : F [e, d] with
  | ok d =>
    rw [z] at h2
    cases d with
    | bl r =>
      have h2 : PostE X W fl M σ H2 Q (.ok (.bl (r != neg))) := h2
      exact fun v H3 e3 r3 => by
        cases r3
        exact ⟨r, rfl, h2 _ H3 e3 (.bl _)⟩
    | _ => exact h2.elim
  | exc c fs => rw [z] at h2; exact h2
  | bad => rw [z] at h2; exact h2
theorem ve_ownIn {neg : Bool} (hM : MethOk X.prog X.w X.K X.mg X.base c "__contains__" k ps 2 F) (tk : L2N.Takes X W) (hr : Room k X.A) (ha : VE X W true a φa) (hb : VE X W true b φb) (hm : behindInMarks (inOp neg) b = false) : VE X W fl (.Compare a [inOp neg] [b] pos) (ownInE c neg F φa φb) := by
  obtain ⟨ta, pa, ra⟩ := ha
  obtain ⟨tb, pb, rb⟩ := hb
  obtain ⟨C, f, fd, x1, x2, x3, x4, x5⟩ := hM.ex
  exact ⟨_, pe_ownIn x3 x5 hr x4 (fun σ => L2N.passAt tk σ) pa pb hm, fun H0 M0 M H σ env Q g h => ownIn_read (C := C) x1 ra rb g h⟩
theorem vt_ownIn {neg : Bool} (hM : MethOk X.prog X.w X.K X.mg X.base c "__contains__" k ps 2 F) (tk : L2N.Takes X W) (hr : Room k X.A) (ha : VE X W true a φa) (hb : VE X W true b φb) (hm : behindInMarks (inOp neg) b = false) : VT X W (.Compare a [inOp neg] [b] pos) (tE (ownInE c neg F φa φb)) := by
  obtain ⟨ta, pa, ra⟩ := ha
  obtain ⟨tb, pb, rb⟩ := hb
  obtain ⟨C, f, fd, x1, x2, x3, x4, x5⟩ := hM.ex
  refine ⟨_, pt_ownIn x3 x5 hr x4 (fun σ => L2N.passAt tk σ) pa pb hm, fun H0 M0 M H σ env Q g h => ?_⟩
  have h' : PostE X W true M σ H (fun x H' => ∃ k, x = .bl k ∧ Q k H') (ownInE c neg F φa φb env) := by
    refine PostT.seq h fun d v H1 e1 r1 h1 => ?_
    cases d with
    | bl k => cases r1; exact ⟨k, rfl, h1 H1 (Ext.refl _)⟩
    | _ => exact h1.elim
  exact ownIn_read (C := C) x1 ra rb g h'
end
end VL
namespace VL
open PySem L2
end VL

set_option maxRecDepth 100000
set_option maxHeartbeats 2000000
set_option autoImplicit false
namespace VNe
open PySem PySem.Spec PyProof.Rows PySem.SeqAt
section
variable {M : Model} {prog : Program} {w : World} {A : Around} {E : Value → Shared → Prop} {s : Shared} {K : PySem.W.Frag} {x C L f : Addr} {h₀ : Heap} {m : Str → Option Value} {ox : Obj} {od : Option Obj} {b tb : Value}
open PySem.W in
end
end VNe
namespace VL
open PySem L2
section
variable {X : Cx} {CX : CXT} {k : Nat} {C f : Addr} {fd : FuncData} {ps : List Str} {sp : Sp} {pos : Pos} {a b : Expr} {ta tb : TE} {E : L2.St → XK}
end
structure OwnNe (K : PySem.W.Frag) (mg : Str → Option Value) (c : Str) : Prop where
  ex : ∀ C, mg c = some (.ref C) → PySem.W.notFirst K C (.type "int") = true ∧ PySem.W.notFirst K C (.type "list") = true ∧ PySem.W.findIn K (.ref C) "__ne__" = some (some (.builtin "object.__ne__")) ∧ PySem.W.mroIn K C (.type "object") = some true
section
variable {X : Cx} {W : WX} {fl : Bool} {a b : Expr} {pos : Pos} {φa φb : Env → Res D} {c : Str} {k : Nat} {ps : List Str} {F : List D → Res D}
end
end VL

set_option maxRecDepth 100000
set_option maxHeartbeats 2000000
set_option autoImplicit false
namespace VL
open PySem L2

section
variable {X : Cx} {W : WX} {fl : Bool} {e : Expr} {es : List Expr} {p : Pos} {φ : Env → Res D} {φs : Env → Res (List D)}
end
end VL

set_option maxRecDepth 100000
set_option maxHeartbeats 2000000
set_option autoImplicit false
namespace VL
open PySem L2

section
variable {X : Cx} {W : WX} {fl fla : Bool}
end
end VL

set_option maxRecDepth 100000
set_option maxHeartbeats 2000000
set_option autoImplicit false
namespace VL
open PySem L2

section
variable {X : Cx} {W : WX} {fl : Bool} {e : Expr} {k : Nat} {p1 p2 p3 pos : Pos} {φ : Env → Res D}
end
end VL

set_option maxRecDepth 100000
set_option maxHeartbeats 2000000
set_option autoImplicit false
namespace VL
open PySem L2 PyProof.Rows
section
variable {X : Cx} {P : Program} {w : World} {A : Around} {s : Shared} {H : Hp}
variable {W : WX} {fl fla flb : Bool}
end
end VL

set_option maxRecDepth 100000
set_option maxHeartbeats 2000000
set_option autoImplicit false
namespace PySem.SeqAt
open AutoSeq1 (wpAny_loadPart')
open MeetsSeq MeetsSeq2 MeetsSeq3 SeqRoads2
section
variable {P : Program} {Wd : World}
end
end PySem.SeqAt
namespace VL
open PySem L2 PyProof.Rows
section
variable {X : Cx}
variable {W : WX} {fl fla flb : Bool}
end
end VL

set_option maxRecDepth 100000
set_option maxHeartbeats 2000000
namespace VL
open PySem L2
abbrev kwG : List Value → List Value → List Value := fun us ws => us ++ ws
abbrev kwV : List V → List V → List V := fun vs zs => vs ++ zs
structure RawKw (K : PySem.W.Frag) (mg : Str → Option Value) (x : Str) (st : Stmt) (ps : List Str) (m : Nat) (ks : List Str) : Prop where
  ex : ∃ (f : Addr) (fd : FuncData), mg x = some (.ref f) ∧ Fun K x x st f fd ∧ KBn K fd ps m ks kwG kwV
structure DefOkKw (P : Program) (w : World) (K : PySem.W.Frag) (mg : Str → Option Value) (base : Heap) (x : Str) (k : Nat) (ps : List Str) (m : Nat) (ks : List Str) (n : Nat) (F : List D → Res D) : Prop where
  ex : ∃ (f : Addr) (fd : FuncData), mg x = some (.ref f) ∧ PySem.W.keepIn K (.ref f) = true ∧ KBn K fd ps m ks kwG kwV ∧ FnOk P w K mg base (L2N.CX P w) k f fd ps (spV ⟨P, w, K, mg⟩ n F)
section
variable {X : Cx} {W : WX} {fl : Bool} {k m n : Nat} {f : Addr} {fd : FuncData} {ps ks : List Str} {sp : Sp} {x : Str} {p pos : Pos} {e : Expr} {es : List Expr} {kws : List Keyword} {t tk : TA} {F : List D → Res D}
end
end VL

set_option maxRecDepth 100000
set_option maxHeartbeats 2000000
set_option autoImplicit false
namespace VL
open PySem L2
section
variable {X : Cx} {CX : CXT} {k : Nat} {C f : Addr} {fd : FuncData} {ps : List Str} {sp : Sp} {pos : Pos} {a b : Expr} {ta tb : TE} {E : L2.St → XK} {op : Operator}
end
section
variable {X : Cx} {W : WX} {fl : Bool} {a b : Expr} {pos : Pos} {φa φb : Env → Res D} {c m : Str} {k : Nat} {ps : List Str} {F : List D → Res D} {op : Operator}
end
end VL

set_option maxRecDepth 100000
set_option maxHeartbeats 2000000
set_option autoImplicit false
namespace VL
open PySem L2
section
open DT
end
section
variable {X : Cx}
end
section
variable {X : Cx} {W : WX} {fla : Bool} {e : Expr} {pos : Pos} {φk : Env → Res D}
end
end VL

set_option maxRecDepth 100000
set_option maxHeartbeats 2000000
namespace VL
open PySem L2
section
variable {X : Cx} {W : WX} {tg elt : Expr} {ifs : List Expr} {scope : Scope} {own : List (Str × Nat)} {pos : Pos} {γ : D → Env → Option Env} {τ : Env → Res Bool} {φ : Env → Res D}
end
end VL

set_option maxRecDepth 100000
set_option maxHeartbeats 2000000
namespace VL
open PySem L2
def LastOk (mg : Gm) (H0 : Hp) (M0 : Addr → Bool) (H' : Hp) (ds : List VL.D) (v : V) : Prop :=
  ∃ (t q : Addr) (xs : List V) (ds' es : List VL.D), v = .ref t ∧ ds = ds' ++ [.lst es] ∧ H' t = some (.tup (xs ++ [.ref q])) ∧ xs.length = ds'.length ∧ H0 q = none ∧ OwOk mg (addM M0 q) H' q (.lst es)
def PostL (X : Cx) (W : WX) (H0 : Hp) (M0 M : Addr → Bool) (H : Hp) (D : Ends) : SRes → Prop
  | .rt (.tup ds) => ∀ v H', Ext H0 H' → LastOk (gm X) H0 M0 H' ds v → D.rt v H'
  | .rt _ => False
  | r => PostS X W H0 M0 M H D r
section
variable {X : Cx} {W : WX} {st : Stmt} {sts : List Stmt} {ψ χ : Env → SRes} {H0 H H' : Hp} {M0 M M' : Addr → Bool} {D : Ends} {r : SRes}
theorem PostL.mono (h : PostL X W H0 M0 M H D r) (e : VEx (Sh M (vw H)) (Sh M' (vw H'))) : PostL X W H0 M0 M' H' D r := by
  cases r with
  | rt d => cases d <;> exact h
  | nx env => exact PostS.mono (W := W) (D := D) (r := .nx env) h e
  | bk env => exact PostS.mono (W := W) (D := D) (r := .bk env) h e
  | ct env => exact PostS.mono (W := W) (D := D) (r := .ct env) h e
  | xc c fs env => exact PostS.mono (W := W) (D := D) (r := .xc c fs env) h e
  | bad => exact h
  | ro d => exact PostS.mono (W := W) (D := D) (r := .ro d) h e
end
section
end
section
variable {X : Cx} {W : WX} {a0 a1 a2 : Expr} {φ0 φ1 φ2 : Env → Res VL.D} {pos pos' px : Pos}
end
def PostLd (mg : Gm) (M : Addr → Bool) (H : Hp) (Q : VK) (E : XK) : Res VL.D → Prop
  | .ok (.tup ds) => ∀ v H', Ext H H' → LastOk mg H M H' ds v → Q v H'
  | .ok _ => False
  | .exc c fs => ∀ cls dd H', Ext H H' → RpX mg (Sh M (vw H')) c fs cls dd → E cls dd H'
  | .bad => False
def spL (mg : Gm) (n : Nat) (F : List VL.D → Res VL.D) : Sp := fun vs H Q E => vs.length = n ∧ ∃ (M : Addr → Bool) (ds : List VL.D), MOk M H ∧ RpL mg (Sh M (vw H)) ds vs ∧ PostLd mg M H Q E (F ds)
structure DefOkL (P : Program) (w : World) (K : PySem.W.Frag) (mg : Str → Option Value) (base : Heap) (x : Str) (k : Nat) (ps : List Str) (n : Nat) (F : List D → Res D) : Prop where
  ex : ∃ (f : Addr) (fd : FuncData), mg x = some (.ref f) ∧ PySem.W.keepIn K (.ref f) = true ∧ Binds K fd ps [] ∧ FnOk P w K mg base (L2N.CX P w) k f fd ps (spL ⟨P, w, K, mg⟩ n F)
section
variable {P : Program} {w : World} {K : PySem.W.Frag} {mg : Str → Option Value} {base : Heap} {x qual : Str} {st : Stmt} {N ps : List Str} {k n : Nat} {ψ : Env → SRes} {F G : List D → Res D}
variable {X : Cx} {W : WX} {e b : Expr} {es : List Expr} {pos pos2 p : Pos} {φs : Env → Res (List D)}
end
end VL

set_option maxRecDepth 100000
set_option maxHeartbeats 2000000
namespace VL
open PySem L2
def PostKp (X : Cx) (H0 : Hp) (M0 M : Addr → Bool) (H : Hp) (v : Option (Option V)) (i : Nat) (D : Ends) : SRes → Prop
  | .nx env => ∀ M' H' σ', Good (gm X) H0 M0 M' H' σ' env → VEx (Sh M (vw H)) (Sh M' (vw H')) → σ'[i]? = v → D.nx σ' H'
  | .bk env => ∀ M' H' σ', Good (gm X) H0 M0 M' H' σ' env → VEx (Sh M (vw H)) (Sh M' (vw H')) → σ'[i]? = v → D.bk σ' H'
  | .ct env => ∀ M' H' σ', Good (gm X) H0 M0 M' H' σ' env → VEx (Sh M (vw H)) (Sh M' (vw H')) → σ'[i]? = v → D.ct σ' H'
  | _ => False
section
variable {X : Cx} {W : WX} {i : Nat} {st : Stmt} {sts : List Stmt} {e : Expr} {pos : Pos} {ψ χ : Env → SRes} {φ : Env → Res VL.D} {τ : Env → Res Bool} {fla : Bool}
theorem PostKp.mono {H0 H H' : Hp} {M0 M M' : Addr → Bool} {v : Option (Option V)} {D : Ends} {r : SRes} (h : PostKp X H0 M0 M H v i D r) (e : VEx (Sh M (vw H)) (Sh M' (vw H'))) : PostKp X H0 M0 M' H' v i D r := by
  cases r <;> first | exact h | exact fun M2 H2 σ2 g e2 hv => h M2 H2 σ2 g (e.trans e2) hv
end
def PostU (mg : Gm) (M : Addr → Bool) (H : Hp) (p : Addr) (Q : VK) : Res VL.D → Prop
  | .ok d => ∀ H', (∀ a u, a ≠ p → H a = some u → H' a = some u) → OwOk mg M H' p d → Q .non H'
  | _ => False
def spU (mg : Gm) (n : Nat) (F : List VL.D → Res VL.D) : Sp := fun vs H Q _ => vs.length = n ∧ ∃ (M : Addr → Bool) (p : Addr) (d : VL.D) (ds : List VL.D) (vs' : List V), vs = .ref p :: vs' ∧ MOk M H ∧ M p = true ∧ OwOk mg M H p d ∧ RpL mg (Sh M (vw H)) ds vs' ∧ PostU mg M H p Q (F (d :: ds))
structure DefOkU (P : Program) (w : World) (K : PySem.W.Frag) (mg : Str → Option Value) (base : Heap) (x : Str) (k : Nat) (ps : List Str) (n : Nat) (F : List D → Res D) : Prop where
  ex : ∃ (f : Addr) (fd : FuncData), mg x = some (.ref f) ∧ PySem.W.keepIn K (.ref f) = true ∧ Binds K fd ps [] ∧ FnOk P w K mg base (L2N.CX P w) k f fd ps (spU ⟨P, w, K, mg⟩ n F)
section
variable {P : Program} {w : World} {K : PySem.W.Frag} {mg : Str → Option Value} {base : Heap} {x qual : Str} {st : Stmt} {N ps : List Str} {k n : Nat} {ψ : Env → SRes} {F G : List D → Res D}
variable {X : Cx} {W : WX} {es : List Expr} {pos cpos p px : Pos} {φs : Env → Res (List D)} {y : Str}
end
end VL

set_option maxRecDepth 100000
set_option maxHeartbeats 2000000
set_option autoImplicit false
namespace VL
open PySem PySem.Spec PyProof.Rows L2
section
structure Part (P : Program) (w : World) (j l : Addr) (ws : Array Value) (St : Nat → Heap → Prop) : Prop where
  item : ∀ (B : Around) (t : Shared) (E : Value → Shared → Prop) (Q : Value → Shared → Prop) (k : Nat) (x : Value), St k t.heap → ws[k]? = some x → (∀ g, St (k + 1) g → Heap.SameBut j t.heap g → Q x { t with heap := g }) → wpAny (model P w) B (Builtin.SmallTypes.nextOf (.ref j)) Q E t
  stop : ∀ (B : Around) (t : Shared) (E : Value → Shared → Prop) (Q : Value → Shared → Prop) (k : Nat), B.handled = none → St k t.heap → ws[k]? = none → (∀ g e, Heap.ExtBut j t.heap g → (∃ o, g.get? e = some o ∧ o.cls = .type "StopIteration") → E (.ref e) { t with heap := g }) → wpAny (model P w) B (Builtin.SmallTypes.nextOf (.ref j)) Q E t
  keep : ∀ (k : Nat) (h g : Heap), St k h → (∀ c o, c = j ∨ c = l → h.get? c = some o → g.get? c = some o) → St k g
  obj : ∀ (k : Nat) (h : Heap), St k h → ∃ o, h.get? j = some o ∧ ∀ v, o.data ≠ .cell v
variable {P : Program} {w : World} {B : Around} {E : Value → Shared → Prop} {t : Shared} {q u o j1 j2 l1 l2 : Addr} {k : Nat} {ws vs : Array Value} {St Sv : Nat → Heap → Prop} {a b x y : Value}
theorem Part.sb (p : Part P w j1 l1 ws St) {h g : Heap} {c : Addr} (st : St k h) (sb : Heap.SameBut c h g) (n1 : j1 ≠ c) (n2 : l1 ≠ c) : St k g := p.keep k h g st fun d o hd hg => sb.extBut d o (by rcases hd with rfl | rfl <;> assumption) hg
end
section
end
section
end
end VL

set_option maxRecDepth 100000
set_option maxHeartbeats 2000000
set_option autoImplicit false
namespace VL
open PySem PySem.Spec PyProof.Rows L2
section
variable {X : Cx} {W : WX} {e : Expr} {es : List Expr} {pos : Pos} {φs : Env → Res (List VL.D)}
end
end VL

set_option maxRecDepth 100000
set_option maxHeartbeats 2000000
set_option autoImplicit false
namespace VL
open PySem PySem.Spec PyProof.Rows L2
theorem walk_ofT {l : PySem.W.OpenLaw} {n k : Nat} {q : Program} {loose : List Str} {XP : (Str → Option Value) → Heap → Prop} {YP : World → Heap → Prop} {d : DefRec} {CX : World → CXT} {x : Str}
    (hn : l.most = some n) (hn2 : n ≤ sizeLine) (hdf : d.params.defaults = []) (hr : Room k callerA) (h63 : n ≤ 63)
    (F : ∀ (w : World) (mg : Str → Option Value) (fa : Addr) (h : Heap), YP w h → h.Ns mainGlobals mg → mg d.name = some (.ref fa) →
      ∃ (K : Fr) (fd : FuncData), K.In h ∧ (∀ (s : Shared) (u : Value), BindsTo s fd ⟨[u], []⟩ [(x, u)]) ∧ ∀ base : Heap, K.In base → base.Ns mainGlobals mg → FnOk l.prog w K mg base (CX w) k fa fd [x] (spEnd K))
    (hCX : ∀ (w : World) (H : Hp) (s : Shared) (e : Value) (s' : Shared), CX w [] H s (fun _ _ _ => False) e s' → False) :
    PySem.W.WalkO q loose XP YP l.row.toRowW d [] (fun f vs => PySem.call f vs) := by
  refine Att.attach_callB hn hdf fun w s0 s1 mg mb fa o pm cd doc a vs ns G Y ho hd hcd hmg hobj hints hlen hbits hg => ?_
  obtain ⟨K, fd, KX, hb, hF⟩ := F w mg fa _ Y G.T.g hmg
  exact law_call KX G.T.g G.T.b G.T.builtins G.T.nolimit hg hobj hints (Nat.le_trans hlen hn2) hr hF hb (fun H _ hS => ⟨a, ns, rfl, hS, Nat.le_trans hlen h63, hbits, fun _ => rfl⟩) fun H e s' => hCX w H s1 e s'
end VL

set_option maxRecDepth 100000
set_option maxHeartbeats 2000000
set_option autoImplicit false
namespace VL
open PySem PySem.Spec PyProof.Rows L2
section
variable {X : Cx} {W : WX} {a b : Expr} {pos : Pos} {φa φb : Env → Res VL.D}
end
end VL

set_option maxRecDepth 100000
set_option maxHeartbeats 2000000
set_option autoImplicit false
namespace VL
open PySem L2
structure NoRd (X : Cx) (H : Hp) (a q : Addr) (kvs : List (NK × Addr × V)) (s : Str) : Prop where
  rd : Rd H a (nDict X.w a kvs)
  ks : ∀ e ∈ kvs, NTup H e.1 e.2.1
  ky : H q = some (.tup [.non, .str s])
section
variable {X : Cx} {pins : List (Addr × Obj)} {σ : St} {H : Hp} {s : Shared} {a q : Addr} {A : Around} {E : Value → Shared → Prop} {kvs : List (NK × Addr × V)} {z : Str}
end
section
variable {X : Cx} {W : WX} {fla flb fl : Bool}
end
end VL

set_option maxRecDepth 100000
set_option maxHeartbeats 2000000
set_option autoImplicit false
namespace VL
open PySem L2
def AtK (mg : Gm) (G : Vw) (p : Addr) (t : Nat) : Prop := (t = 1 ∧ ∃ kvs, G p = some (.dT kvs)) ∨ (t = 2 ∧ ∃ kvs, G p = some (nDict mg.w p kvs))
section
variable {mg : Gm} {G G' : Vw} {p : Addr} {t : Nat}
theorem AtK.tup (h : AtK mg G p t) {xs : List V} (e : G p = some (.tup xs)) : False := by
  rcases h with ⟨_, kvs, h⟩ | ⟨_, kvs, h⟩ <;> (rw [h] at e; cases e)
theorem AtK.lst (h : AtK mg G p t) {xs : List V} (e : G p = some (.lst xs)) : False := by
  rcases h with ⟨_, kvs, h⟩ | ⟨_, kvs, h⟩ <;> (rw [h] at e; cases e)
theorem AtK.dK (h : AtK mg G p t) {xs : List (Key × V)} (e : G p = some (.dK xs)) : False := by
  rcases h with ⟨_, kvs, h⟩ | ⟨_, kvs, h⟩ <;> (rw [h] at e; cases e)
theorem AtK.dT (h : AtK mg G p t) (ht : t ≠ 1) {xs : List (List Key × V)} (e : G p = some (.dT xs)) : False := by
  rcases h with ⟨h1, kvs, h⟩ | ⟨h1, kvs, h⟩
  · exact ht h1
  · rw [h] at e; cases e
variable (hk : AtK mg G p t) (hm : ∀ a u, a ≠ p → G a = some u → G' a = some u)
include hk hm
end
open Classical in
def ownAt (env : Env) (σ : St) (i : Nat) (a : Addr) : Prop := ∃ j, j ≠ i ∧ isOw env[j]? = true ∧ σ[j]? = some (some (.ref a))
open Classical in
noncomputable def hB (H : Hp) (env : Env) (σ : St) (i : Nat) : Hp := fun a => if ownAt env σ i a then none else H a
open Classical in
section
variable {mg : Gm} {H0 H : Hp} {M0 M : Addr → Bool} {σ : St} {env : Env} {i t : Nat} {p : Addr} {es : List (D × D)}
open Classical in
end
end VL

set_option maxRecDepth 100000
set_option maxHeartbeats 2000000
set_option autoImplicit false
namespace VL
open PySem L2
section
variable {X : Cx} {W : WX} {i : Nat} {st : Stmt} {sts : List Stmt} {e : Expr} {pos : Pos} {ψ χ : Env → SRes} {φ : Env → Res VL.D} {fla : Bool}
end
end VL

set_option maxRecDepth 100000
set_option maxHeartbeats 2000000
set_option autoImplicit false
namespace VL
open PySem L2 PySem.Spec PyProof.Rows

section
variable {X : Cx} {W : WX} {fl fla : Bool}
end
end VL

set_option maxRecDepth 100000
set_option maxHeartbeats 2000000
set_option autoImplicit false
namespace VL
open PySem L2
section
variable {X : Cx} {W : WX} {tg iter : Expr} {sts sts' : List Stmt} {pos : Pos} {γ : D → Env → Option Env} {ψ χ : Env → SRes} {ι : Env → Res (List D)}
end
section
open PySem.Spec PyProof.Rows
variable {X : Cx} {W : WX} {e : Expr} {pos apos cpos p : Pos} {φ : Env → Res VL.D}
end
end VL

set_option maxRecDepth 100000
set_option maxHeartbeats 2000000
set_option autoImplicit false
namespace VL
open PySem L2
section
variable {X : Cx} {W : WX} {e : Expr} {td : TE} {sts : List Stmt} {pos apos cpos tpos : Pos} {elts : List Expr} {kk : Nat} {γ : D → Env → Option Env} {ψ : Env → SRes} {φ : Env → Res VL.D}
end
end VL

set_option maxRecDepth 100000
set_option maxHeartbeats 2000000
set_option autoImplicit false
namespace VL
open PySem L2
section
variable {X : Cx} {W : WX} {a b : Expr} {pos px py pt pt2 : Pos} {kt k2 : Nat} {φs : Env → Res (List D)}
end
end VL

set_option maxRecDepth 100000
set_option maxHeartbeats 2000000
set_option autoImplicit false
namespace VL
open PySem L2 PyProof.Rows
section
variable {X : Cx} {W : WX} {tg elt iter : Expr} {ifs : List Expr} {scope : Scope} {own : List (Str × Nat)} {pos spos py : Pos} {γ : D → Env → Option Env} {τ : Env → Res Bool} {φ κ : Env → Res D}
end
end VL

set_option maxRecDepth 100000
set_option maxHeartbeats 2000000
set_option autoImplicit false
namespace VL
open PySem L2 PyProof.Rows
def spIt (gm : Gm) (F : List D → Res D) (n : Nat) : Sp := fun vs H Q _ => vs.length = 1 ∧ ∃ (M : Addr → Bool) (ds es : List D), MOk M H ∧ RpL gm (Sh M (vw H)) ds vs ∧ F ds = .ok (.lst es) ∧
  ∀ (l it : Addr) (zs : List V) (H1 : Hp), Ext H H1 → Sh M (vw H1) l = some (.lst zs) → RpL gm (Sh M (vw H1)) es zs → H1 it = none → n ≤ it → Q (.ref it) (upd H1 it (ItO l it 0))
section
variable {X : Cx} {W : WX} {e : Expr} {p pos rpos : Pos} {φ : Env → Res D}
end
def FnI (P : Program) (w : World) (K : PySem.W.Frag) (mg : Str → Option Value) (base : Heap) (k : Nat) (f : Addr) (fd : FuncData) (ps : List Str) (sp : Nat → Sp) : Prop :=
  ∀ (n : Nat) (A : Around) (outer : List PySem.Env) (s : Shared) (H : Hp) (args : Args) (us : List Value) (vs : List V) (Q : VK) (E : XK), n ≤ s.heap.objs.size → Room k A → Env0 P w K mg base A outer s H → BindsTo s fd args (ps.zip us) → Vals vs us → sp n vs H Q E →
    codeAny (model P w) A (.call (.ref f) args) (CR (L2N.CX P w) outer P w H s Q E) s
structure IterOk (P : Program) (w : World) (K : PySem.W.Frag) (mg : Str → Option Value) (base : Heap) (c : Str) (k : Nat) (ps : List Str) (F : List D → Res D) : Prop where
  ex : ps.length = 1 ∧ ∃ (C f : Addr) (fd : FuncData), mg c = some (.ref C) ∧ Cls K C ∧ Meth K C "__iter__" f ∧ Binds K fd ps [] ∧ FnI P w K mg base k f fd ps (spIt ⟨P, w, K, mg⟩ F)
section
variable {P : Program} {w : World} {K : PySem.W.Frag} {mg : Str → Option Value} {base : Heap} {c x qual : Str} {st : Stmt} {N ps : List Str} {k : Nat} {f : Addr} {fd : FuncData} {sp : Nat → Sp}
end
section
variable {X : Cx} {C f : Addr} {k : Nat} {fd : FuncData} {ps : List Str} {sp : Nat → Sp} {o tg : Expr} {ta : TE}
end
section
variable {X : Cx} {W : WX} {o tg : Expr} {φ : Env → Res D} {c : Str} {k : Nat} {ps : List Str} {F : List D → Res D}
end
end VL

set_option maxRecDepth 100000
set_option maxHeartbeats 2000000
set_option autoImplicit false
namespace VL
open PySem L2 PyProof.Rows
section
variable {M : Model} {A : Around} {R : GenEnd} {Y : Protocol} {n : Nat} {s₀ s : Shared} {c : Code} {fs : List Frame} {env : PySem.Env} {K : Flow → Sem PySem.Fin} {J : Value → Sem PySem.Fin} {gd : Bool → Bool} {lv : List Value → List Value}
abbrev behind (env : PySem.Env) (K : Flow → Sem PySem.Fin) (J : Value → Sem PySem.Fin) (gd : Bool → Bool) (lv : List Value → List Value) (c : Code) (p : Pos) : Frame :=
  .ret (fun r => ((match r with | .ok f => (.pure f : Sem Flow) | .error e => .raise e).onRaise (cameBack env)).wrap K J gd lv) none (gd false) (lv []) c p []
theorem seg_forS {tg iter : Expr} {body : List Stmt} {pos : Pos} (hs : ∀ x, foldedSetIterable iter env x = pure x)
    (h : wpAny M (A.over c fs) (eval iter env) (fun x s1 => wpAny M (A.over c fs) (pyIter x) (fun it s2 => ∀ p, Seg M A R Y n s₀ (.forLoop tg it body [] env) (M.den (.forLoop tg it body [] env)) (behind env K J gd lv c p :: fs) s2)
      (fun e s' => Seg M A R Y n s₀ c (J e) fs s') s1) (fun e s' => Seg M A R Y n s₀ c (J e) fs s') s) :
    Seg M A R Y n s₀ c ((exec (.For tg iter body [] pos) env).wrap K J gd lv) fs s := by
  rw [exec_For]
  refine seg_bind_wrap (wpAny_standAt ?_)
  refine seg_bind_wrap (wpAny_mono h (fun x s1 h1 => ?_) fun _ _ z => z)
  refine seg_bind_wrap (wpAny_of_eq (hs x) ?_)
  refine seg_bind_wrap (wpAny_standAt ?_)
  refine seg_bind_wrap (wpAny_holding (wpAny_mono h1 (fun it s2 h2 => ?_) fun _ _ z => z))
  exact seg_call h2
end
section
variable {prog : Program} {w : World} {A : Around} {R : GenEnd} {Y : Protocol} {n : Nat} {s₀ s : Shared} {fs : List Frame} {env : PySem.Env} {tg : Expr} {it : Value} {body : List Stmt}
def turnEnd (tg : Expr) (it : Value) (body : List Stmt) (env : PySem.Env) : Flow → Sem PySem.Fin := fun f => match f with
  | .next | .cont => .pure (.again (.forLoop tg it body [] env))
  | .brk => .pure (.done .next)
  | .ret v => .pure (.done (.ret v))
abbrev turnBad (env : PySem.Env) : Value → Sem PySem.Fin := fun x => (do noteFrame x env; theTreesLotGoes x : Sem Unit).wrap (fun _ => .raise x) .raise id id
theorem seg_turn (h : wpAny (model prog w) (A.over (.forLoop tg it body [] env) fs) (pyNext it) (fun r s1 => match r with
      | none => Seg (model prog w) A R Y n s₀ (.block [] env) ((model prog w).den (.block [] env)) fs s1
      | some v => wpAny (model prog w) (A.over (.forLoop tg it body [] env) fs) (letOwnedTupleGo tg it v) (fun _ s2 => wpAny (model prog w) (A.over (.forLoop tg it body [] env) fs) (assign tg env v)
          (fun _ s3 => Seg (model prog w) A R Y n s₀ (.forLoop tg it body [] env) ((execs body env).wrap (turnEnd tg it body env) (turnBad env) id id) fs s3) (fun _ _ => False) s2) (fun _ _ => False) s1) (fun _ _ => False) s) :
    Seg (model prog w) A R Y n s₀ (.forLoop tg it body [] env) ((model prog w).den (.forLoop tg it body [] env)) fs s := by
  show Seg _ A R Y n s₀ _ ((forTurn tg it body [] env).onRaise (fun x => do noteFrame x env; theTreesLotGoes x)) fs s
  unfold forTurn
  rw [Sem.onRaise_eq_wrap]
  refine seg_bind_wrap (wpAny_standAt ?_)
  refine seg_bind_wrap (wpAny_onRaise (wpAny_mono h (fun r s1 h1 => ?_) fun _ _ z => z.elim))
  cases r with
  | none => exact seg_again rfl h1
  | some v =>
    refine seg_bind_wrap (wpAny_mono h1 (fun _ s2 h2 => ?_) fun _ _ z => z.elim)
    refine seg_bind_wrap (wpAny_mono h2 (fun _ s3 h3 => ?_) fun _ _ z => z.elim)
    rw [Sem.bind_eq_wrap', Sem.wrap_wrap]
    rw [Sem.wrap_congr (execs body env) _ _ (K' := turnEnd tg it body env) (H' := turnBad env) (fun f => by cases f <;> rfl)
      (fun e => by first | exact Sem.bind_eq_wrap _ _ | (show (do noteFrame e env; theTreesLotGoes e : Sem Unit).bind (fun _ => .raise e) = _; rw [Sem.bind_eq_wrap]))]
    exact h3
theorem seg_block0 (h : Seg (model prog w) A R Y n s₀ (.block [] env) (.pure (.done .next)) fs s) : Seg (model prog w) A R Y n s₀ (.block [] env) ((model prog w).den (.block [] env)) fs s := by
  show Seg _ A R Y n s₀ _ (do return Fin.done (← (execs [] env).onRaise (fun x => do noteFrame x env; theTreesLotGoes x))) fs s
  exact seg_bind (wpAny_onRaise (wpAny_execs_nil h))
end
def Held (ys : List V) (o : Obj) : Prop := ∃ (acc : Array Value) (c : Nat), o = lstObj acc c ∧ Vals ys acc.toList
def GQ (X : Cx) (C D : Addr) (ys : List V) (sw : Shared) (ip : List (Addr × Obj)) (σ : L2.St) (H : Hp) (s : Shared) : Prop :=
  ∃ oC oD, sw.heap.get? C = some oC ∧ sw.heap.get? D = some oD ∧ Held ys oD ∧ Inv X ((C, oC) :: (D, oD) :: ip) σ H s
def IpOk (X : Cx) (C D : Addr) (ip : List (Addr × Obj)) : Prop := ∀ p ∈ ip, X.s_0.heap.objs.size ≤ p.1 ∧ p.1 ≠ C ∧ p.1 ≠ D ∧ ∀ q ∈ X.pn, q.1 ≠ p.1
structure GE where
  N : Nat
  nx : List V → L2.St → Hp → Prop
  rt : List V → V → Hp → Prop
  bk : List V → L2.St → Hp → Prop := fun _ _ _ => False
  ct : List V → L2.St → Hp → Prop := fun _ _ _ => False
def GE.at (E : GE) (ys : List V) : Ends := { nx := E.nx ys, rt := E.rt ys, bk := E.bk ys, ct := E.ct ys }
def GYq (X : Cx) (C D : Addr) (N : Nat) : Protocol := fun n s₀ v s kap =>
  ∃ ys x ip σ H, n + 1 + ys.length = N ∧ RelV x v ∧ IpOk X C D ip ∧ GQ X C D ys s₀ ip σ H s ∧ ∀ s', GQ X C D (ys ++ [x]) s' ip σ H s' → kap (.send .none) s'
def GPq (X : Cx) (C D : Addr) (sw : Shared) (ip : List (Addr × Obj)) (E : GE) (ys : List V) (f : Flow) (s : Shared) : Prop := match f with
  | .next => ∃ σ H, GQ X C D ys sw ip σ H s ∧ E.nx ys σ H
  | .brk => ∃ σ H, GQ X C D ys sw ip σ H s ∧ E.bk ys σ H
  | .cont => ∃ σ H, GQ X C D ys sw ip σ H s ∧ E.ct ys σ H
  | .ret u => ∃ v σ H, GQ X C D ys sw ip σ H s ∧ RelV v u ∧ E.rt ys v H
structure GCq (X : Cx) (A : Around) (c : Code) (fs : List Frame) (gd : Bool → Bool) : Prop where
  over : A.over c fs = X.A
  split : splitAtGen fs = none
  guard : fs.any Frame.guarded = false
  gd : gd false = false
  nox : ∀ e s, ¬ X.xe e s
  ex : X.ex = []
abbrev TGq := GE → List V → L2.St → Hp → Prop
structure GSq (X : Cx) (st : Stmt) (t : TGq) : Prop where
  run : ∀ (A : Around) (C D : Addr) (ip : List (Addr × Obj)) (R : GenEnd) (n : Nat) (ys : List V) (s₀ : Shared) (c : Code) (fs : List Frame) (K : Flow → Sem PySem.Fin) (J : Value → Sem PySem.Fin) (gd : Bool → Bool) (lv : List Value → List Value) (s : Shared) (σ : L2.St) (H : Hp) (E : GE),
    GCq X A c fs gd → IpOk X C D ip → n + ys.length = E.N → (∀ n ys s₀ s f, n + ys.length = E.N → GPq X C D s₀ ip E ys f s → Seg (model X.prog X.w) A R (GYq X C D E.N) n s₀ c (K f) fs s) → GQ X C D ys s₀ ip σ H s → t E ys σ H →
    Seg (model X.prog X.w) A R (GYq X C D E.N) n s₀ c ((exec st X.env).wrap K J gd lv) fs s
structure GSsq (X : Cx) (st : List Stmt) (t : TGq) : Prop where
  run : ∀ (A : Around) (C D : Addr) (ip : List (Addr × Obj)) (R : GenEnd) (n : Nat) (ys : List V) (s₀ : Shared) (c : Code) (fs : List Frame) (K : Flow → Sem PySem.Fin) (J : Value → Sem PySem.Fin) (gd : Bool → Bool) (lv : List Value → List Value) (s : Shared) (σ : L2.St) (H : Hp) (E : GE),
    GCq X A c fs gd → IpOk X C D ip → n + ys.length = E.N → (∀ n ys s₀ s f, n + ys.length = E.N → GPq X C D s₀ ip E ys f s → Seg (model X.prog X.w) A R (GYq X C D E.N) n s₀ c (K f) fs s) → GQ X C D ys s₀ ip σ H s → t E ys σ H →
    Seg (model X.prog X.w) A R (GYq X C D E.N) n s₀ c ((execs st X.env).wrap K J gd lv) fs s
section
variable {X : Cx} {st : Stmt} {rest : List Stmt}
theorem gpq_of {C D : Addr} {sw : Shared} {oC oD : Obj} {ip : List (Addr × Obj)} {s : Shared} {E : GE} {ys : List V} {f : Flow} (h1 : sw.heap.get? C = some oC) (h2 : sw.heap.get? D = some oD) (h3 : Held ys oD) (h : SP X ((C, oC) :: (D, oD) :: ip) (E.at ys) f s) : GPq X C D sw ip E ys f s := by
  cases f with
  | ret u => obtain ⟨v, σ, H, I, r1, q⟩ := h; exact ⟨v, σ, H, ⟨oC, oD, h1, h2, h3, I⟩, r1, q⟩
  | next => obtain ⟨σ, H, I, q⟩ := h; exact ⟨σ, H, ⟨oC, oD, h1, h2, h3, I⟩, q⟩
  | cont => obtain ⟨σ, H, I, q⟩ := h; exact ⟨σ, H, ⟨oC, oD, h1, h2, h3, I⟩, q⟩
  | brk => obtain ⟨σ, H, I, q⟩ := h; exact ⟨σ, H, ⟨oC, oD, h1, h2, h3, I⟩, q⟩
theorem gq_ps {t : TS} (h : PS X st t) : GSq X st (fun E ys σ H => t (E.at ys) σ H) := by
  refine ⟨fun A C D ip R n ys s₀ c fs K J gd lv s σ H E g hip hn k hI ht => seg_wrap ?_⟩
  obtain ⟨oC, oD, h1, h2, h3, I⟩ := hI
  rw [g.over]
  refine wpAny_mono (h.run _ s σ H (E.at ys) I ht) (fun f s' hf => ?_) fun x s' hx => (g.nox x s' hx).elim
  exact k n ys s₀ s' f hn (gpq_of h1 h2 h3 hf)
theorem gq_nil : GSsq X [] (fun E ys σ H => E.nx ys σ H) := by
  refine ⟨fun A C D ip R n ys s₀ c fs K J gd lv s σ H E g hip hn k hI ht => seg_execs_nil ?_⟩
  exact k n ys s₀ s .next hn ⟨σ, H, hI, ht⟩
theorem gq_cons {t u : TGq} (a : GSq X st t) (b : GSsq X rest u) : GSsq X (st :: rest) (fun E ys σ H => t { E with nx := fun ys' σ' H' => u E ys' σ' H' } ys σ H) := by
  refine ⟨fun A C D ip R n ys s₀ c fs K J gd lv s σ H E g hip hn k hI ht => seg_execs_cons ?_⟩
  refine a.run A C D ip R n ys s₀ c fs _ J gd lv s σ H { E with nx := fun ys' σ' H' => u E ys' σ' H' } g hip hn (fun n' ys' s₀' s' f hn' hf => ?_) hI ht
  cases f with
  | ret v => exact k n' ys' s₀' s' (.ret v) hn' hf
  | brk => exact k n' ys' s₀' s' .brk hn' hf
  | cont => exact k n' ys' s₀' s' .cont hn' hf
  | next =>
    obtain ⟨σ', H', I', q⟩ := hf
    exact b.run A C D ip R n' ys' s₀' c fs K J gd lv s' σ' H' E g hip hn' k I' q
theorem gq_yield {e : Expr} {te : TE} {yp pos : Pos} (he : PE X e te) (hco : X.env.scope.isCoroutine = false := by rfl) (hi : interactive X.env = false := by rfl) :
    GSq X (.Expr (.Yield (some e) yp) pos) (fun E ys σ H => ys.length < E.N ∧ te σ H fun x H1 => E.nx (ys ++ [x]) σ H1) := by
  refine ⟨fun A C D ip R n ys s₀ c fs K J gd lv s σ H E g hip hn k hI ht => ?_⟩
  obtain ⟨hlt, ht⟩ := ht
  obtain ⟨m, rfl⟩ : ∃ m, n = m + 1 := ⟨n - 1, by omega⟩
  obtain ⟨oC, oD, h1, h2, h3, I⟩ := hI
  refine seg_Expr_Yield g.split g.gd g.guard ?_ hco hi
  rw [g.over]
  refine wpAny_mono (he.run _ s σ H _ I ht) (fun v s' hv => ?_) fun x s' hx => (g.nox x s' hx).elim
  obtain ⟨x, H1, I1, rv, q2⟩ := hv
  intro kap hk
  refine ⟨ys, x, ip, σ, H1, hn, rv, hip, ⟨oC, oD, h1, h2, h3, I1⟩, fun s2 z => hk .none s2 ?_⟩
  exact k m (ys ++ [x]) s2 s2 .next (by rw [List.length_append, List.length_singleton]; omega) ⟨σ, H1, z, q2⟩
def tForQ (wi : TI) (g : TG) (tb : TGq) : TGq := fun E ys σ H => wi σ H fun J H1 => ∃ W : Nat → Nat → List V → L2.St → Hp → Prop, (∃ m, W 0 m ys σ H1) ∧ ∀ j m ys σ H, W j m ys σ H →
  (J.stop j H ∧ E.nx ys σ H) ∨ (J.go j H ∧ ∃ N : List V → L2.St → Hp → Prop, (∀ ys' σ' H', N ys' σ' H' → ∃ m', m' < m ∧ W (j + 1) m' ys' σ' H') ∧ ∀ x H', J.yld j H x H' → g x σ H' fun σ2 H2 => tb { E with nx := N, ct := N, bk := E.nx } ys σ2 H2)
theorem gq_for {tg iter : Expr} {body : List Stmt} {pos : Pos} {wi : TI} {g : TG} {tb : TGq} (hc : X.calm = true) (hi : PI X tg iter wi) (hg : PG X tg g) (hb : GSsq X body tb) (hs : ∀ x, foldedSetIterable iter X.env x = pure x := by intro _; rfl) : GSq X (.For tg iter body [] pos) (tForQ wi g tb) := by
  refine ⟨fun A C D ip R n ys s₀ c fs K J gd lv s σ H E gc hip hn k hI ht => ?_⟩
  obtain ⟨oC, oD, h1, h2, h3, I⟩ := hI
  refine seg_forS hs ?_
  rw [gc.over]
  refine wpAny_mono (hi.run _ s σ H _ I ht) (fun xv s1 hx => ?_) fun x s' hx => (gc.nox x s' hx).elim
  refine wpAny_mono hx (fun itv s2 h3' => ?_) fun x s' hx => (gc.nox x s' hx).elim
  obtain ⟨it, fp, tn, Jt, H2, e, I2, T, st2, f2, W, ⟨m0, w0⟩, turn⟩ := h3'
  subst e
  intro p
  have fpk : ∀ {H' : Hp} {pC pD : Obj}, (∀ b ∈ fp, H' b = none) → ∀ b ∈ fp, FpOk X ((C, pC) :: (D, pD) :: ip) H' b := fun {H' pC pD} hz b hb => by
    obtain ⟨_, q1, q2, q3, q4, q5⟩ := f2 b hb
    refine ⟨hz b hb, q1, q2, q3, q4, fun x hx => ?_⟩
    rcases List.mem_append.mp hx with hx | hx
    · exact q5 x (List.mem_append_left _ hx)
    · rcases List.mem_cons.mp hx with hx | hx
      · rw [hx]; exact q5 (C, oC) (List.mem_append_right _ (List.mem_cons_self ..))
      · rcases List.mem_cons.mp hx with hx | hx
        · rw [hx]; exact q5 (D, oD) (List.mem_append_right _ (List.mem_cons_of_mem _ (List.mem_cons_self ..)))
        · exact q5 x (List.mem_append_right _ (List.mem_cons_of_mem _ (List.mem_cons_of_mem _ hx)))
  have ov : A.over (.forLoop tg (.ref it) body [] X.env) (behind X.env K J gd lv c p :: fs) = X.A := (GenW.over_loop rfl rfl).trans gc.over
  have gl : GCq X A (.forLoop tg (.ref it) body [] X.env) (behind X.env K J gd lv c p :: fs) id := {
    over := ov
    split := by
      show (splitAtGen fs).map _ = none
      rw [gc.split]; rfl
    guard := by
      show (gd false || fs.any Frame.guarded) = false
      rw [gc.gd, gc.guard]; rfl
    gd := rfl
    nox := gc.nox
    ex := gc.ex }
  have loop : ∀ (m j n : Nat) (ys : List V) (s₀ s : Shared) (σ : L2.St) (H : Hp), n + ys.length = E.N → GQ X C D ys s₀ ip σ H s → tn j s.heap → (∀ b ∈ fp, H b = none) → W j m ys σ H →
      Seg (model X.prog X.w) A R (GYq X C D E.N) n s₀ (.forLoop tg (.ref it) body [] X.env) ((model X.prog X.w).den (.forLoop tg (.ref it) body [] X.env)) (behind X.env K J gd lv c p :: fs) s := by
    intro m
    induction m using Nat.strongRecOn with
    | ind m ih =>
      intro j n ys s₀ s σ H hn hI st hz w
      obtain ⟨pC, pD, e1, e2, e3, I⟩ := hI
      refine seg_turn ?_
      rw [ov]
      rcases turn j m ys σ H w with ⟨stop, qn⟩ | ⟨go, N, hN, step⟩
      · refine wpAny_mono (T.done X rfl rfl rfl hc j _ s σ H (fun _ _ => False) I (fpk hz) st stop) (fun r s3 hr => ?_) fun _ _ z => z
        obtain ⟨rfl, I3⟩ := hr
        refine seg_block0 ?_
        exact seg_leaf (.ok .next) (k n ys s₀ s3 .next hn ⟨σ, H, ⟨pC, pD, e1, e2, e3, I3⟩, qn⟩)
      · refine wpAny_mono (T.item X rfl rfl rfl hc j _ s σ H (fun _ _ => False) I (fpk hz) st go) (fun r s3 hr => ?_) fun _ _ z => z
        obtain ⟨u, rfl, h4⟩ := hr
        refine wpAny_mono h4 (fun _ s5 h5 => ?_) fun _ _ z => z
        obtain ⟨x, H5, I5, r5, y5, st5, z5⟩ := h5
        have I5' := I5.pinned (fpk z5) (T.obj _ _ st5)
        refine wpAny_mono (hg.run _ s5 σ H5 x u _ I5' r5 (step x H5 y5)) (fun _ s6 h6 => ?_) fun x s' hx => (gc.nox x s' hx).elim
        obtain ⟨σ6, H6, I6, q6⟩ := h6
        have hip' : IpOk X C D (ip ++ pinsAt fp s5.heap) := fun q hq => by
          rcases List.mem_append.mp hq with hq | hq
          · exact hip q hq
          · obtain ⟨hb', _⟩ := of_pinsAt hq
            obtain ⟨_, _, _, q3, _, q5⟩ := fpk (pC := oC) (pD := oD) z5 q.1 hb'
            refine ⟨q3.resolve_left (by rw [gc.ex]; exact fun z => nomatch z), fun z => ?_, fun z => ?_, fun x hx => q5 x (List.mem_append_left _ hx)⟩
            · exact q5 (C, oC) (List.mem_append_right _ (List.mem_cons_self ..)) z.symm
            · exact q5 (D, oD) (List.mem_append_right _ (List.mem_cons_of_mem _ (List.mem_cons_self ..))) z.symm
        refine hb.run A C D (ip ++ pinsAt fp s5.heap) R n ys s₀ _ _ _ _ id id s6 σ6 H6 { E with nx := N, ct := N, bk := E.nx } gl hip' hn (fun n' ys' s₀' s7 f hn' hf => ?_) ⟨pC, pD, e1, e2, e3, I6⟩ q6
        have again : ∀ {σ7 : L2.St} {H7 : Hp}, GQ X C D ys' s₀' (ip ++ pinsAt fp s5.heap) σ7 H7 s7 → N ys' σ7 H7 →
            Seg (model X.prog X.w) A R (GYq X C D E.N) n' s₀' (.forLoop tg (.ref it) body [] X.env) (.pure (.again (.forLoop tg (.ref it) body [] X.env))) (behind X.env K J gd lv c p :: fs) s7 := fun {σ7 H7} hG hN7 => by
          obtain ⟨m', hm, w7⟩ := hN ys' σ7 H7 hN7
          obtain ⟨rC, rD, d1, d2, d3, I7⟩ := hG
          have pin : ∀ b ∈ fp, ∀ o, s5.heap.get? b = some o → s7.heap.get? b = some o ∧ H7 b = none := fun b hb o eo => by
            have z := I7.pin (b, o) (List.mem_append_right _ (List.mem_cons_of_mem _ (List.mem_cons_of_mem _ (List.mem_append_right _ (mem_pinsAt hb eo)))))
            exact ⟨z.1, z.2.1⟩
          refine seg_again rfl (ih m' hm (j + 1) n' ys' s₀' s7 σ7 H7 hn' ⟨rC, rD, d1, d2, d3, Inv.unpinned (pl := pinsAt fp s5.heap) I7⟩ (T.keep _ _ _ st5 fun b hb o eo => (pin b hb o eo).1) (fun b hb => ?_) w7)
          obtain ⟨o, eo, _⟩ := T.obj _ _ st5 b hb
          exact (pin b hb o eo).2
        have un : ∀ {σ7 : L2.St} {H7 : Hp}, GQ X C D ys' s₀' (ip ++ pinsAt fp s5.heap) σ7 H7 s7 → GQ X C D ys' s₀' ip σ7 H7 s7 := fun {σ7 H7} hG => by
          obtain ⟨rC, rD, d1, d2, d3, I7⟩ := hG
          exact ⟨rC, rD, d1, d2, d3, Inv.unpinned (pl := pinsAt fp s5.heap) I7⟩
        cases f with
        | next =>
          obtain ⟨σ7, H7, G7, q7⟩ := hf
          exact again G7 q7
        | cont =>
          obtain ⟨σ7, H7, G7, q7⟩ := hf
          exact again G7 q7
        | brk =>
          obtain ⟨σ7, H7, G7, q7⟩ := hf
          exact seg_leaf (.ok .next) (k n' ys' s₀' s7 .next hn' ⟨σ7, H7, un G7, q7⟩)
        | ret v =>
          obtain ⟨x7, σ7, H7, G7, r7, q7⟩ := hf
          exact seg_leaf (.ok (.ret v)) (k n' ys' s₀' s7 (.ret v) hn' ⟨x7, σ7, H7, un G7, r7, q7⟩)
  exact loop m0 0 n ys s₀ s2 σ H2 hn ⟨oC, oD, h1, h2, h3, I2⟩ st2 (fun b hb => (f2 b hb).1) w0
end
end VL

set_option maxRecDepth 100000
set_option maxHeartbeats 2000000
set_option autoImplicit false
namespace VL
open PySem L2 PyProof.Rows
def gxq (P : Program) (w : World) (K : PySem.W.Frag) (mg : Str → Option Value) (base : Heap) (N : List Str) (qual : Str) (scope : Scope) (f : Addr) (cd : Value) (A : Around) (outer : List PySem.Env) (s : Shared) (H : Hp) (pn : List (Addr × Obj)) : Cx :=
  { cxOf (L2N.CX P w) P w K mg base N qual scope f cd A outer s H (fun _ _ _ => False) with pn := pn, xe := fun _ _ => False }
theorem cells0 : ∀ {names : List (Str × NameKind)} {n : Nat} {acc : List (Str × Addr)}, (∀ y ∈ names, y.2 ≠ .cell) → cellsFrom n names acc = acc
  | [], _, _, _ => rfl
  | (x, k) :: r, n, acc, h => by
    unfold cellsFrom
    have hk : ¬ (k == NameKind.cell) = true := fun z => h (x, k) (List.mem_cons_self ..) (by simpa using z)
    rw [if_neg hk]
    exact cells0 fun y hy => h y (List.mem_cons_of_mem _ hy)
section
variable {P : Program} {w : World} {K : PySem.W.Frag} {mg : Str → Option Value} {base : Heap} {N ps : List Str} {qual : Str} {scope : Scope} {f : Addr} {cd : Value} {A : Around} {outer : List PySem.Env} {s s2 : Shared} {H : Hp} {us : List Value} {vs : List V} {pn pins : List (Addr × Obj)}
theorem invq (S : GScope N ps scope) (nc : ∀ y ∈ scope.names, y.2 ≠ .cell) (hd : A.handled = none) (e0 : Env0 P w K mg base A outer s H) (hl : vs.length = ps.length) (r : Vals vs us) (kp : ∀ b o, s.heap.get? b = some o → s2.heap.get? b = some o)
    (hns : s2.heap.Ns s.heap.objs.size fun y => (ps.zip us).reverse.lookup y) (os : s2.os = s.os) (bare : AllBare s2.gens) (hp : ∀ p ∈ pn ++ pins, s2.heap.get? p.1 = some p.2 ∧ H p.1 = none ∧ p.1 ≠ s.heap.objs.size ∧ p.1 ∉ frs outer ∧ ∀ v, p.2.data ≠ .cell v) :
    Inv (gxq P w K mg base N qual scope f cd A outer s H pn) pins (L2.start N vs) H s2 := by
  have hpl : ps.length ≤ N.length := by
    have q := congrArg List.length S.pre
    rw [List.length_take] at q
    omega
  have ec : (gxq P w K mg base N qual scope f cd A outer s H pn).env.cells = [] := cells0 nc
  have noC : ∀ {y : Str} {c : Addr} {Q : Prop}, (gxq P w K mg base N qual scope f cd A outer s H pn).env.cells.lookup y = some c → Q := fun {y c Q} h => by
    rw [ec] at h
    cases h
  have noX : ∀ {b : Addr} {Q : Prop}, b ∈ (gxq P w K mg base N qual scope f cd A outer s H pn).ex → Q := fun {b Q} h => absurd (show b ∈ ([] : List Addr) from h) (by simp)
  have okx : (gxq P w K mg base N qual scope f cd A outer s H pn).Ok := {
    mod := e0.mod
    kind := S.kind
    glob := rfl
    blt := rfl
    above := Nat.le_refl _
    inj := fun y z c h1 _ => noC h1
    has := fun y hy => by
      have hy : scope.names.lookup y = some .cell ∨ scope.names.lookup y = some .free := hy
      rcases hy with hy | hy
      · exact absurd rfl (nc _ (PySem.mem_of_lookup hy))
      · exact absurd rfl (S.nofree _ (PySem.mem_of_lookup hy))
    cab := fun y c _ h => noC h
    hd := fun _ => hd
    frames := Around.frames_deeper e0.frames
    stk := .inr ⟨rfl, rfl⟩
    exf := fun b z => noX z
    bs := e0.bs
    bsz := e0.bsz
    noex := fun b o _ z => noX z
    exfs := fun b z => noX z
    funs := e0.funs
    frf := e0.frf }
  refine ⟨okx, os, bare, Un.kept kp, ⟨_, hns, fun i y v h1 h2 h3 => ?_⟩, fun y c h => noC h, e0.hok.fresh (Nat.le_refl _), fun y c h => noC h, hp, e0.hok.kept kp, ?_⟩
  · have hi : i < vs.length := by
      unfold L2.start at h2
      by_cases hi : i < vs.length
      · exact hi
      · rw [List.getElem?_append_right (by simpa using hi), List.getElem?_replicate] at h2
        split at h2 <;> cases h2
    have ha : vs[i]? = some v := by
      unfold L2.start at h2
      rw [List.getElem?_append_left (by simpa using hi), List.getElem?_map] at h2
      cases e : vs[i]? with
      | none => rw [e] at h2; cases h2
      | some a =>
        rw [e] at h2
        cases h2
        rfl
    obtain ⟨u, hu, rv⟩ := r.get ha
    have h1 : N[i]? = some y := h1
    have hpy : ps[i]? = some y := by
      rw [← S.pre, List.getElem?_take_of_lt (by omega)]
      exact h1
    have ndP : ps.Nodup := by
      rw [← S.pre]
      exact S.nd.sublist (List.take_sublist _ _)
    refine ⟨u, rv, .inl ⟨?_, NdefX.zip_look ndP hpy hu⟩⟩
    rcases S.par y (List.mem_of_getElem? hpy) with q | q
    · exact q
    · exact absurd rfl (nc _ (PySem.mem_of_lookup q))
  · show (L2.start N vs).length = N.length
    unfold L2.start
    rw [List.length_append, List.length_map, List.length_replicate]
    omega
end
def MadeQ (body : List Stmt) (qual : Str) (scope : Scope) (f : Addr) (cd : Value) (ps : List Str) (us : List Value) (s : Shared) (r : Result) (s' : Shared) : Prop :=
  ∃ (h1 : Heap) (go : Obj) (nm qn : Value) (tk : Nat), r = .ok (.ret (.ref h1.objs.size)) ∧ Heap.SameBut s.heap.objs.size (s.heap.push { cls := .type "frame", data := .dict #[] }) h1 ∧ (h1.Ns s.heap.objs.size fun y => (ps.zip us).reverse.lookup y) ∧ h1.NoLimit ∧
    go.cls = .type "generator" ∧ go.data = .fields #[.int s.gens.size 0, nm, qn] ∧ go.slots = #[] ∧ (∀ h : Heap, (h.push go).get? h.objs.size = some go) ∧
    s' = { s with gens := s.gens.push (.fresh (.func body (envOfC qual scope s.heap.objs.size f cd))), toks := tk, heap := h1.push go }
structure GFnq (P : Program) (w : World) (K : PySem.W.Frag) (mg : Str → Option Value) (base : Heap) (k : Nat) (f : Addr) (fd : FuncData) (ps : List Str) (body : List Stmt) (qual : Str) (scope : Scope) (cd : Value) : Prop where
  run : ∀ (A : Around) (outer : List PySem.Env) (s : Shared) (H : Hp) (args : Args) (us : List Value) (vs : List V), Room k A → Env0 P w K mg base A outer s H → BindsTo s fd args (ps.zip us) → Vals vs us → vs.length = ps.length →
    codeAny (model P w) A (.call (.ref f) args) (MadeQ body qual scope f cd ps us s) s
theorem gfnq_of {P : Program} {w : World} {K : PySem.W.Frag} {mg : Str → Option Value} {base : Heap} {x qual : Str} {st : Stmt} {f : Addr} {fd : FuncData} {N ps : List Str} {k : Nat} (F : Fun K x qual st f fd) (S : GScope N ps (defScope st)) (nc : ∀ y ∈ (defScope st).names, y.2 ≠ .cell) :
    ∃ cd, PySem.W.codeIn K cd qual = true ∧ GFnq P w K mg base k f fd ps (defBody st) qual (defScope st) cd := by
  obtain ⟨oc, od, kV, doc, pm, an, cdv, ct, osl, rfl, lk, hcd⟩ := F.ex
  refine ⟨cdv, hcd, ⟨fun A outer s H args us vs hr e0 hb r hl => ?_⟩⟩
  have inS : ∀ b o, base.get? b = some o → s.heap.get? b = some o := fun b o e => (e0.bs b o e).1
  have KX : K.In s.heap := (e0.mod.kin).keeps inS
  have lim : s.heap.NoLimit := (e0.mod.nolimit).keeps inS
  refine codeAny_call_generator (hr.depth) (KX _ _ lk) rfl S.co S.gen rfl (PySem.W.codeRec_of KX hcd) (hb _ _ _ _ ?_)
  refine wpAny_newFunctionEnv nc (fun y hy => ?_) (fun h1 hns hsb => ?_) S.kind
  · obtain ⟨y1, y2⟩ := y
    rcases S.par y1 (List.of_mem_zip hy).1 with q | q
    · exact q
    · exact absurd rfl (nc _ (PySem.mem_of_lookup q))
  · have lim1 : h1.NoLimit := lim.fresh _ hsb
    refine ⟨lim1, h1, ?go, ?nm, ?qn, ?tk, rfl, hsb, hns, lim1, ?c1, ?c2, ?c3, ?c4, ?e⟩
    case e =>
      unfold envOfC newEnv
      rw [cells0 nc]
    case c1 => rfl
    case c2 => rfl
    case c3 => rfl
    case c4 => exact fun h => Heap.get?_push_size _ rfl
end VL

set_option maxRecDepth 100000
set_option maxHeartbeats 2000000
set_option autoImplicit false
namespace VL
open PySem L2 PyProof.Rows GenW
structure Far (X : Cx) (C D : Addr) : Prop where
  ne : C ≠ D
  c0 : X.s_0.heap.objs.size ≤ C
  d0 : X.s_0.heap.objs.size ≤ D
  cl : C ≠ X.env.locals
  dl : D ≠ X.env.locals
  cc : ∀ x c, X.env.cells.lookup x = some c → c ≠ C ∧ c ≠ D
  pc : ∀ p ∈ X.pn, p.1 ≠ C ∧ p.1 ≠ D
section
variable {X : Cx} {C D : Addr} {ys : List V} {sw s s' : Shared} {ip : List (Addr × Obj)} {σ : L2.St} {H : Hp} {x : V}
theorem GQ.at (h : GQ X C D ys sw ip σ H s) : (∃ oC, sw.heap.get? C = some oC ∧ s.heap.get? C = some oC) ∧ (∃ oD, Held ys oD ∧ sw.heap.get? D = some oD ∧ s.heap.get? D = some oD) ∧ H C = none ∧ H D = none ∧ C ∉ X.fs ∧ D ∉ X.fs := by
  obtain ⟨oC, oD, h1, h2, h3, I⟩ := h
  obtain ⟨a1, a2, a3, a4, _⟩ := I.pin (C, oC) (List.mem_append_right _ (List.mem_cons_self ..))
  obtain ⟨b1, b2, b3, b4, _⟩ := I.pin (D, oD) (List.mem_append_right _ (List.mem_cons_of_mem _ (List.mem_cons_self ..)))
  exact ⟨⟨oC, h1, a1⟩, ⟨oD, h3, h2, b1⟩, a2, b2, a4, b4⟩
structure Off (C D : Addr) (s s' : Shared) : Prop where
  os : s'.os = s.os
  bare : AllBare s'.gens
  keep : ∀ b o, b ≠ C → b ≠ D → s.heap.get? b = some o → s'.heap.get? b = some o
  oc : ∃ o, s'.heap.get? C = some o ∧ ∀ v, o.data ≠ .cell v
theorem gq_woken (F : Far X C D) (hip : IpOk X C D ip) (h : GQ X C D ys sw ip σ H s) (z : Off C D s s') (hD : ∃ oD, s'.heap.get? D = some oD ∧ Held (ys ++ [x]) oD) : GQ X C D (ys ++ [x]) s' ip σ H s' := by
  obtain ⟨_, _, nC, nD, fC, fD⟩ := h.at
  obtain ⟨oC, oD, h1, h2, h3, I⟩ := h
  obtain ⟨z1, z2, z3, oC', z4, z5⟩ := z
  obtain ⟨oD', eD, hD⟩ := hD
  have I0 : Inv X ip σ H s := I.pins_of fun p hp => I.pin p (List.mem_append_right _ (List.mem_cons_of_mem _ (List.mem_cons_of_mem _ hp)))
  have nt : ∀ b u, H b = some u → b ≠ C ∧ b ≠ D := fun b u q => ⟨fun hb => (by rw [hb, nC] at q; cases q), fun hb => (by rw [hb, nD] at q; cases q)⟩
  obtain ⟨hh, g, d, t, o⟩ := s'
  have ho : o = s.os := z1
  subst ho
  have nc : ∀ b, b ∉ [C, D] → b ≠ C ∧ b ≠ D := fun b hb => ⟨fun e => hb (by simp [e]), fun e => hb (by simp [e])⟩
  have J : Inv X ip σ H { s with heap := hh, gens := g, drawn := d, toks := t } := by
    refine I0.step (g' := g) (t' := t) (d' := d) (ch := [C, D]) (fun b hb => ?_)
      (fun b ob _ _ hc q _ => z3 b ob (nc b hc).1 (nc b hc).2 q) (fun b ob _ _ hc q _ => ⟨ob.slots, z3 b ob (nc b hc).1 (nc b hc).2 q⟩) (fun _ _ _ _ n => n) (fun b ob hc q => ⟨ob, z3 b ob (nc b hc).1 (nc b hc).2 q⟩)
      (fun _ _ q => q) (fun _ _ _ q => q) (fun b ps q => ⟨#[], by rw [q]; simp⟩) (fun m hm => ?_) (fun b u q => ?_) z2
    · rcases List.mem_cons.mp hb with e | e
      · subst e
        exact ⟨.inr F.c0, F.cl, fun y c q => (F.cc y c q).1, fun p hp => (List.mem_append.mp hp).elim (fun hp => (F.pc p hp).1) fun hp => (hip p hp).2.1⟩
      · have e := List.mem_singleton.mp e
        subst e
        exact ⟨.inr F.d0, F.dl, fun y c q => (F.cc y c q).2, fun p hp => (List.mem_append.mp hp).elim (fun hp => (F.pc p hp).2) fun hp => (hip p hp).2.2.1⟩
    · obtain ⟨ob, es, ep, ho, r⟩ := hm
      exact ⟨ob, es, ep, z3 _ ob (Ne.symm F.cl) (Ne.symm F.dl) ho, r⟩
    · refine (I0.hok b u q).stay (fun c v hc y => ?_) (fun _ y => y) fun _ _ y => y
      have w : c ≠ C ∧ c ≠ D := by
        rcases hc with y | y
        · rw [y]; exact nt b u q
        · exact nt c _ y
      exact z3 c v w.1 w.2 y
  refine ⟨oC', oD', z4, eD, hD, J.pins_of fun p hp => ?_⟩
  rcases List.mem_cons.mp hp with hp | hp
  · rw [hp]
    exact ⟨z4, nC, F.cl, fC, z5⟩
  · rcases List.mem_cons.mp hp with hp | hp
    · rw [hp]
      obtain ⟨acc, c, e, _⟩ := hD
      exact ⟨eD, nD, F.dl, fD, fun v q => by rw [e] at q; cases q⟩
    · exact J.pin p (List.mem_append_right _ hp)
end
def YC (sc : Shared) (C D a : Addr) (g N : Nat) : Protocol := fun n s₀ v s1 kap =>
  ∃ ys x, n + 1 + ys.length = N ∧ RelV x v ∧ s1.os = sc.os ∧ AllBare s1.gens ∧ s1.heap.NoLimit ∧ s1.heap.IsGen a g ∧ (∃ oC, s₀.heap.get? C = some oC ∧ s1.heap.get? C = some oC) ∧ (∃ oD, Held ys oD ∧ s1.heap.get? D = some oD) ∧
    ∀ s', Off C D s1 s' → (∃ oD, s'.heap.get? D = some oD ∧ Held (ys ++ [x]) oD) → kap (.send .none) s'
def FC (P : Program) (w : World) (outer : List PySem.Env) (H : Hp) (sc : Shared) (C D : Addr) (N : Nat) (Q : List V → Hp → Prop) (n : Nat) (s₀ s1 : Shared) : Prop :=
  ∃ H' ys, s1.os = sc.os ∧ AllBare s1.gens ∧ Un (frs outer) [] H H' sc.heap s1.heap ∧ HOk P w H' s1.heap ∧ H' C = none ∧ H' D = none ∧ (∃ oC, s₀.heap.get? C = some oC ∧ s1.heap.get? C = some oC) ∧ (∃ oD, Held ys oD ∧ s1.heap.get? D = some oD) ∧ ys.length ≤ N ∧ Q ys H'
def RC (P : Program) (w : World) (outer : List PySem.Env) (H : Hp) (sc : Shared) (C D : Addr) (N : Nat) (Q : List V → Hp → Prop) : GenEnd := fun n s₀ r s1 =>
  ((r = .ok (.ret .none) ∨ r = .ok .next) ∧ FC P w outer H sc C D N Q n s₀ s1) ∨ ∃ e, r = .error e ∧ False
def GMadeC (P : Program) (w : World) (k : Nat) (outer : List PySem.Env) (H : Hp) (s : Shared) (N : Nat) (Q : List V → Hp → Prop) (u : Value) (s' : Shared) : Prop :=
  ∃ (a : Addr) (g : Nat) (c : Code), u = .ref a ∧ s.heap.objs.size ≤ a ∧ a < s'.heap.objs.size ∧ s'.heap.IsGen a g ∧ s'.gens[g]? = some (.fresh c) ∧ s'.os = s.os ∧ AllBare s'.gens ∧ s'.heap.NoLimit ∧ (∀ b o, s.heap.get? b = some o → s'.heap.get? b = some o) ∧
    ∀ (A : Around) (C D : Addr) (s2 : Shared), Room k A → A.frames = some outer → s'.heap.objs.size ≤ C → s'.heap.objs.size ≤ D → C ≠ D → (∀ b o, s'.heap.get? b = some o → s2.heap.get? b = some o) → (∃ o, s2.heap.get? C = some o ∧ ∀ v, o.data ≠ .cell v) → (∃ o, s2.heap.get? D = some o ∧ Held [] o) → s2.os = s.os → AllBare s2.gens →
      Seg (model P w) A (RC P w outer H s C D N Q) (YC s C D a g N) N s2 c ((model P w).den c) [] s2
section
variable {P : Program} {w : World} {K : PySem.W.Frag} {mg : Str → Option Value} {base : Heap} {N ps : List Str} {qual : Str} {scope : Scope} {f : Addr} {cd : Value} {A : Around} {outer : List PySem.Env} {s s' : Shared} {H : Hp} {us : List Value} {vs : List V} {body : List Stmt} {k M : Nat} {u : Value} {Q : List V → Hp → Prop}
theorem made_c (S : GScope N ps scope) (nc : ∀ y ∈ scope.names, y.2 ≠ .cell) (e0 : Env0 P w K mg base A outer s H) (hl : vs.length = ps.length) (r : Vals vs us)
    (hbody : ∀ (A : Around) (pn : List (Addr × Obj)), Room k A → ∃ t, GSsq (gxq P w K mg base N qual scope f cd A outer s H pn) body t ∧ t { N := M, nx := fun ys _ H' => Q ys H', rt := fun ys v H' => v = .non ∧ Q ys H' } [] (L2.start N vs) H)
    (m : MadeQ body qual scope f cd ps us s (.ok (.ret u)) s') : GMadeC P w k outer H s M Q u s' := by
  obtain ⟨h1, go, nm, qn, tk, eu, hsb, hns, lim1, hgc, hgd0, hgs, hgp, es⟩ := m
  have eu : u = .ref h1.objs.size := by
    cases eu
    rfl
  subst eu
  have hsz : h1.objs.size = s.heap.objs.size + 1 := by rw [hsb.1, Heap.size_push]
  have kp1 : ∀ b o, s.heap.get? b = some o → h1.get? b = some o := fun b o e => hsb.extBut b o (Nat.ne_of_lt (Heap.lt_size e)) (Heap.get?_push_of_some _ e)
  have hpushed := hgp h1
  subst es
  have hgen : ∀ h : Heap, h.get? h1.objs.size = some go → h.IsGen h1.objs.size s.gens.size := fun h e => ⟨go, nm, qn, e, hgc, hgd0, hgs⟩
  refine ⟨h1.objs.size, s.gens.size, _, rfl, by omega, ?_, hgen _ hpushed, Array.getElem?_push_size .., rfl, AllBare.push e0.bare rfl, lim1.keeps fun b o e => Heap.get?_push_of_some _ e, fun b o e => Heap.get?_push_of_some _ (kp1 b o e), ?_⟩
  · show _ < (h1.push _).objs.size
    rw [Heap.size_push]
    exact Nat.lt_succ_self _
  intro Aw C D s2 hrw hfr hC hD hCD hk2 hCo hDo hos hba
  have szp : (h1.push go).objs.size = h1.objs.size + 1 := Heap.size_push ..
  have hC : (h1.push go).objs.size ≤ C := hC
  have hD : (h1.push go).objs.size ≤ D := hD
  rw [szp] at hC hD
  have e0w : Env0 P w K mg base Aw outer s H := ⟨hfr, e0.mod, e0.bs, e0.bsz, e0.funs, e0.frf, e0.hok, e0.bare⟩
  obtain ⟨t, ht, hq⟩ := hbody Aw [(h1.objs.size, go)] hrw
  have kp2 : ∀ b o, h1.get? b = some o → s2.heap.get? b = some o := fun b o e => hk2 b o (Heap.get?_push_of_some _ e)
  obtain ⟨oC, eC, cC⟩ := hCo
  obtain ⟨oD, eD, hel⟩ := hDo
  have cD : ∀ v, oD.data ≠ .cell v := fun v q => by
    obtain ⟨acc, c, e, _⟩ := hel
    rw [e] at q
    cases q
  have young : ∀ b, h1.objs.size ≤ b → H b = none ∧ b ≠ s.heap.objs.size ∧ b ∉ frs outer := fun b hb => by
    refine ⟨e0.hok.fresh (by omega), Nat.ne_of_gt (by show s.heap.objs.size < b; omega), fun hm => ?_⟩
    obtain ⟨_, o, ho, _⟩ := e0.funs.mem hm
    have q : b < s.heap.objs.size := Heap.lt_size ho
    exact absurd (show b < h1.objs.size by omega) (Nat.not_lt.mpr hb)
  have hea : s2.heap.get? h1.objs.size = some go := hk2 _ go hpushed
  have hgd : ∀ v, go.data ≠ .cell v := fun v q => by rw [hgd0] at q; cases q
  have I : Inv (gxq P w K mg base N qual scope f cd Aw outer s H [(h1.objs.size, go)]) ((C, oC) :: (D, oD) :: []) (L2.start N vs) H s2 := by
    refine invq S nc hrw.hd e0w hl r (fun b o e => kp2 b o (kp1 b o e)) (hns.at' fun o e => kp2 _ o e) hos hba fun p hp => ?_
    rcases List.mem_cons.mp hp with e | hp
    · rw [e]
      obtain ⟨y1, y2, y3⟩ := young h1.objs.size (Nat.le_refl _)
      exact ⟨hea, y1, y2, y3, hgd⟩
    · rcases List.mem_cons.mp hp with e | hp
      · rw [e]
        obtain ⟨y1, y2, y3⟩ := young C (by omega)
        exact ⟨eC, y1, y2, y3, cC⟩
      · rw [List.mem_singleton.mp hp]
        obtain ⟨y1, y2, y3⟩ := young D (by omega)
        exact ⟨eD, y1, y2, y3, cD⟩
  have ec : (gxq P w K mg base N qual scope f cd Aw outer s H [(h1.objs.size, go)]).env.cells = [] := cells0 nc
  have far : Far (gxq P w K mg base N qual scope f cd Aw outer s H [(h1.objs.size, go)]) C D := {
    ne := hCD
    c0 := by show s.heap.objs.size ≤ C; omega
    d0 := by show s.heap.objs.size ≤ D; omega
    cl := Nat.ne_of_gt (by show s.heap.objs.size < C; omega)
    dl := Nat.ne_of_gt (by show s.heap.objs.size < D; omega)
    cc := fun x c e => by rw [ec] at e; cases e
    pc := fun p hp => by
      rw [List.mem_singleton.mp hp]
      exact ⟨Nat.ne_of_lt (by show h1.objs.size < C; omega), Nat.ne_of_lt (by show h1.objs.size < D; omega)⟩ }
  have G : GQ (gxq P w K mg base N qual scope f cd Aw outer s H [(h1.objs.size, go)]) C D [] s2 [] (L2.start N vs) H s2 := ⟨oC, oD, eC, eD, hel, I⟩
  refine seg_func ?_
  refine seg_imp (R := RC P w outer H s C D M Q) (Y := GYq (gxq P w K mg base N qual scope f cd Aw outer s H [(h1.objs.size, go)]) C D M) (fun n s₀ r s1' hR => hR) (fun n s₀ v s1' kap kap' hkk hY => ?_) M ?_
  · obtain ⟨ys, x, ip, σ', H', hn, rv, hip, hG, hk⟩ := hY
    obtain ⟨q1, ⟨oD', q2, _, q3⟩, _⟩ := hG.at
    obtain ⟨_, _, _, _, _, J⟩ := id hG
    exact ⟨ys, x, hn, rv, J.os, J.bare, J.nolimit, hgen _ (J.pin (h1.objs.size, go) (List.mem_append_left _ (List.mem_singleton.mpr rfl))).1, q1, ⟨oD', q2, q3⟩, fun s3 z zD => hkk _ _ (hk s3 (gq_woken far hip hG z zD))⟩
  · have fin : ∀ {n : Nat} {ys : List V} {s₀ s3 : Shared} {σ' : L2.St} {H' : Hp}, n + ys.length = M → GQ (gxq P w K mg base N qual scope f cd Aw outer s H [(h1.objs.size, go)]) C D ys s₀ [] σ' H' s3 → Q ys H' → FC P w outer H s C D M Q n s₀ s3 := fun {n ys s₀ s3 σ' H'} hn hG hQ => by
      obtain ⟨q1, ⟨oD', q2, _, q3⟩, nC, nD, _⟩ := hG.at
      obtain ⟨_, _, _, _, _, J⟩ := hG
      exact ⟨H', ys, J.os, J.bare, J.base, J.hok, nC, nD, q1, ⟨oD', q2, q3⟩, by omega, hQ⟩
    refine ht.run Aw C D [] _ M [] s2 _ [] _ _ id id s2 (L2.start N vs) H _ ⟨over_func, rfl, rfl, rfl, fun e s z => z, rfl⟩ (fun p hp => by simp at hp) (Nat.add_zero _) (fun n ys s₀ s3 fl hn hs => ?_) G hq
    cases fl with
    | next =>
      obtain ⟨σ', H', hI, hQ⟩ := hs
      exact seg_end (.ok (.ret .none)) (.inl ⟨.inl rfl, fin hn hI hQ⟩)
    | brk => obtain ⟨_, _, _, q⟩ := hs; exact False.elim q
    | cont => obtain ⟨_, _, _, q⟩ := hs; exact False.elim q
    | ret u =>
      obtain ⟨v, σ', H', hI, rv, ev, hQ⟩ := hs
      subst ev
      have eu : u = Value.none := rv
      subst eu
      exact seg_end (.ok (.ret .none)) (.inl ⟨.inl rfl, fin hn hI hQ⟩)
end
end VL

set_option maxRecDepth 100000
set_option maxHeartbeats 2000000
set_option autoImplicit false
namespace VL
open PySem L2 PyProof.Rows GenW
structure PGenC (X : Cx) (k : Nat) (e : Expr) (tg : TGen) : Prop where
  run : ∀ (pins : List (Addr × Obj)) (s : Shared) (σ : L2.St) (H : Hp) (cont : List V → Hp → Prop), Inv X pins σ H s → tg σ H cont → wpAny (model X.prog X.w) X.A (eval e X.env)
    (fun u s' => ∃ H1 sc N, N ≤ sizeLine ∧ Inv X pins σ H1 sc ∧ GMadeC X.prog X.w k X.stack H1 sc N cont u s') X.xe s
theorem seq_notCell {h : Heap} {C : Addr} {m : Str → Option Value} (hn : h.Ns C m) : ∃ o, h.get? C = some o ∧ ∀ v, o.data ≠ .cell v := by
  obtain ⟨o, es, ep, ho, hd, _⟩ := hn
  exact ⟨o, ho, fun v q => by rw [hd] at q; cases q⟩
section
variable {X : Cx} {k : Nat}
theorem gc_core {pins : List (Addr × Obj)} {s : Shared} {σ : L2.St} {H : Hp} {Q : VK} {y : Str} {p1 p2 : Pos} {iter : Expr} {scope : Scope} {own : List (Str × Nat)} {pos pos' : Pos} {tg : TGen} {use : Option (Value → Sem Unit)} {Qf : Value → Shared → Prop}
    (hN : X.N.Nodup) (I : Inv X pins σ H s) (hi : PGenC X k iter tg) (ok : BlkOk X.N X.env.scope scope own) (hr : Room (k + 3) X.A) (hy : scope.names.lookup y = some .local) (hdb : (y == ("__debug__" : Str)) = false) (hs : ∀ x, foldedSetIterable iter X.env x = pure x)
    (h : tListG tg σ H Q)
    (hRR : ∀ D C s' m H', Inv X pins σ H' s' → Q (.ref D) H' → s'.heap.Ns C m → FpOk X pins H' C → compPost (model X.prog X.w) X.A X.xe use Qf (.ref D) C (.ok .next) s') :
    wpAny (model X.prog X.w) X.A (comprehension (.ListComp (.Name y p1) [⟨.Name y p2, iter, [], 0⟩] scope pos) scope X.env pos' (newList []) false (eval iter X.env) use) Qf X.xe s := by
  have hfree : ∀ y ∈ scope.names, y.2 = .free → ∃ c, X.env.cells.lookup y.1 = some c := fun y hy e => by
    rcases ok.free y hy e with k | k
    · exact I.ok.has _ (.inl k)
    · exact I.ok.has _ (.inr k)
  refine wpAny_comprehension_free (use := use) rfl hs (closure_ok hfree) ok.kind (fun y hy e => by rw [ok.uniq y hy, e])
    (thn (hi.run pins s σ H _ I h) fun u s1 h1 => ?_)
  obtain ⟨H1, sc, N, hNl, I1, a, g, c, rfl, ha1, ha2, hg, hgs, hos, hb, hl, hkp, wake⟩ := h1
  refine wpAny_pyIter_gen hg ?_
  refine wpAny_newObj_type (newEnv_comp ?_) (by show 0 ≤ sizeLine; decide)
  generalize hD : s1.heap.objs.size = D
  generalize hs3 : ({ s1 with heap := s1.heap.push { cls := .type "list", data := .seq ([] : List Value).toArray } } : Shared) = s3
  have h3 : s3.heap = s1.heap.push { cls := .type "list", data := .seq ([] : List Value).toArray } := by rw [← hs3]
  have kp3 : ∀ b o, s1.heap.get? b = some o → s3.heap.get? b = some o := fun b o e => by rw [h3]; exact Heap.get?_push_of_some _ e
  have I3 : Inv X pins σ H1 s3 := by
    refine I1.call' (ch := []) (by rw [← hs3]; exact hos) (Un.kept fun b o e => kp3 b o (hkp b o e)) (I1.hok.kept fun b o e => kp3 b o (hkp b o e)) (by rw [← hs3]; exact hb) fun b z => by simp at z
  have I4 := block_start (fp := []) I3 ok hN (fun b z => by simp at z)
  show codeAny _ _ (.compStart (.ListComp (.Name y p1) [⟨.Name y p2, iter, [], 0⟩] scope pos) 0 (.ref a) (.ref D) (compEnvC scope (cellsFrom (s3.heap.objs.size + 1) scope.names (cloFrom X.env.cells scope.names [])) s3.heap.objs.size X.env)) (compPost (model X.prog X.w) X.A X.xe use Qf (.ref D) s3.heap.objs.size) { s3 with heap := pushCells (s3.heap.push { cls := .type "dict", data := .dict #[] }) scope.names }
  generalize hce : compEnvC scope (cellsFrom (s3.heap.objs.size + 1) scope.names (cloFrom X.env.cells scope.names [])) s3.heap.objs.size X.env = ce at I4 ⊢
  have cL : ce.locals = s3.heap.objs.size := by subst hce; rfl
  have cK : ce.scope.kind = .function := by subst hce; exact ok.kind
  have cy : ce.kindOf y = some .local := by subst hce; exact lookup_relabel_local hy
  have cP : (ce.scope.kind == .class || (ce.scope.kind == .module && ce.locals != ce.globals)) = false := by rw [cK]; rfl
  generalize hs4 : ({ s3 with heap := pushCells (s3.heap.push { cls := .type "dict", data := .dict #[] }) scope.names } : Shared) = s4 at I4 ⊢
  have kp4 : ∀ b o, s3.heap.get? b = some o → s4.heap.get? b = some o := fun b o e => by rw [← hs4]; exact pushCells_keeps _ _ _ _ (Heap.get?_push_of_some _ e)
  have hCD : s3.heap.objs.size = D + 1 := by rw [h3, Heap.size_push, hD]
  generalize hC : s3.heap.objs.size = C at cL hCD ⊢
  have hCne : C ≠ D := by rw [hCD]; exact Nat.succ_ne_self D
  obtain ⟨m4, hn4, _⟩ := I4.loc
  have hn4 : s4.heap.Ns ce.locals m4 := hn4
  rw [cL] at hn4
  have eD4 : s4.heap.get? D = some (lstObj #[] 0) := by
    refine kp4 _ _ ?_
    rw [h3, ← hD]
    exact Heap.get?_push_size _ rfl
  have hscD : sc.heap.objs.size ≤ D := by rw [← hD]; exact Nat.le_of_lt (Nat.lt_of_le_of_lt ha1 ha2)
  have hscC : sc.heap.objs.size ≤ C := by rw [hCD]; exact Nat.le_succ_of_le hscD
  have haD : a < D := by rw [← hD]; exact ha2
  have hcsD : cStatics < D := by
    obtain ⟨_, hn, _⟩ := id hl
    rw [← hD]
    exact hn.lt
  have goes : ∀ {gs : GenState} {B : Around} {n : Nat} {r : Resume} {s : Shared}, gs.Goes (model X.prog X.w) B (RC X.prog X.w X.stack H1 sc C D N (fun ys H2 => ∀ p, H2 p = none → Q (.ref p) (upd H2 p (.lst ys)))) (YC sc C D a g N) n r s →
      gs.Goes (model X.prog X.w) B (fun n s₀ r s1 => ((r = .ok (.ret .none) ∨ r = .ok .next) ∧ FC X.prog X.w X.stack H1 sc C D N (fun ys H2 => ∀ p, H2 p = none → Q (.ref p) (upd H2 p (.lst ys))) n s₀ s1) ∨ ∃ e, r = .error e ∧ (fun _ _ => False : Value → Shared → Prop) e s1) (YC sc C D a g N) n r s := fun h => h
  have loop : codeAny (model X.prog X.w) X.A (.compLoop (.ListComp (.Name y p1) [⟨.Name y p2, iter, [], 0⟩] scope pos) 0 (.ref a) (.ref D) ce) (compPost (model X.prog X.w) X.A X.xe use Qf (.ref D) C) s4 := by
    refine compLoop_any (fun n s' => s'.heap.IsGen a g ∧ s'.heap.NoLimit ∧ (∃ m, s'.heap.Ns C m) ∧ ∃ gs, s'.gens[g]? = some gs ∧ gs.Goes (model X.prog X.w) X.A.in1 (RC X.prog X.w X.stack H1 sc C D N (fun ys H2 => ∀ p, H2 p = none → Q (.ref p) (upd H2 p (.lst ys)))) (YC sc C D a g N) n (.send .none) (s'.setGen g .running)) ?_ N ?_
    · rintro n s5 ⟨hg5, hl5, ⟨m5, hn5⟩, gs, hgs5, hgo⟩
      have hgl : g < s5.gens.size := (Array.getElem?_eq_some_iff.mp hgs5).1
      refine wpAny_gsz (n := g + 1) hgl (next_genG (A := X.A) hr.hd hl5 (by have := hr.dp; omega) hg5 hgs5 (goes hgo) (fun v s6 gs' hbare hv => ?_) (fun s6 hp h' hk => ?_) fun e s6 he => he.elim)
      · intro hsz
        obtain ⟨ys, x, hn, rv, os6, b6, l6, g6, ⟨oC, c0, c1⟩, ⟨oD, held, d1⟩, hk⟩ := hv
        obtain ⟨acc, cc, rfl, ra⟩ := held
        have hn6 : s6.heap.Ns C m5 := hn5.at' fun o e => by
          have c0 : s5.heap.get? C = some oC := c0
          rw [c0] at e
          cases e
          exact c1
        refine wpAny_of_eq (a := ()) (by rfl) ?_
        refine wpAny_assign_Name (wpAny_storeName_local cy (by rw [cL]; exact hn6) (fun h7 hn7 hs7 => ?_) cP)
        refine wpAny_tests_nil ?_
        simp only [if_true]
        refine wpAny_Name (wpAny_loadName_local (v := v) cK cy hn7 (by simp) ?_) hdb
        rw [cL] at hn7 hs7
        have d7 : h7.get? D = some (lstObj acc cc) := (hs7.2 D (Ne.symm hCne)).trans d1
        have hlen : acc.size = ys.length := by
          have e1 := ra.length
          have e2 : acc.toList.length = acc.size := by simp
          omega
        refine append_at (hsz := by omega) d7 fun h8 sb8 ho8 => ?_
        have hn8 : h8.Ns C _ := hn7.sameBut sb8 hCne
        have off : ∀ G : Array GenState, AllBare G → ∀ (tk : Nat), Off C D s6 { s6 with gens := G, toks := tk, heap := h8 } := fun G hG tk => ⟨rfl, hG, fun b o b1 b2 e => (sb8.2 b b2).trans ((hs7.2 b b1).trans e), seq_notCell hn8⟩
        have k8 : ∀ b o, b ≠ C → b ≠ D → s6.heap.get? b = some o → h8.get? b = some o := fun b o b1 b2 e => (sb8.2 b b2).trans ((hs7.2 b b1).trans e)
        have held8 : ∃ oD, h8.get? D = some oD ∧ Held (ys ++ [x]) oD := ⟨_, ho8, acc.push v, cc + 1, rfl, by rw [Array.toList_push]; exact ra.append (.cons rv .nil)⟩
        have hsz6 : g < s6.gens.size := by
          have q : (s6.setGen g gs').gens.size = s6.gens.size := setGen_size _ _ _
          have hsz' : g + 1 ≤ (s6.setGen g gs').gens.size := hsz
          omega
        cases n with
        | zero => exact (hk _ (off s6.gens b6 s6.toks) held8).elim
        | succ m =>
          refine ⟨m, Nat.lt_succ_self m, ?_, ?_, ⟨_, hn8⟩, gs', setGen_at hsz6, ?_⟩
          · obtain ⟨o, nm, qn, ho, r⟩ := g6
            exact ⟨o, nm, qn, k8 a o (Nat.ne_of_lt (by rw [hCD]; exact Nat.lt_succ_of_lt haD)) (Nat.ne_of_lt haD) ho, r⟩
          · obtain ⟨mc, hns, hnn⟩ := l6
            exact ⟨mc, hns.at' fun o e => k8 _ o (Nat.ne_of_lt (by rw [hCD]; exact Nat.lt_succ_of_lt hcsD)) (Nat.ne_of_lt hcsD) e, hnn⟩
          · exact hk _ (off _ (allBare_setGen (s := s6.setGen g gs') (allBare_setGen b6 hbare) rfl) _) held8
      · intro hsz
        obtain ⟨H', ys, os6, b6, un, hok, nC, nD, ⟨oC, c0, c1⟩, ⟨oD, held, d1⟩, hle, hQ⟩ := hp
        obtain ⟨acc, cc, rfl, ra⟩ := held
        have hn6 : h'.Ns C m5 := hn5.at' fun o e => by
          have c0 : s5.heap.get? C = some oC := c0
          rw [c0] at e
          cases e
          exact hk _ _ c1
        have I6 : Inv X pins σ (upd H' D (.lst ys)) { s6.setGen g .finished with heap := h' } := I1.drained hscD (Nat.le_trans hle hNl) (hk _ _ d1) ra .nil os6 (allBare_setGen b6 rfl) (un.trans (Un.kept hk)) (hok.kept hk) nD
        exact hRR D C _ m5 _ I6 (hQ D nD) hn6 (I1.fpOk hscC (by rw [upd_ne hCne]; exact nC))
    · refine ⟨hg.keeps fun b o e => kp4 b o (kp3 b o e), hl.keeps fun b o e => kp4 b o (kp3 b o e), ⟨m4, hn4⟩, .fresh c, ?_, rfl, ?_⟩
      · rw [← hs4, ← hs3]
        exact hgs
      · refine wake _ _ _ _ ⟨hr.hd, ?_, ?_⟩ I1.ok.frames ?_ ?_ hCne (fun b o e => kp4 b o (kp3 b o e)) (seq_notCell hn4) ⟨_, eD4, #[], 0, rfl, .nil⟩ ?_ ?_
        · have := hr.dp
          show X.A.depth + 3 * k + 5 < _
          omega
        · have := hr.un
          show X.A.units + 1 + 16 * k + 200 < _
          omega
        · rw [hCD, ← hD]; exact Nat.le_succ _
        · exact Nat.le_of_eq hD
        · rw [← hs4, ← hs3]; exact hos
        · exact allBare_setGen (by rw [← hs4, ← hs3]; exact hb) rfl
  exact codeAny_compStart_list loop (wpAny_pyIter_gen (hg.keeps fun b o e => kp4 b o (kp3 b o e)) loop)
end
end VL

set_option maxRecDepth 100000
set_option maxHeartbeats 2000000
set_option autoImplicit false
namespace VL
open PySem L2 PyProof.Rows GenW
section
variable {X : Cx} {k : Nat}
theorem ps_setGc {i : Nat} {z y : Str} {pz p1 p2 pos spos : Pos} {iter : Expr} {scope : Scope} {own : List (Str × Nat)} {tg : TGen} (hN : X.N.Nodup) (hz : X.N[i]? = some z) (hzl : X.env.scope.names.lookup z = some .local)
    (hsw : swapsWith (.ListComp (.Name y p1) [⟨.Name y p2, iter, [], 0⟩] scope pos) (some (.Name z pz)) spos.line X.env = pure true) (hi : PGenC X k iter tg) (ok : BlkOk X.N X.env.scope scope own) (hr : Room (k + 3) X.A) (hy : scope.names.lookup y = some .local) (hdb : (y == ("__debug__" : Str)) = false := by decide) (hs : ∀ x, foldedSetIterable iter X.env x = pure x := by intro _; rfl) :
    PS X (.Assign [.Name z pz] (.ListComp (.Name y p1) [⟨.Name y p2, iter, [], 0⟩] scope pos) spos) (tAsg (tListG tg) (gName i)) := by
  refine ⟨fun pins s σ H D I h => ?_⟩
  rw [exec_Assign_Name_used _ _ _ _ hsw]
  refine wpAny_bind (wpAny_standAt (wpAny_bind ?_))
  show wpAny _ X.A (do let _ ← comprehension (.ListComp (.Name y p1) [⟨.Name y p2, iter, [], 0⟩] scope pos) scope X.env (firstIterPos [⟨.Name y p2, iter, [], 0⟩] pos) (newList []) false (eval iter X.env) (some (assign (.Name z pz) X.env))) _ _ s
  have h : tListG tg σ H (fun x H1 => gName i x σ H1 D.nx) := h
  refine wpAny_bind (thn (gc_core (Qf := fun _ s' => SP X pins D .next s') hN I hi ok hr hy hdb hs h fun L C s' m H' I' q hn f => ?_) fun _ s' hq => wpAny_pure (wpAny_pure hq))
  show wpAny _ _ (assign (.Name z pz) X.env (.ref L)) _ _ _
  refine wpAny_assign_Name (store_ok2 (v := V.ref L) I' hN hz (.inl hzl) rfl (fun s2 I2 ⟨a, sb, ha⟩ => ?_) (.inr hzl))
  obtain ⟨f0, f1, f2, f3, f4, f5⟩ := f
  have haC : C ≠ a := by
    rcases ha with e | e
    · rw [e]; exact f1
    · exact fun q => f4 z a e q.symm
  refine ⟨m, hn.sameBut sb haC, fun h3 sb3 => ?_⟩
  exact ⟨_, H', I2.turned (t' := s2.toks) (fun b o hb e => (sb3.2 b hb).trans e) f0 f1 f3 f4 f5, q⟩
end
abbrev SpC := List V → Hp → (List V → Hp → Prop) → Prop
structure GFnC (P : Program) (w : World) (K : PySem.W.Frag) (mg : Str → Option Value) (base : Heap) (k : Nat) (f : Addr) (fd : FuncData) (ps : List Str) (sp : SpC) : Prop where
  len : ∀ vs H Q, sp vs H Q → vs.length = ps.length
  run : ∀ (A : Around) (outer : List PySem.Env) (s : Shared) (H : Hp) (args : Args) (us : List Value) (vs : List V) (Q : List V → Hp → Prop), Room k A → Env0 P w K mg base A outer s H → BindsTo s fd args (ps.zip us) → Vals vs us → sp vs H Q →
    codeAny (model P w) A (.call (.ref f) args) (fun r s' => match r with | .ok (.ret u) => ∃ N, N ≤ sizeLine ∧ GMadeC P w k outer H s N Q u s' | _ => False) s
theorem gfnc_of {P : Program} {w : World} {K : PySem.W.Frag} {mg : Str → Option Value} {base : Heap} {x qual : Str} {st : Stmt} {f : Addr} {fd : FuncData} {N ps : List Str} {k : Nat} {sp : SpC} (F : Fun K x qual st f fd) (S : GScope N ps (defScope st)) (nc : ∀ y ∈ (defScope st).names, y.2 ≠ .cell)
    (len : ∀ vs H Q, sp vs H Q → vs.length = ps.length)
    (hbody : ∀ (cd : Value) (A : Around) (outer : List PySem.Env) (s : Shared) (H : Hp) (vs : List V) (Q : List V → Hp → Prop) (pn : List (Addr × Obj)), Room k (A.deeper (envOfC qual (defScope st) s.heap.objs.size f cd)) → sp vs H Q →
      ∃ t, GSsq (gxq P w K mg base N qual (defScope st) f cd A outer s H pn) (defBody st) t ∧ t { N := sizeLine, nx := fun ys _ H' => Q ys H', rt := fun ys v H' => v = .non ∧ Q ys H' } [] (L2.start N vs) H) :
    GFnC P w K mg base (k + 1) f fd ps sp := by
  obtain ⟨cd, _, G⟩ := gfnq_of (P := P) (w := w) (mg := mg) (base := base) (k := k + 1) F S nc
  refine ⟨len, fun A outer s H args us vs Q hr e0 hb r hsp => ?_⟩
  have hl := len _ _ _ hsp
  refine codeAny_mono (G.run A outer s H args us vs hr e0 hb r hl) fun rr s' m => ?_
  have m' := m
  obtain ⟨h1, go, nm, qn, tk, eu, _⟩ := m'
  subst eu
  exact ⟨sizeLine, Nat.le_refl _, made_c S nc e0 hl r (fun A pn hra => hbody cd A outer s H vs Q pn (hra.deeper _) hsp) m⟩
section
variable {X : Cx} {k : Nat} {f C : Addr} {fd : FuncData} {ps : List Str} {sp : SpC} {dvs : List V} {ds : List Value} {x m : Str} {p pos apos : Pos} {o : Expr} {ta : TE}
theorem run_gfnc {pins : List (Addr × Obj)} {σ : L2.St} {H : Hp} {s : Shared} {us : List Value} {vs : List V} {cont : List V → Hp → Prop} {E1 : Value → Shared → Prop} (F : GFnC X.prog X.w X.K X.mg X.base k f fd ps sp) (hr : Room k X.A) (hb : Binds X.K fd ps ds) (hd : Vals dvs ds)
    (I : Inv X pins σ H s) (r : Vals vs us) (h : sp (vs ++ dvs) H cont) :
    wpAny (model X.prog X.w) X.A (call (.ref f) us) (fun u s' => ∃ H1 sc N, N ≤ sizeLine ∧ Inv X pins σ H1 sc ∧ GMadeC X.prog X.w k X.stack H1 sc N cont u s') E1 s := by
  have r2 : Vals (vs ++ dvs) (us ++ ds) := r.append hd
  have hl2 : (us ++ ds).length = ps.length := by rw [← r2.length]; exact F.len _ _ _ h
  refine wpAny_call (codeAny_mono (F.run X.A X.stack s H ⟨us, []⟩ (us ++ ds) (vs ++ dvs) cont hr I.env0 (hb s us I.kIn hl2) r2 h) fun r s' hq => ?_)
  cases r with
  | error e => exact False.elim hq
  | ok fl =>
    cases fl with
    | ret u =>
      obtain ⟨N, q1, q2⟩ := hq
      exact ⟨H, s, N, q1, I, q2⟩
    | next => exact False.elim hq
    | brk => exact False.elim hq
    | cont => exact False.elim hq
def tMethC (C : Addr) (m : Str) (sp : SpC) (dvs : List V) (ta : TE) (t : TA) : TGen := fun σ H cont => ta σ H fun x H1 => ∃ a dx fs, x = .ref a ∧ H1 a = some (.ins C dx fs) ∧ fs.lookup m = none ∧
  t σ H1 fun vs H2 => sp (x :: (vs ++ dvs)) H2 cont
theorem pgenc_meth {pl : Sem Bool} {e : Expr} {es : List Expr} {t : TA} (he : PE X o ta) (c : Cls X.K C) (hm : Meth X.K C m f) (F : GFnC X.prog X.w X.K X.mg X.base k f fd ps sp) (hr : Room k X.A) (hb : Binds X.K fd ps ds) (hd : Vals dvs ds) (ha : PA X (e :: es) t)
    (hst : starEach (e :: es) X.env = (false, eval e X.env) :: starEach es X.env := by rfl) (hpl : (backTo pos (starEach es X.env)).any (·.1) = false := by rfl)
    (ht : eval (.Call (.Attribute o m apos) (e :: es) [] pos) X.env = (do
      let ov ← eval o X.env
      standAt apos.atName
      let (f, first) ← holding [ov] (getMethod ov m pl)
      callWith pos f first (backTo pos (starEach (e :: es) X.env)) (backToKw pos (keywordEach [] X.env))) := by rfl) :
    PGenC X k (.Call (.Attribute o m apos) (e :: es) [] pos) (tMethC C m sp dvs ta t) := by
  refine ⟨fun pins s σ H cont I h => ?_⟩
  refine PySem.W.methodCall_KW (pl := pl) (thn (he.run pins s σ H _ I h) fun u s1 ⟨x, H1, I1, rx, a, dx, fs, ex, ea, l, q⟩ => ?_) ht
  subst ex
  obtain rfl : u = Value.ref a := rx
  refine getmeth_ok I1 ea c hm l ?_
  refine PySem.W.callWith_K (first := [.ref a]) (h₀ := X.base) I.ok.mod.kin hm.kp (thn (ha.run pos pins s1 σ H1 _ I1 q) fun us s2 ⟨vs, H2, I2, r, q2⟩ => ⟨I2.kIn, ?_⟩) hst hpl
  exact run_gfnc (us := .ref a :: us) (vs := .ref a :: vs) F hr hb hd I2 (.cons rfl r) q2
end
end VL

set_option maxRecDepth 100000
set_option maxHeartbeats 2000000
set_option autoImplicit false
namespace VL
open PySem L2 PyProof.Rows GenW
inductive GRes where
  | nx (env : Env) (out : List D) | rt (out : List D) | bk (env : Env) (out : List D) | ct (env : Env) (out : List D) | bad
def PostG (X : Cx) (H0 : Hp) (M0 M : Addr → Bool) (H : Hp) (E : GE) : GRes → Prop
  | .nx env out => ∀ M' H' σ' ys, Good (gm X) H0 M0 M' H' σ' env → VEx (Sh M (vw H)) (Sh M' (vw H')) → RpL (gm X) (Sh M' (vw H')) out ys → E.nx ys σ' H'
  | .bk env out => ∀ M' H' σ' ys, Good (gm X) H0 M0 M' H' σ' env → VEx (Sh M (vw H)) (Sh M' (vw H')) → RpL (gm X) (Sh M' (vw H')) out ys → E.bk ys σ' H'
  | .ct env out => ∀ M' H' σ' ys, Good (gm X) H0 M0 M' H' σ' env → VEx (Sh M (vw H)) (Sh M' (vw H')) → RpL (gm X) (Sh M' (vw H')) out ys → E.ct ys σ' H'
  | .rt out => ∀ H' ys, Ext H0 H' → RpL (gm X) (Sh M0 (vw H')) out ys → E.rt ys .non H'
  | .bad => False
def VSg (X : Cx) (st : Stmt) (ψ : Env → List D → GRes) : Prop :=
  ∃ t : TGq, GSq X st t ∧ ∀ (H0 : Hp) (M0 M : Addr → Bool) (H : Hp) (σ : L2.St) (env : Env) (out : List D) (ys : List V) (E : GE), E.N = sizeLine → Good (gm X) H0 M0 M H σ env → RpL (gm X) (Sh M (vw H)) out ys → PostG X H0 M0 M H E (ψ env out) → t E ys σ H
def VBg (X : Cx) (st : List Stmt) (ψ : Env → List D → GRes) : Prop :=
  ∃ t : TGq, GSsq X st t ∧ ∀ (H0 : Hp) (M0 M : Addr → Bool) (H : Hp) (σ : L2.St) (env : Env) (out : List D) (ys : List V) (E : GE), E.N = sizeLine → Good (gm X) H0 M0 M H σ env → RpL (gm X) (Sh M (vw H)) out ys → PostG X H0 M0 M H E (ψ env out) → t E ys σ H
section
variable {X : Cx} {H0 H H' : Hp} {M0 M M' : Addr → Bool} {E : GE} {mg : Gm}
theorem PostG.mono {r : GRes} (h : PostG X H0 M0 M H E r) (e : VEx (Sh M (vw H)) (Sh M' (vw H'))) : PostG X H0 M0 M' H' E r := by
  cases r with
  | nx env out => exact fun M2 H2 σ2 ys g e2 r => h M2 H2 σ2 ys g (e.trans e2) r
  | bk env out => exact fun M2 H2 σ2 ys g e2 r => h M2 H2 σ2 ys g (e.trans e2) r
  | ct env out => exact fun M2 H2 σ2 ys g e2 r => h M2 H2 σ2 ys g (e.trans e2) r
  | rt out => exact h
  | bad => exact h
theorem sh_down (sub : ∀ a, M0 a = true → M a = true) : VEx (Sh M (vw H)) (Sh M0 (vw H)) := fun a u h => by
  obtain ⟨h1, h2⟩ := Sh_some h
  have q : M0 a = false := by
    cases q : M0 a with
    | false => rfl
    | true => rw [sub a q] at h1; cases h1
  rw [Sh_of q]
  exact h2
end
section
variable {X : Cx} {st : Stmt} {rest sts : List Stmt} {pos : Pos} {ψ : Env → SRes} {χ ρ : Env → List D → GRes}
def liftG (ψ : Env → SRes) (env : Env) (out : List D) : GRes := match ψ env with
  | .nx e => .nx e out
  | .bk e => .bk e out
  | .ct e => .ct e out
  | _ => .bad
theorem vg_s (h : VS X W0 st ψ) : VSg X st (liftG ψ) := by
  obtain ⟨t, p, r⟩ := h
  refine ⟨_, gq_ps p, fun H0 M0 M H σ env out ys E hN g ro h => ?_⟩
  refine r H0 M0 M H σ env (E.at ys) g ?_
  unfold liftG at h
  cases q : ψ env with
  | nx e => rw [q] at h; exact fun M' H' σ' g' e' => h M' H' σ' ys g' e' (ro.mono e')
  | bk e => rw [q] at h; exact fun M' H' σ' g' e' => h M' H' σ' ys g' e' (ro.mono e')
  | ct e => rw [q] at h; exact fun M' H' σ' g' e' => h M' H' σ' ys g' e' (ro.mono e')
  | rt d => rw [q] at h; exact h.elim
  | xc c fs e => rw [q] at h; exact h.elim
  | bad => rw [q] at h; exact h.elim
  | ro d => rw [q] at h; exact h.elim
def ifRetG (τ : Env → Res Bool) (env : Env) (out : List D) : GRes := match τ env with
  | .ok true => .rt out
  | .ok false => .nx env out
  | _ => .bad
theorem vg_ifRet {c : Expr} {τ : Env → Res Bool} {rp : Pos} (hc : VT X W0 c τ) : VSg X (.If c [.Return none rp] [] pos) (ifRetG τ) := by
  obtain ⟨t, p, r⟩ := hc
  refine ⟨_, gq_ps (ps_if p (pss_one ps_retN) pss_nil), fun H0 M0 M H σ env out ys E hN g ro h => ?_⟩
  refine r H0 M0 M H σ env _ g ?_
  unfold ifRetG at h
  cases q : τ env with
  | exc c fs => rw [q] at h; exact h.elim
  | bad => rw [q] at h; exact h.elim
  | ok b =>
    rw [q] at h
    intro H1 e1
    cases b with
    | true =>
      rw [if_pos rfl]
      exact h H1 ys (g.ex.trans e1) ((ro.mono (Sh_mono e1.v)).mono (sh_down g.sub))
    | false =>
      rw [if_neg Bool.false_ne_true]
      exact h M H1 σ ys (g.mono e1) (Sh_mono e1.v) (ro.mono (Sh_mono e1.v))
def yldG (φ : Env → Res D) (env : Env) (out : List D) : GRes := match φ env with
  | .ok d => if out.length < sizeLine then .nx env (out ++ [d]) else .bad
  | _ => .bad
theorem vg_yield {e : Expr} {φ : Env → Res D} {yp : Pos} (h : VE X W0 true e φ) (hco : X.env.scope.isCoroutine = false := by rfl) (hi : interactive X.env = false := by rfl) : VSg X (.Expr (.Yield (some e) yp) pos) (yldG φ) := by
  obtain ⟨t, p, r⟩ := h
  refine ⟨_, gq_yield p hco hi, fun H0 M0 M H σ env out ys E hN g ro h => ?_⟩
  unfold yldG at h
  cases q : φ env with
  | exc c fs => rw [q] at h; exact h.elim
  | bad => rw [q] at h; exact h.elim
  | ok d =>
    rw [q] at h
    have h : PostG X H0 M0 M H E (if out.length < sizeLine then .nx env (out ++ [d]) else .bad) := h
    by_cases hz : out.length < sizeLine
    · rw [if_pos hz] at h
      refine ⟨by rw [hN, ← ro.length]; exact hz, ?_⟩
      refine r H0 M0 M H σ env _ g ?_
      rw [q]
      exact fun v H1 e1 r1 => h M H1 σ (ys ++ [v]) (g.mono e1) (Sh_mono e1.v) ((ro.mono (Sh_mono e1.v)).append (.cons r1 .nil))
    · rw [if_neg hz] at h; exact h.elim
def nilGG (env : Env) (out : List D) : GRes := .nx env out
theorem vbg_nil : VBg X [] nilGG := ⟨_, gq_nil, fun H0 M0 M H σ env out ys E hN g ro h => h M H σ ys g (.refl _) ro⟩
def consGG (χ ρ : Env → List D → GRes) (env : Env) (out : List D) : GRes := match χ env out with
  | .nx env' out' => ρ env' out'
  | r => r
theorem vbg_cons (h1 : VSg X st χ) (h2 : VBg X rest ρ) : VBg X (st :: rest) (consGG χ ρ) := by
  obtain ⟨t, p, r⟩ := h1
  obtain ⟨u, q, s⟩ := h2
  refine ⟨_, gq_cons p q, fun H0 M0 M H σ env out ys E hN g ro h => ?_⟩
  refine r H0 M0 M H σ env out ys _ hN g ro ?_
  unfold consGG at h
  cases z : χ env out with
  | nx e o =>
    rw [z] at h
    exact fun M' H' σ' ys' g' e' r' => s H0 M0 M' H' σ' e o ys' E hN g' r' (PostG.mono h e')
  | rt o => rw [z] at h; exact h
  | bk e o => rw [z] at h; exact h
  | ct e o => rw [z] at h; exact h
  | bad => rw [z] at h; exact h
def flowG (r : GRes) (k : Env → List D → GRes) : GRes := match r with
  | .nx env out => k env out
  | .ct env out => k env out
  | .bk env out => .nx env out
  | r => r
def forGL (γ : D → Env → Option Env) (χ : Env → List D → GRes) : List D → Env → List D → GRes
  | [], env, out => .nx env out
  | d :: ds, env, out => match γ d env with
    | none => .bad
    | some env1 => flowG (χ env1 out) (forGL γ χ ds)
def forG (γ : D → Env → Option Env) (ι : Env → Res (List D)) (χ : Env → List D → GRes) (env : Env) (out : List D) : GRes := match ι env with
  | .ok ds => forGL γ χ ds env out
  | _ => .bad
theorem vg_for {tg iter : Expr} {γ : D → Env → Option Env} {ι : Env → Res (List D)} (hc : X.calm = true) (hi : VI X W0 tg iter ι) (hg : VG X tg γ) (hb : VBg X sts χ) (hs : ∀ x, foldedSetIterable iter X.env x = pure x := by intro _; rfl) : VSg X (.For tg iter sts [] pos) (forG γ ι χ) := by
  obtain ⟨wi, pi, ri⟩ := hi
  obtain ⟨tg', pg, rg⟩ := hg
  obtain ⟨tb, pb, rb⟩ := hb
  refine ⟨_, gq_for hc pi pg pb hs, fun H0 M0 M H σ env out ys E hN g ro h => ?_⟩
  refine ri H0 M0 M H σ env _ g ?_
  unfold forG at h
  cases q : ι env with
  | bad => rw [q] at h; exact h.elim
  | exc c fs => rw [q] at h; exact h.elim
  | ok ds =>
    rw [q] at h
    intro J H1 e1 ok
    have h1 : PostG X H0 M0 M H1 E (forGL γ χ ds env out) := PostG.mono h (Sh_mono e1.v)
    refine ⟨fun i m ys' σ' H' => m = ds.length - i ∧ ∃ M' env' out', Good (gm X) H0 M0 M' H' σ' env' ∧ VEx (Sh M (vw H1)) (Sh M' (vw H')) ∧ RpL (gm X) (Sh M' (vw H')) out' ys' ∧ PostG X H0 M0 M' H' E (forGL γ χ (ds.drop i) env' out'),
      ⟨ds.length, rfl, M, env, out, g.mono e1, .refl _, ro.mono (Sh_mono e1.v), h1⟩, ?_⟩
    rintro i m ys' σ' H' ⟨rfl, M', env', out', g', e', ro', h'⟩
    obtain ⟨o1, o2⟩ := ok M' H' g'.ok g'.ex e' i
    cases qd : ds[i]? with
    | none =>
      have hi : ds.length ≤ i := List.getElem?_eq_none_iff.mp qd
      rw [List.drop_of_length_le hi] at h'
      exact .inl ⟨o1 hi, h' M' H' σ' ys' g' (.refl _) ro'⟩
    | some d =>
      obtain ⟨o3, o4⟩ := o2 d qd
      have hi : i < ds.length := (List.getElem?_eq_some_iff.mp qd).1
      have hdr : ds.drop i = d :: ds.drop (i + 1) := by
        rw [List.drop_eq_getElem_cons hi]
        rw [List.getElem?_eq_getElem hi] at qd
        cases qd; rfl
      rw [hdr] at h'
      unfold forGL at h'
      cases qg : γ d env' with
      | none => rw [qg] at h'; exact h'.elim
      | some env1 =>
        rw [qg] at h'
        refine .inr ⟨o3, fun ys2 σ2 H2 => ∃ M2 env2 out2, Good (gm X) H0 M0 M2 H2 σ2 env2 ∧ VEx (Sh M (vw H1)) (Sh M2 (vw H2)) ∧ RpL (gm X) (Sh M2 (vw H2)) out2 ys2 ∧ PostG X H0 M0 M2 H2 E (forGL γ χ (ds.drop (i + 1)) env2 out2),
          fun ys2 σ2 H2 ⟨M2, env2, out2, x1, x2, x3, x4⟩ => ⟨ds.length - (i + 1), by omega, rfl, M2, env2, out2, x1, x2, x3, x4⟩, fun x H2 y => ?_⟩
        obtain ⟨ey, ry⟩ := o4 x H2 y
        refine rg H0 M0 M' H2 σ' env' env1 d x _ (g'.mono ey) ry qg fun σ3 g3 => ?_
        have h3 : PostG X H0 M0 M' H2 E (flowG (χ env1 out') (forGL γ χ (ds.drop (i + 1)))) := PostG.mono h' (Sh_mono (M := M') ey.v)
        have e3 := e'.trans (Sh_mono (M := M') ey.v)
        refine rb H0 M0 M' H2 σ3 env1 out' ys' _ hN g3 (ro'.mono (Sh_mono ey.v)) ?_
        cases qb : χ env1 out' with
        | nx env2 o2 => rw [qb] at h3; exact fun M4 H4 σ4 ys4 g4 e4 r4 => ⟨M4, env2, o2, g4, e3.trans e4, r4, PostG.mono h3 e4⟩
        | ct env2 o2 => rw [qb] at h3; exact fun M4 H4 σ4 ys4 g4 e4 r4 => ⟨M4, env2, o2, g4, e3.trans e4, r4, PostG.mono h3 e4⟩
        | bk env2 o2 => rw [qb] at h3; exact h3
        | rt o2 => rw [qb] at h3; exact h3
        | bad => rw [qb] at h3; exact h3
end
def outG : GRes → Res D
  | .nx _ out => .ok (.lst out)
  | .rt out => .ok (.lst out)
  | _ => .bad
def genM (m : Nat) (χ : Env → List D → GRes) (ds : List D) : Res D := outG (χ (env0 m ds) [])
def spG (mg : Gm) (n : Nat) (F : List D → Res D) : SpC := fun vs H Q => vs.length = n ∧ ∃ (M : Addr → Bool) (ds out : List D), MOk M H ∧ RpL mg (Sh M (vw H)) ds vs ∧ F ds = .ok (.lst out) ∧ ∀ ys H', Ext H H' → RpL mg (Sh M (vw H')) out ys → Q ys H'
section
variable {P : Program} {w : World} {K : PySem.W.Frag} {mg : Str → Option Value} {base : Heap} {x c m qual : Str} {st : Stmt} {N ps : List Str} {k n : Nat} {F : List D → Res D} {f : Addr} {fd : FuncData}
theorem gen_v (Fu : Fun K x qual st f fd) (χ : Env → List D → GRes) (S : GScope N ps (defScope st)) (nc : ∀ y ∈ (defScope st).names, y.2 ≠ .cell) (hn : ps.length = n)
    (body : ∀ (cd : Value) (A : Around) (outer : List PySem.Env) (s : Shared) (H : Hp) (pn : List (Addr × Obj)), Room k (A.deeper (envOfC qual (defScope st) s.heap.objs.size f cd)) →
      VBg (gxq P w K mg base N qual (defScope st) f cd A outer s H pn) (defBody st) χ) :
    GFnC P w K mg base (k + 1) f fd ps (spG ⟨P, w, K, mg⟩ n (genM N.length χ)) := by
  refine gfnc_of Fu S nc (fun vs H Q h => h.1.trans hn.symm) fun cd A outer s H vs Q pn hr h => ?_
  obtain ⟨hl, M, ds, out, m, r, hF, post⟩ := h
  obtain ⟨t, p, rr⟩ := body cd A outer s H pn hr
  refine ⟨t, p, rr H M M H _ (env0 N.length ds) [] [] _ rfl (good0 m r) .nil ?_⟩
  unfold genM at hF
  cases q : χ (env0 N.length ds) [] with
  | nx env o =>
    rw [q] at hF
    cases hF
    exact fun M' H' σ' ys g' e' r' => post ys H' g'.ex (r'.mono (sh_down g'.sub))
  | rt o =>
    rw [q] at hF
    cases hF
    exact fun H' ys e' r' => ⟨rfl, post ys H' e' r'⟩
  | bk env o => rw [q] at hF; cases hF
  | ct env o => rw [q] at hF; cases hF
  | bad => rw [q] at hF; cases hF
structure DefOkY (P : Program) (w : World) (K : PySem.W.Frag) (mg : Str → Option Value) (base : Heap) (x : Str) (k : Nat) (ps : List Str) (n : Nat) (F : List D → Res D) : Prop where
  ex : ∃ (f : Addr) (fd : FuncData), mg x = some (.ref f) ∧ PySem.W.keepIn K (.ref f) = true ∧ Binds K fd ps [] ∧ GFnC P w K mg base k f fd ps (spG ⟨P, w, K, mg⟩ n F)
structure MethOkY (P : Program) (w : World) (K : PySem.W.Frag) (mg : Str → Option Value) (base : Heap) (c m : Str) (k : Nat) (ps : List Str) (n : Nat) (F : List D → Res D) : Prop where
  ex : ∃ (C f : Addr) (fd : FuncData), mg c = some (.ref C) ∧ Cls K C ∧ Meth K C m f ∧ Binds K fd ps [] ∧ GFnC P w K mg base k f fd ps (spG ⟨P, w, K, mg⟩ n F)
theorem meth_y (N : List Str) (χ : Env → List D → GRes) (R : RawM K mg c m qual st ps) (S : GScope N ps (defScope st)) (nc : ∀ y ∈ (defScope st).names, y.2 ≠ .cell) (hn : ps.length = n) (hF : F = genM N.length χ)
    (body : ∀ (f : Addr) (cd : Value) (A : Around) (outer : List PySem.Env) (s : Shared) (H : Hp) (pn : List (Addr × Obj)), Room k (A.deeper (envOfC qual (defScope st) s.heap.objs.size f cd)) →
      VBg (gxq P w K mg base N qual (defScope st) f cd A outer s H pn) (defBody st) χ) : MethOkY P w K mg base c m (k + 1) ps n F := by
  subst hF
  obtain ⟨C, f, fd, h1, h2, h3, h4, h5⟩ := R.ex
  exact ⟨C, f, fd, h1, h2, h3, h5, gen_v h4 χ S nc hn (body f)⟩
end
def VY (X : Cx) (k : Nat) (e : Expr) (φ : Env → Res D) : Prop :=
  ∃ t : TGen, PGenC X k e t ∧ ∀ (H0 : Hp) (M0 M : Addr → Bool) (H : Hp) (σ : L2.St) (env : Env) (out : List D) (Q : List V → Hp → Prop), Good (gm X) H0 M0 M H σ env → φ env = .ok (.lst out) → (∀ ys H', Ext H H' → RpL (gm X) (Sh M (vw H')) out ys → Q ys H') → t σ H Q
def lstOnly : Res D → Res D
  | .ok (.lst ds) => .ok (.lst ds)
  | _ => .bad
def geE (φ : Env → Res D) (env : Env) : Res D := lstOnly (φ env)
section
variable {X : Cx} {W : WX} {e : Expr} {es : List Expr} {o : Expr} {φ φo : Env → Res D} {φs : Env → Res (List D)} {k n : Nat} {x c m y z : Str} {ps : List Str} {F : List D → Res D} {p pos apos p1 p2 pz spos : Pos} {scope : Scope} {own : List (Str × Nat)}
theorem vy_meth {pl : Sem Bool} (hM : MethOkY X.prog X.w X.K X.mg X.base c m k ps n F) (hr : Room k X.A) (ho : VE X W0 true o φo) (ha : VA X W0 true (e :: es) φs) (hn : (e :: es).length + 1 = n) (hl : ∀ env ds, φs env = .ok ds → ds.length + 1 = n)
    (h1 : starEach (e :: es) X.env = (false, eval e X.env) :: starEach es X.env := by rfl) (h2 : (backTo pos (starEach es X.env)).any (·.1) = false := by rfl)
    (h3 : eval (.Call (.Attribute o m apos) (e :: es) [] pos) X.env = (do let ov ← eval o X.env; standAt apos.atName; let (f, first) ← holding [ov] (getMethod ov m pl); callWith pos f first (backTo pos (starEach (e :: es) X.env)) (backToKw pos (keywordEach [] X.env))) := by rfl) :
    VY X k (.Call (.Attribute o m apos) (e :: es) [] pos) (methE c m F φo φs) := by
  obtain ⟨to, po, ro⟩ := ho
  obtain ⟨t, pt, r⟩ := ha
  obtain ⟨C, f, fd, x1, x2, x3, x4, x5⟩ := hM.ex
  refine ⟨_, pgenc_meth po x2 x3 x5 hr x4 .nil pt h1 h2 h3, fun H0 M0 M H σ env out Q g hφ hQ => ?_⟩
  refine ro H0 M0 M H σ env _ g ?_
  unfold methE at hφ
  cases q : φo env with
  | exc c fs => rw [q] at hφ; cases hφ
  | bad => rw [q] at hφ; cases hφ
  | ok d =>
    rw [q] at hφ
    have hφ : (if isIns c m d = true then (φs env).bind fun ds => F (d :: ds) else .bad) = .ok (.lst out) := hφ
    by_cases hi : isIns c m d = true
    · rw [if_pos hi] at hφ
      intro v H1 e1 r1
      obtain ⟨a, C', dx, fs, rfl, y1, y2, y3⟩ := ins_at hi r1
      have y1' : X.mg c = some (.ref C') := y1
      rw [x1] at y1'
      cases y1'
      refine ⟨a, dx, fs, rfl, vw_ins (Sh_some y2).2, y3, ?_⟩
      refine r H0 M0 M H1 σ env _ (g.mono e1) ?_
      cases q2 : φs env with
      | exc c fs => rw [q2] at hφ; cases hφ
      | bad => rw [q2] at hφ; cases hφ
      | ok ds =>
        rw [q2] at hφ
        intro vs H2 e2 r2
        refine ⟨?_, M, d :: ds, out, (g.ok.mono e1).mono e2, by rw [List.append_nil]; exact .cons (r1.mono (Sh_mono e2.v)) r2, hφ, fun ys H' e' r' => hQ ys H' ((e1.trans e2).trans e') r'⟩
        rw [List.append_nil, List.length_cons, ← r2.length]
        exact hl env ds q2
    · rw [if_neg hi] at hφ; cases hφ
theorem gc_read {t : TGen} {M : Addr → Bool} {H H0 : Hp} {M0 : Addr → Bool} {σ : L2.St} {env : Env} {Q : VK} (r : ∀ (out : List D) (Q : List V → Hp → Prop), φ env = .ok (.lst out) → (∀ ys H', Ext H H' → RpL (gm X) (Sh M (vw H')) out ys → Q ys H') → t σ H Q)
    (h : PostN X W M σ H Q (geE φ env)) : tListG t σ H Q := by
  unfold geE at h
  cases q : φ env with
  | exc c fs => rw [q] at h; exact h.elim
  | bad => rw [q] at h; exact h.elim
  | ok d =>
    rw [q] at h
    cases d with
    | lst out => exact r out _ q fun ys H' e' r' p hp => h p _ (e'.fresh hp) (e'.trans (Ext.new hp)) (ow_newL hp r')
    | _ => exact h.elim
theorem vs_gcSet (i : Nat) (hN : X.N.Nodup) (hi : VY X k e φ) (ok : BlkOk X.N X.env.scope scope own) (hr : Room (k + 3) X.A) (hy : scope.names.lookup y = some .local := by rfl) (hdb : (y == ("__debug__" : Str)) = false := by decide) (hz : X.N[i]? = some z := by rfl) (hzl : X.env.scope.names.lookup z = some .local := by rfl)
    (hsw : swapsWith (.ListComp (.Name y p1) [⟨.Name y p2, e, [], 0⟩] scope pos) (some (.Name z pz)) spos.line X.env = pure true := by exact sw_true rfl rfl rfl (by decide +kernel)) (hs : ∀ x, foldedSetIterable e X.env x = pure x := by intro _; rfl) :
    VS X W (.Assign [.Name z pz] (.ListComp (.Name y p1) [⟨.Name y p2, e, [], 0⟩] scope pos) spos) (setS i (geE φ)) := by
  obtain ⟨t, pt, r⟩ := hi
  refine ⟨_, ps_setGc hN hz hzl hsw pt ok hr hy hdb hs, fun H0 M0 M H σ env D g h => gc_read (X := X) (W := W) (φ := φ) (H0 := H0) (M0 := M0) (fun out Q hφ hQ => r H0 M0 M H σ env out Q g hφ hQ) ?_⟩
  unfold setS at h
  cases q : geE φ env with
  | ok d =>
    rw [q] at h
    exact fun p H' hp e' o => h M H' _ ((g.mono e').set (OwOk.rpN (g.nm hp).1 o)) (Sh_mono e'.v)
  | exc c fs => rw [q] at h; exact fun cls dd H1 e1 r1 => h M H1 σ cls dd (g.mono e1) (Sh_mono e1.v) r1
  | bad => rw [q] at h; exact h
end
end VL

set_option maxHeartbeats 4000000
set_option autoImplicit true
namespace VL
open PySem L2
noncomputable section
def b__law_draw : Env → SRes :=
  (seqS (ifS (tE (op2 eqO (getP 0) (aE lstD nilA))) (retS (cE (.int 0))) nxS)
  (seqS (setS 3 (aE intF (consA (op2 getD (getP 0) (op2 modD (aE intF (consA (getP 1) nilA)) (aE lenF (consA (getP 0) nilA)))) nilA)))
  (seqS (ifS (andT (tE (op2 ltD (getP 1) (aE lenF (consA (getP 0) nilA)))) (tE (op2 geD (getP 3) (op2 powD (cE (.int 10)) (cE (.int 18)))))) (seqS (setS 6 (getP 3))
  (seqS (forS (gnG 7) (aI range1 (consA (getP 2) nilA)) (setS 6 (op2 fdivD (getP 6) (cE (.int 1000)))))
  (ifS (tE (op2 gtD (getP 6) (cE (.int 0)))) (retS (op2 modD (aE intF (consA (getP 6) nilA)) (cE (.int 1000)))) nxS))) nxS)
  (seqS (setS 4 (op2 modD (aE intF (consA (op2 addD (op2 addD (op2 addD (op2 mulD (op2 modD (aE intF (consA (getP 3) nilA)) (cE (.int 2147483647))) (cE (.int 48271))) (op2 mulD (getP 1) (cE (.int 30269)))) (op2 mulD (getP 2) (cE (.int 69621)))) (cE (.int 11))) nilA)) (cE (.int 2147483647))))
  (seqS (setS 5 (op2 modD (aE intF (consA (op2 addD (op2 addD (op2 addD (op2 addD (op2 mulD (op2 modD (aE intF (consA (getP 4) nilA)) (cE (.int 46337))) (cE (.int 40692))) (op2 mulD (op2 fdivD (getP 4) (cE (.int 46337))) (cE (.int 16807)))) (op2 mulD (getP 2) (cE (.int 9973)))) (op2 mulD (getP 1) (cE (.int 211)))) (cE (.int 5))) nilA)) (cE (.int 2147483399))))
  (retS (op2 modD (aE intF (consA (op2 fdivD (getP 5) (cE (.int 16))) nilA)) (cE (.int 1000)))))))))
def m__law_draw : List D → Res D := defM 8 b__law_draw
def b__law_names : Env → SRes :=
  (seqS (setS 3 (cE (.str "abcdefghijklmnopqrstuvwxyz0123456789")))
  (seqS (setS 4 (op2 modD (aE m__law_draw (consA (getP 0) (consA (getP 1) (consA (cE (.int 0)) nilA)))) (cE (.int 3))))
  (seqS (setS 5 (op2 addD (cE (.str "m")) (strE joinD (cE (.str "")) (lcE [9] (gnG 9) (aI range1 (consA (cE (.int 12)) nilA)) yesT (op2 getD (getP 3) (op2 modD (aE m__law_draw (consA (getP 0) (consA (getP 1) (consA (op2 addD (cE (.int 1)) (getP 9)) nilA)))) (cE (.int 36))))))))
  (seqS (setS 6 (op2 addD (cE (.int 1)) (op2 modD (aE m__law_draw (consA (getP 0) (consA (getP 1) (consA (cE (.int 13)) nilA)))) (cE (.int 12)))))
  (seqS (setS 7 (op2 modD (aE m__law_draw (consA (getP 0) (consA (getP 1) (consA (cE (.int 14)) nilA)))) (getP 6)))
  (seqS (ownS 8 (aE lstD nilA))
  (seqS (forS (gnG 9) (aI range1 (consA (getP 2) nilA)) (seqS (setS 10 (aE m__law_draw (consA (getP 0) (consA (getP 1) (consA (op2 addD (cE (.int 15)) (getP 9)) nilA)))))
  (seqS (setS 11 (op2 addD (op2 getD (getP 3) (op2 modD (getP 10) (cE (.int 26)))) (slE (getP 5) (someO (cE (.int 1))) (someO (op2 addD (cE (.int 1)) (op2 modD (op2 fdivD (getP 10) (cE (.int 26))) (cE (.int 12))))))))
  (seqS (ifS (tE (op2 eqO (getP 4) (cE (.int 0)))) (setS 11 (op2 getD (cE (.str "abcdefgh")) (getP 9))) nxS)
  (seqS (ifS (tE (op2 eqO (getP 4) (cE (.int 1)))) (setS 11 (op2 addD (op2 addD (slE (getP 5) noO (someO (getP 7))) (op2 getD (getP 3) (op2 modD (aE intF (consA (op2 addD (getP 10) (getP 9)) nilA)) (cE (.int 26))))) (slE (getP 5) (someO (op2 addD (getP 7) (cE (.int 1)))) (someO (getP 6))))) nxS)
  (appS 8 (getP 11)))))))
  (giveS 8 (retS (getP 8))))))))))
def m__law_names : List D → Res D := defM 12 b__law_names
def b__law_store : Env → SRes :=
  (seqS (setS 4 (op2 addD (cE (.int 1)) (op2 modD (aE m__law_draw (consA (getP 0) (consA (getP 1) (consA (cE (.int 0)) nilA)))) (cE (.int 6)))))
  (seqS (setS 5 (op2 modD (aE m__law_draw (consA (getP 0) (consA (getP 1) (consA (cE (.int 1)) nilA)))) (cE (.int 4))))
  (seqS (ownS 6 (cE (.dic 1 [])))
  (seqS (forS (gnG 7) (aI range1 (consA (op2 mulD (cE (.int 6)) (aE lenF (consA (getP 3) nilA))) nilA)) (seqS (setS 9 (aE m__law_draw (consA (getP 0) (consA (getP 1) (consA (op2 addD (cE (.int 2)) (getP 7)) nilA)))))
  (seqS (setS 10 (aE tupD (consA (op2 modD (getP 7) (cE (.int 6))) (consA (op2 addD (cE (.str "+")) (op2 getD (getP 3) (op2 fdivD (getP 7) (cE (.int 6))))) nilA))))
  (seqS (setS 11 (aE tupD (consA (op2 modD (getP 9) (getP 4)) (consA (op2 addD (cE (.str "-")) (op2 getD (getP 3) (op2 fdivD (getP 7) (cE (.int 6))))) nilA))))
  (ifS (andT (tE (op2 ltD (op2 modD (getP 7) (cE (.int 6))) (getP 4))) (andT (tE (op2 geD (op2 modD (op2 fdivD (getP 9) (cE (.int 8))) (cE (.int 4))) (getP 5))) (andT (tE (op2 notInX (getP 10) (getB 6))) (tE (op2 notInX (getP 11) (getB 6)))))) (seqS (putS 6 (getP 10) (op2 modD (getP 9) (getP 4)))
  (putS 6 (getP 11) (op2 modD (getP 7) (cE (.int 6))))) nxS)))))
  (seqS (ownS 8 (cE (.dic 0 [])))
  (seqS (forS (gnG 7) (aI range1 (consA (aE lenF (consA (getP 2) nilA)) nilA)) (putS 8 (op2 getD (getP 2) (getP 7)) (op2 modD (aE m__law_draw (consA (getP 0) (consA (getP 1) (consA (op2 addD (cE (.int 40)) (getP 7)) nilA)))) (getP 4))))
  (giveS 8 (giveS 6 (retS (aE lstD (consA (getP 4) (consA (getP 8) (consA (getP 6) nilA)))))))))))))
def m__law_store : List D → Res D := defM 12 b__law_store
def b__law_big_store : Env → SRes :=
  (seqS (setS 4 (op2 addD (cE (.int 7)) (op2 modD (aE m__law_draw (consA (getP 0) (consA (getP 1) (consA (cE (.int 0)) nilA)))) (cE (.int 54)))))
  (seqS (ownS 5 (cE (.dic 1 [])))
  (seqS (forS (gnG 6) (aI range1 (consA (aE lenF (consA (getP 3) nilA)) nilA)) (seqS (setS 8 (op2 modD (aE m__law_draw (consA (getP 0) (consA (getP 1) (consA (op2 addD (cE (.int 1)) (getP 6)) nilA)))) (getP 4)))
  (seqS (setS 9 (op2 addD (cE (.int 1)) (op2 modD (aE m__law_draw (consA (getP 0) (consA (getP 1) (consA (op2 addD (cE (.int 11)) (getP 6)) nilA)))) (getP 4))))
  (forS (gnG 10) (aI range1 (consA (getP 9) nilA)) (seqS (setS 11 (op2 modD (aE intF (consA (op2 addD (getP 10) (getP 8)) nilA)) (getP 4)))
  (ifS (andT (tE (op2 notInX (aE tupD (consA (getP 10) (consA (op2 addD (cE (.str "+")) (op2 getD (getP 3) (getP 6))) nilA))) (getB 5))) (tE (op2 notInX (aE tupD (consA (getP 11) (consA (op2 addD (cE (.str "-")) (op2 getD (getP 3) (getP 6))) nilA))) (getB 5)))) (seqS (putS 5 (aE tupD (consA (getP 10) (consA (op2 addD (cE (.str "+")) (op2 getD (getP 3) (getP 6))) nilA))) (getP 11))
  (putS 5 (aE tupD (consA (getP 11) (consA (op2 addD (cE (.str "-")) (op2 getD (getP 3) (getP 6))) nilA))) (getP 10))) nxS))))))
  (seqS (ownS 7 (cE (.dic 0 [])))
  (seqS (forS (gnG 6) (aI range1 (consA (aE lenF (consA (getP 2) nilA)) nilA)) (putS 7 (op2 getD (getP 2) (getP 6)) (op2 modD (aE m__law_draw (consA (getP 0) (consA (getP 1) (consA (op2 addD (cE (.int 21)) (getP 6)) nilA)))) (getP 4))))
  (giveS 7 (giveS 5 (retS (aE lstD (consA (getP 4) (consA (getP 7) (consA (getP 5) nilA))))))))))))
def m__law_big_store : List D → Res D := defM 12 b__law_big_store
def b__law_drawn_store : Env → SRes :=
  (seqS (ifS (tE (op2 eqO (op2 modD (aE m__law_draw (consA (getP 0) (consA (cE (.int 0)) (consA (cE (.int 9)) nilA)))) (cE (.int 4))) (cE (.int 1)))) (retS (aE m__law_big_store (consA (getP 0) (consA (getP 1) (consA (getP 2) (consA (getP 3) nilA)))))) nxS)
  (retS (aE m__law_store (consA (getP 0) (consA (getP 1) (consA (getP 2) (consA (getP 3) nilA)))))))
def m__law_drawn_store : List D → Res D := defM 4 b__law_drawn_store
def b__law_run : Env → SRes :=
  (seqS (setS 6 (aE listX (consA (op2 getD (getP 3) (cE (.int 1))) nilA)))
  (seqS (setS 7 (op2 addD (lcE [14] (gnG 14) (iE (getP 4)) yesT (op2 addD (cE (.str "+")) (getP 14))) (lcE [14] (gnG 14) (iE (getP 4)) yesT (op2 addD (cE (.str "-")) (getP 14)))))
  (seqS (setS 8 (aE tupD (consA (op2 getD (getP 6) (op2 modD (aE m__law_draw (consA (getP 0) (consA (getP 1) (consA (getP 2) nilA)))) (aE lenF (consA (getP 6) nilA)))) nilA)))
  (seqS (setS 9 (op2 getD (op2 getD (getP 3) (cE (.int 1))) (op2 getD (getP 8) (cE (.int 0)))))
  (seqS (forS (gnG 10) (aI range1 (consA (op2 modD (aE m__law_draw (consA (getP 0) (consA (getP 1) (consA (op2 addD (getP 2) (cE (.int 1))) nilA)))) (op2 addD (getP 5) (cE (.int 1)))) nilA)) (seqS (setS 11 (aE m__law_draw (consA (getP 0) (consA (getP 1) (consA (op2 addD (op2 addD (getP 2) (cE (.int 2))) (getP 10)) nilA)))))
  (seqS (setS 12 (op2 getD (getP 7) (op2 modD (getP 11) (aE lenF (consA (getP 7) nilA)))))
  (seqS (setS 13 (lcE [15] (gnG 15) (iE (getP 7)) (tE (op2 inZ (aE tupD (consA (getP 9) (consA (getP 15) nilA))) (op2 getD (getP 3) (cE (.int 2))))) (getP 15)))
  (seqS (ifS (andT (tE (op2 gtD (op2 modD (op2 fdivD (getP 11) (cE (.int 32))) (cE (.int 4))) (cE (.int 0)))) (tE (op2 neO (getP 13) (aE lstD nilA)))) (setS 12 (op2 getD (getP 13) (op2 modD (op2 fdivD (getP 11) (cE (.int 4))) (aE lenF (consA (getP 13) nilA))))) nxS)
  (seqS (setS 8 (op2 addD (getP 8) (aE tupD (consA (getP 12) nilA))))
  (setS 9 (getE (op2 getD (getP 3) (cE (.int 2))) (aE tupD (consA (getP 9) (consA (getP 12) nilA)))))))))))
  (retS (getP 8)))))))
def m__law_run : List D → Res D := defM 16 b__law_run
def b__law_many : Env → SRes :=
  (retS (op2 getD (aE lstD (consA (cE (.int 1)) (consA (cE (.int 2)) (consA (cE (.int 3)) (consA (cE (.int 1)) (consA (cE (.int 2)) (consA (cE (.int 3)) (consA (cE (.int 5)) (consA (cE (.int 6)) nilA))))))))) (op2 modD (aE m__law_draw (consA (getP 0) (consA (cE (.int 0)) (consA (getP 1) nilA)))) (cE (.int 8)))))
def m__law_many : List D → Res D := defM 2 b__law_many
def b_is_name : Env → SRes :=
  (seqS (ifS (orT (notT (tE (chE leD leD (cE (.int 1)) (aE lenF (consA (getP 0) nilA)) (cE (.int 12))))) (tE (op2 notInD (op2 getD (getP 0) (cE (.int 0))) (cE (.str "abcdefghijklmnopqrstuvwxyz"))))) (retS (cE (.bl false))) nxS)
  (seqS (forS (gnG 1) (iE (getP 0)) (ifS (andT (tE (op2 notInD (getP 1) (cE (.str "abcdefghijklmnopqrstuvwxyz")))) (tE (op2 notInD (getP 1) (cE (.str "0123456789"))))) (retS (cE (.bl false))) nxS))
  (retS (cE (.bl true)))))
def m_is_name : List D → Res D := defM 2 b_is_name
def b_check_store : Env → SRes :=
  (seqS (forXS (gnG 3) (getP 1) (ifS (orT (notT (tE (aE m_is_name (consA (getP 3) nilA)))) (notT (tE (chE leD ltD (cE (.int 0)) (op2 getD (getP 1) (getP 3)) (getP 0))))) (raise0S "BadStore") nxS))
  (seqS (ownS 4 (cE (.dic 1 [])))
  (forS (tupG 3 (consG (gnG 5) (consG (gnG 6) (consG (gnG 7) nilG)))) (iE (getP 2)) (seqS (ifS (orT (notT (tE (aE m_is_name (consA (getP 6) nilA)))) (orT (notT (tE (chE leD ltD (cE (.int 0)) (getP 5) (getP 0)))) (notT (tE (chE leD ltD (cE (.int 0)) (getP 7) (getP 0)))))) (raise0S "BadStore") nxS)
  (seqS (ifS (orT (tE (op2 inX (aE tupD (consA (getP 5) (consA (op2 addD (cE (.str "+")) (getP 6)) nilA))) (getB 4))) (tE (op2 inX (aE tupD (consA (getP 7) (consA (op2 addD (cE (.str "-")) (getP 6)) nilA))) (getB 4)))) (raise0S "BadStore") nxS)
  (seqS (putS 4 (aE tupD (consA (getP 5) (consA (op2 addD (cE (.str "+")) (getP 6)) nilA))) (cE (.bl true)))
  (putS 4 (aE tupD (consA (getP 7) (consA (op2 addD (cE (.str "-")) (getP 6)) nilA))) (cE (.bl true)))))))))
def m_check_store : List D → Res D := defM 8 b_check_store
def b_Store___init__ : Env → SRes :=
  (seqS (dropS (aE m_check_store (consA (getP 1) (consA (getP 2) (consA (getP 3) nilA)))))
  (seqS (setfS 0 "Store" "content_count" (getP 1))
  (seqS (setfS 0 "Store" "start_contents" (dcE [8] (gnG 8) (iE (aE sortedF (consA (lcDE [8] (gnG 8) (getP 2) yesT (aE strF (consA (getP 8) nilA))) nilA))) (getP 8) (op2 getD (getP 2) (getP 8))))
  (seqS (ownS 4 (cE (.dic 1 [])))
  (seqS (forS (tupG 3 (consG (gnG 5) (consG (gnG 6) (consG (gnG 7) nilG)))) (iE (getP 3)) (seqS (putS 4 (aE tupD (consA (getP 5) (consA (op2 addD (cE (.str "+")) (getP 6)) nilA))) (getP 7))
  (putS 4 (aE tupD (consA (getP 7) (consA (op2 addD (cE (.str "-")) (getP 6)) nilA))) (getP 5))))
  (giveS 4 (setfS 0 "Store" "leads" (getP 4))))))))
def m_Store___init__ : Addr → List D → Res D := defK "Store" 9 b_Store___init__
def b__law_moves : Env → SRes :=
  (seqS (ownS 1 (aE lstD nilA))
  (seqS (forDS (gnG 2) (ixLE 0 2) (ifS (tE (op2 eqO (op2 getD (op2 getD (getP 2) (cE (.int 1))) (cE (.int 0))) (cE (.str "+")))) (appS 1 (aE tupD (consA (op2 getD (getP 2) (cE (.int 0))) (consA (slE (op2 getD (getP 2) (cE (.int 1))) (someO (cE (.int 1))) noO) (consA (op2 getD (op2 getD (getP 0) (cE (.int 2))) (getP 2)) nilA))))) nxS))
  (giveS 1 (retS (getP 1)))))
def m__law_moves : List D → Res D := defM 3 b__law_moves
def b__law_made : Env → SRes :=
  (retS (aE (mkF m_Store___init__) (consA (op2 getD (getP 0) (cE (.int 0))) (consA (aE dictF (consA (op2 getD (getP 0) (cE (.int 1))) nilA)) (consA (aE m__law_moves (consA (getP 0) nilA)) nilA)))))
def m__law_made : List D → Res D := defM 1 b__law_made
def b_is_step : Env → SRes :=
  (retS (andE (op2 inD (slE (getP 0) noO (someO (cE (.int 1)))) (aE tupD (consA (cE (.str "+")) (consA (cE (.str "-")) nilA)))) (aE m_is_name (consA (slE (getP 0) (someO (cE (.int 1))) noO) nilA))))
def m_is_step : List D → Res D := defM 1 b_is_step
def b_check_run : Env → SRes :=
  (seqS (ifS (orT (tE (op2 eqO (aE lenF (consA (getP 0) nilA)) (cE (.int 0)))) (notT (tE (aE m_is_name (consA (op2 getD (getP 0) (cE (.int 0))) nilA))))) (raiseS "BadRun" ["run"] (consA (getP 0) nilA)) nxS)
  (forS (gnG 1) (iE (slE (getP 0) (someO (cE (.int 1))) noO)) (ifS (notT (tE (aE m_is_step (consA (getP 1) nilA)))) (raiseS "BadRun" ["run"] (consA (getP 0) nilA)) nxS)))
def m_check_run : List D → Res D := defM 2 b_check_run
def b_Store_check_starts : Env → SRes :=
  (forS (gnG 2) (iE (getP 1)) (ifS (tE (op2 notInZ (op2 getD (getP 2) (cE (.int 0))) (fldIE "Store" "start_contents" (getP 0)))) (raiseS "UnknownStart" ["name"] (consA (op2 getD (getP 2) (cE (.int 0))) nilA)) nxS))
def m_Store_check_starts : List D → Res D := defM 3 b_Store_check_starts
def b_Store_end : Env → SRes :=
  (seqS (dropS (aE m_check_run (consA (getP 1) nilA)))
  (seqS (dropS (methE "Store" "check_starts" m_Store_check_starts (getP 0) (consA (aE lstD (consA (getP 1) nilA)) nilA)))
  (seqS (setS 2 (op2 getD (fldIE "Store" "start_contents" (getP 0)) (op2 getD (getP 1) (cE (.int 0)))))
  (seqS (forS (gnG 3) (iE (slE (getP 1) (someO (cE (.int 1))) noO)) (seqS (ifS (tE (op2 notInZ (aE tupD (consA (getP 2) (consA (getP 3) nilA))) (fldIE "Store" "leads" (getP 0)))) (retS (cE .non)) nxS)
  (setS 2 (op2 getD (fldIE "Store" "leads" (getP 0)) (aE tupD (consA (getP 2) (consA (getP 3) nilA)))))))
  (retS (getP 2))))))
def m_Store_end : List D → Res D := defM 4 b_Store_end
def b_Store___contains__ : Env → SRes :=
  (seqS (dropS (aE m_check_run (consA (getP 1) nilA)))
  (retS (andE (op2 inZ (op2 getD (getP 1) (cE (.int 0))) (fldIE "Store" "start_contents" (getP 0))) (op2 notNO (methE "Store" "end" m_Store_end (getP 0) (consA (getP 1) nilA)) (cE .non)))))
def m_Store___contains__ : List D → Res D := defM 2 b_Store___contains__
def b__law_refused_start : Env → SRes :=
  (seqS (ifS (orT (notT (tE (isXE [("BadStore", true), ("BadRun", true), ("UnknownStart", true)] (getP 0)))) (notT (tE (isXE [("BadStore", true), ("BadRun", true), ("UnknownStart", true)] (getP 0))))) (retS (cE (.bl false))) nxS)
  (seqS (ifS (tE (isXE [("BadStore", true), ("BadRun", true), ("UnknownStart", false)] (getP 0))) (retS (cE (.bl false))) nxS)
  (retS (andE (isTE "str" (fldXE ["UnknownStart"] "name" (getP 0))) (op2 eqO (fldXE ["UnknownStart"] "name" (getP 0)) (getP 1))))))
def m__law_refused_start : List D → Res D := defM 2 b__law_refused_start
def b__law_refused : Env → SRes :=
  (seqS (ifS (tE (ownInE "Store" false m_Store___contains__ (getP 1) (getP 0))) (retS (cE (.bl false))) nxS)
  (seqS (tryS (dropS (methE "Store" "end" m_Store_end (getP 0) (consA (getP 1) nilA))) [([("BadStore", false), ("BadRun", false), ("UnknownStart", true)], some 2, (retS (aE m__law_refused_start (consA (getP 2) (consA (op2 getD (getP 1) (cE (.int 0))) nilA)))))])
  (retS (cE (.bl false)))))
def m__law_refused : List D → Res D := defM 3 b__law_refused
def b__law_trail : Env → SRes :=
  (seqS (ownS 2 (aE lstD (consA (op2 getD (op2 getD (getP 0) (cE (.int 1))) (op2 getD (getP 1) (cE (.int 0)))) nilA)))
  (seqS (forS (gnG 3) (iE (slE (getP 1) (someO (cE (.int 1))) noO)) (seqS (ifS (tE (op2 notInZ (aE tupD (consA (op2 getD (getB 2) (negE (cE (.int 1)))) (consA (getP 3) nilA))) (op2 getD (getP 0) (cE (.int 2))))) (giveS 2 (retS (getP 2))) nxS)
  (appS 2 (op2 getD (op2 getD (getP 0) (cE (.int 2))) (aE tupD (consA (op2 getD (getB 2) (negE (cE (.int 1)))) (consA (getP 3) nilA)))))))
  (giveS 2 (retS (getP 2)))))
def m__law_trail : List D → Res D := defM 4 b__law_trail
def b__law_is_integer : Env → SRes :=
  (retS (andE (isTE "int" (getP 0)) (notE (isTE "bool" (getP 0)))))
def m__law_is_integer : List D → Res D := defM 1 b__law_is_integer
def b_Store_walk : Env → List D → GRes :=
  (consGG (liftG (setS 2 (op2 getD (fldIE "Store" "start_contents" (getP 0)) (op2 getD (getP 1) (cE (.int 0))))))
  (consGG (yldG (getP 2))
  (consGG (forG (gnG 3) (iE (slE (getP 1) (someO (cE (.int 1))) noO)) (consGG (ifRetG (tE (op2 notInZ (aE tupD (consA (getP 2) (consA (getP 3) nilA))) (fldIE "Store" "leads" (getP 0)))))
  (consGG (liftG (setS 2 (op2 getD (fldIE "Store" "leads" (getP 0)) (aE tupD (consA (getP 2) (consA (getP 3) nilA))))))
  (consGG (yldG (getP 2))
  nilGG))))
  nilGG)))
def m_Store_walk : List D → Res D := genM 4 b_Store_walk
def b__law_asked : Env → SRes :=
  (seqS (setS 3 (aE m__law_trail (consA (getP 1) (consA (getP 2) nilA))))
  (seqS (setS 4 (geE (methE "Store" "walk" m_Store_walk (getP 0) (consA (getP 2) nilA))))
  (seqS (ifS (tE (op2 neO (aE lenF (consA (getP 4) nilA)) (aE lenF (consA (getP 3) nilA)))) (retS (cE (.bl false))) nxS)
  (seqS (forS (gnG 5) (aI range1 (consA (aE lenF (consA (getP 3) nilA)) nilA)) (ifS (orT (notT (tE (aE m__law_is_integer (consA (op2 getD (getP 4) (getP 5)) nilA)))) (tE (op2 neO (op2 getD (getP 4) (getP 5)) (op2 getD (getP 3) (getP 5))))) (retS (cE (.bl false))) nxS))
  (seqS (setS 6 (methE "Store" "end" m_Store_end (getP 0) (consA (getP 2) nilA)))
  (seqS (ifS (tE (op2 ltD (aE lenF (consA (getP 3) nilA)) (aE lenF (consA (getP 2) nilA)))) (retS (andE (op2 isNO (getP 6) (cE .non)) (ownInE "Store" true m_Store___contains__ (getP 2) (getP 0)))) nxS)
  (retS (andE (aE m__law_is_integer (consA (getP 6) nilA)) (andE (op2 eqO (getP 6) (op2 getD (getP 3) (negE (cE (.int 1))))) (ownInE "Store" false m_Store___contains__ (getP 2) (getP 0)))))))))))
def m__law_asked : List D → Res D := defM 8 b__law_asked
def b__law_unnamed : Env → SRes :=
  (retS (op2 getD (lcE [1] (gnG 1) (iE (aE lstD (consA (cE (.str "q")) (consA (cE (.str "x")) (consA (cE (.str "y")) (consA (cE (.str "z")) (consA (cE (.str "main")) (consA (cE (.str "m1")) (consA (cE (.str "zz")) (consA (cE (.str "u")) (consA (cE (.str "v")) nilA))))))))))) (tE (op2 notInZ (getP 1) (getP 0))) (getP 1)) (cE (.int 0))))
def m__law_unnamed : List D → Res D := defM 2 b__law_unnamed
def b__law_refused_run : Env → SRes :=
  (seqS (ifS (orT (notT (tE (isXE [("BadStore", true), ("BadRun", true), ("UnknownStart", true)] (getP 0)))) (notT (tE (isXE [("BadStore", true), ("BadRun", true), ("UnknownStart", true)] (getP 0))))) (retS (cE (.bl false))) nxS)
  (seqS (ifS (tE (isXE [("BadStore", true), ("BadRun", false), ("UnknownStart", true)] (getP 0))) (retS (cE (.bl false))) nxS)
  (retS (andE (isTE "tuple" (fldXE ["BadRun"] "run" (getP 0))) (op2 eqO (fldXE ["BadRun"] "run" (getP 0)) (getP 1))))))
def m__law_refused_run : List D → Res D := defM 2 b__law_refused_run
def b__law_bad : Env → SRes :=
  (seqS (setS 2 (cE (.int 0)))
  (seqS (tryS (dropS (methE "Store" "end" m_Store_end (getP 0) (consA (getP 1) nilA))) [([("BadStore", false), ("BadRun", true), ("UnknownStart", false)], some 3, (setS 2 (op2 addD (getP 2) (aE intF (consA (aE m__law_refused_run (consA (getP 3) (consA (getP 1) nilA))) nilA)))))])
  (seqS (tryS (setS 2 (op2 addD (getP 2) (op2 mulD (cE (.int 5)) (aE intF (consA (ownInE "Store" false m_Store___contains__ (getP 1) (getP 0)) nilA))))) [([("BadStore", false), ("BadRun", true), ("UnknownStart", false)], some 3, (setS 2 (op2 addD (getP 2) (aE intF (consA (aE m__law_refused_run (consA (getP 3) (consA (getP 1) nilA))) nilA)))))])
  (retS (op2 eqO (getP 2) (cE (.int 2)))))))
def m__law_bad : List D → Res D := defM 4 b__law_bad
def b_law : Env → SRes :=
  (seqS (setS 1 (aE m__law_names (consA (getP 0) (consA (cE (.int 1)) (consA (aE m__law_many (consA (getP 0) (consA (cE (.int 0)) nilA))) nilA)))))
  (seqS (setS 2 (aE m__law_names (consA (getP 0) (consA (cE (.int 2)) (consA (aE m__law_many (consA (getP 0) (consA (cE (.int 1)) nilA))) nilA)))))
  (seqS (setS 3 (aE m__law_drawn_store (consA (getP 0) (consA (cE (.int 3)) (consA (getP 2) (consA (getP 1) nilA))))))
  (seqS (setS 4 (aE m__law_drawn_store (consA (getP 0) (consA (cE (.int 4)) (consA (getP 2) (consA (getP 1) nilA))))))
  (seqS (setS 5 (aE m__law_run (consA (getP 0) (consA (cE (.int 5)) (consA (cE (.int 0)) (consA (getP 3) (consA (getP 1) (consA (cE (.int 9)) nilA))))))))
  (seqS (setS 5 (op2 addD (getP 5) (op2 mulD (slE (getP 5) (someO (cE (.int 1))) noO) (op2 modD (aE m__law_draw (consA (getP 0) (consA (cE (.int 0)) (consA (cE (.int 2)) nilA)))) (cE (.int 12))))))
  (seqS (setS 6 (aE m__law_run (consA (getP 0) (consA (cE (.int 6)) (consA (cE (.int 0)) (consA (getP 3) (consA (getP 1) (consA (cE (.int 9)) nilA))))))))
  (seqS (setS 7 (aE lstD (consA (aE m__law_made (consA (getP 3) nilA)) (consA (aE m__law_made (consA (getP 4) nilA)) nilA))))
  (seqS (forS (gnG 8) (aI range1 (consA (cE (.int 2)) nilA)) (seqS (ifS (orT (notT (tE (aE m__law_asked (consA (op2 getD (getP 7) (cE (.int 0))) (consA (getP 3) (consA (getP 5) nilA)))))) (notT (tE (aE m__law_asked (consA (op2 getD (getP 7) (cE (.int 1))) (consA (getP 4) (consA (getP 5) nilA))))))) (retS (cE (.bl false))) nxS)
  (ifS (orT (notT (tE (aE m__law_asked (consA (op2 getD (getP 7) (cE (.int 1))) (consA (getP 4) (consA (getP 6) nilA)))))) (notT (tE (aE m__law_asked (consA (op2 getD (getP 7) (cE (.int 0))) (consA (getP 3) (consA (getP 6) nilA))))))) (retS (cE (.bl false))) nxS)))
  (seqS (setS 9 (op2 addD (aE tupD (consA (aE m__law_unnamed (consA (op2 getD (getP 3) (cE (.int 1))) nilA)) nilA)) (slE (getP 5) (someO (cE (.int 1))) noO)))
  (seqS (ifS (orT (notT (tE (aE m__law_bad (consA (op2 getD (getP 7) (cE (.int 0))) (consA (op2 addD (getP 9) (aE tupD (consA (cE (.str "a")) nilA))) nilA))))) (notT (tE (aE m__law_bad (consA (op2 getD (getP 7) (cE (.int 1))) (consA (op2 addD (op2 addD (slE (getP 5) noO (someO (cE (.int 1)))) (aE tupD (consA (cE (.str "+A")) nilA))) (slE (getP 5) (someO (cE (.int 1))) noO)) nilA)))))) (retS (cE (.bl false))) nxS)
  (retS (andE (aE m__law_refused (consA (op2 getD (getP 7) (cE (.int 0))) (consA (getP 9) nilA))) (andE (aE m__law_refused (consA (op2 getD (getP 7) (cE (.int 1))) (consA (slE (getP 9) noO (someO (cE (.int 1)))) nilA))) (aE m__law_asked (consA (op2 getD (getP 7) (cE (.int 0))) (consA (getP 3) (consA (getP 5) nilA))))))))))))))))))
def m_law : List D → Res D := defM 10 b_law
end
end VL
namespace VL
open PySem L2
local macro_rules
  | `(tactic| simp_arith [$xs,*]) => `(tactic| simp only [seq_eq, rSeq_nx, rSeq_rt, rSeq_bk, rSeq_ct, rSeq_xc, setS_eq, rSet_ok, ownS_eq, rOwn_ok, retS_eq, rRet_ok, retNS_eq, nxS_eq, bkS_eq, ctS_eq, dropS_eq, rDrop_ok, ifS_eq, rIf_t, rIf_f, asgS_eq, appS_eq, rApp_ok, giveS_eq, VL.give, gnG_eq, getP_eq, getB_eq, rGet_ok, rGetB_ok, rGetB_ow, cE_eq, op2_eq, r2_ok, aE_eq, aI_eq, iE_eq, tE_eq, someO_eq, notE_eq, isTE_eq, r1_ok, toB_ok, toI_ok, notD_ok, noO_eq, nilA_eq, consA_eq, rC_ok, andT_eq, orT_eq, notT_eq, rAnd_t, rAnd_f, rAnd_ok, rOr_t, rOr_f, rOr_ok, rNot_ok, andE_eq, orE_eq, rAndE_t, rAndE_f, rAndE_ok, rOrE_t, rOrE_f, rOrE_ok, ifE_eq, rIfE_ok, slE_eq, rSl_ok, chE_eq, rCh_le, rCh_lelt, rCh_ltlt, rCh_ltle, strE_eq, rStr_ok, immE_eq, rImm_ok, Sat_nx, Sat_rt, Sat_ct, Sat_bk, Sat_xc, thn_nx, thn_rt, thn_ct, thn_bk, thn_xc, lp_nx, lp_ct, lp_bk, lp_rt, lp_xc, add_int, sub_int, mod_int, fdiv_int, lt_int, le_int, gt_int, ge_int, isN_eq, notN_eq, isNon, len_lst, len_tup, len_scr, int_int, get_str, get_tup, get_lst, get_scr, items_str, items_lst, items_tup, lst_nil, sl_tup, sl_lst, isT_bl, eqO_int, eqO_bl, eqO_scr, neO_int, env0, List.map_cons, List.map_nil, List.cons_append, List.nil_append, List.length_cons, List.length_nil, List.replicate, gz_, gs_, sz_, ss_, if_true, if_false, reduceIte, Bool.not_true, Bool.not_false, Bool.false_eq_true, Nat.reduceAdd, Nat.reduceSub, Bool.false_or, Bool.or_false, Bool.true_or, Bool.or_true, Bool.and_true, Bool.true_and, Bool.and_false, Bool.false_and, wipeE, yesT, negE_eq, neg_int, retFS, outO, ofE_ok, str_str, ltX_int, ltX_str, inX_str, notInX_str, list_lst, list_tup, Sat_ro, thn_ro, lp_ro, raiseS_eq, rRaise_ok, raise0S_eq, isXE_eq, fldXE_eq, int_bl, rSet_xc, rDrop_xc, rRet_xc, r1_xc, rC_xc, r2_xc, rIf_xc, outI_nx, outI_rt, outI_nx0, outI_rt0, inE_s, inE_0, lst_k, tup_k, catl_k, Nat.reduceLeDiff, inWE_eq, inW_str, ixWE_eq, guardX_ok, getE_eq, putS_eq, rPut_ok, $xs,*])
local macro_rules
  | `(tactic| simp_all_arith [$xs,*]) => `(tactic| simp only [seq_eq, rSeq_nx, rSeq_rt, rSeq_bk, rSeq_ct, rSeq_xc, setS_eq, rSet_ok, ownS_eq, rOwn_ok, retS_eq, rRet_ok, retNS_eq, nxS_eq, bkS_eq, ctS_eq, dropS_eq, rDrop_ok, ifS_eq, rIf_t, rIf_f, asgS_eq, appS_eq, rApp_ok, giveS_eq, VL.give, gnG_eq, getP_eq, getB_eq, rGet_ok, rGetB_ok, rGetB_ow, cE_eq, op2_eq, r2_ok, aE_eq, aI_eq, iE_eq, tE_eq, someO_eq, notE_eq, isTE_eq, r1_ok, toB_ok, toI_ok, notD_ok, noO_eq, nilA_eq, consA_eq, rC_ok, andT_eq, orT_eq, notT_eq, rAnd_t, rAnd_f, rAnd_ok, rOr_t, rOr_f, rOr_ok, rNot_ok, andE_eq, orE_eq, rAndE_t, rAndE_f, rAndE_ok, rOrE_t, rOrE_f, rOrE_ok, ifE_eq, rIfE_ok, slE_eq, rSl_ok, chE_eq, rCh_le, rCh_lelt, rCh_ltlt, rCh_ltle, strE_eq, rStr_ok, immE_eq, rImm_ok, Sat_nx, Sat_rt, Sat_ct, Sat_bk, Sat_xc, thn_nx, thn_rt, thn_ct, thn_bk, thn_xc, lp_nx, lp_ct, lp_bk, lp_rt, lp_xc, add_int, sub_int, mod_int, fdiv_int, lt_int, le_int, gt_int, ge_int, isN_eq, notN_eq, isNon, len_lst, len_tup, len_scr, int_int, get_str, get_tup, get_lst, get_scr, items_str, items_lst, items_tup, lst_nil, sl_tup, sl_lst, isT_bl, eqO_int, eqO_bl, eqO_scr, neO_int, env0, List.map_cons, List.map_nil, List.cons_append, List.nil_append, List.length_cons, List.length_nil, List.replicate, gz_, gs_, sz_, ss_, if_true, if_false, reduceIte, Bool.not_true, Bool.not_false, Bool.false_eq_true, Nat.reduceAdd, Nat.reduceSub, Bool.false_or, Bool.or_false, Bool.true_or, Bool.or_true, Bool.and_true, Bool.true_and, Bool.and_false, Bool.false_and, wipeE, yesT, negE_eq, neg_int, retFS, outO, ofE_ok, str_str, ltX_int, ltX_str, inX_str, notInX_str, list_lst, list_tup, Sat_ro, thn_ro, lp_ro, raiseS_eq, rRaise_ok, raise0S_eq, isXE_eq, fldXE_eq, int_bl, rSet_xc, rDrop_xc, rRet_xc, r1_xc, rC_xc, r2_xc, rIf_xc, outI_nx, outI_rt, outI_nx0, outI_rt0, inE_s, inE_0, lst_k, tup_k, catl_k, Nat.reduceLeDiff, inWE_eq, inW_str, ixWE_eq, guardX_ok, getE_eq, putS_eq, rPut_ok, m_eq, outS_rt, outS_nx, outS_xc, tryS_eq, rTry_nx, rTry_rt, rTry_xc, hndS_eq, methE_eq, rMeth_ok, propE_eq, rProp_ok, lmE_eqR, rLm_ok, fldIE_eqR, $xs,*])
section
theorem log_lt {i : Int} (h0 : 0 ≤ i) (h : i < 2 ^ 62) : i.natAbs.log2 < 62 := by
  by_cases hz : i.natAbs = 0
  · rw [hz]; decide
  · exact (Nat.log2_lt hz).mpr (by omega)
theorem draw_tail (S : Sl) (k j c : Int) (hk : 0 ≤ k) (hk2 : k < 2 ^ 60) (hj : 0 ≤ j) (hj2 : j < 2 ^ 60) (e6 e7 : Sl) : ∃ z : Int, (
  (seqS (setS 4 (op2 modD (aE intF (consA (op2 addD (op2 addD (op2 addD (op2 mulD (op2 modD (aE intF (consA (getP 3) nilA)) (cE (.int 2147483647))) (cE (.int 48271))) (op2 mulD (getP 1) (cE (.int 30269)))) (op2 mulD (getP 2) (cE (.int 69621)))) (cE (.int 11))) nilA)) (cE (.int 2147483647))))
  (seqS (setS 5 (op2 modD (aE intF (consA (op2 addD (op2 addD (op2 addD (op2 addD (op2 mulD (op2 modD (aE intF (consA (getP 4) nilA)) (cE (.int 46337))) (cE (.int 40692))) (op2 mulD (op2 fdivD (getP 4) (cE (.int 46337))) (cE (.int 16807)))) (op2 mulD (getP 2) (cE (.int 9973)))) (op2 mulD (getP 1) (cE (.int 211)))) (cE (.int 5))) nilA)) (cE (.int 2147483399))))
  (retS (op2 modD (aE intF (consA (op2 fdivD (getP 5) (cE (.int 16))) nilA)) (cE (.int 1000)))))) [S, .sh (.int k), .sh (.int j), .sh (.int c), .no, .no, e6, e7]) = .rt (.int z) ∧ 0 ≤ z ∧ z < 1000 := by
  have m1 : ∀ {i a : Int}, 0 ≤ i → i < 2 ^ 62 → 0 ≤ a → a < 2 ^ 62 → mulD (.int i) (.int a) = .ok (.int (i * a)) := fun h0 h1 h2 h3 => mul_int (by have := log_lt h0 h1; have := log_lt h2 h3; omega)
  have e1 := @m1 (c % 2147483647) 48271 (Int.emod_nonneg _ (by decide)) (by have := Int.emod_lt_of_pos c (show (0 : Int) < 2147483647 by decide); omega) (by decide) (by decide)
  have e2 := @m1 k 30269 hk (by omega) (by decide) (by decide)
  have e3 := @m1 j 69621 hj (by omega) (by decide) (by decide)
  have e4 := @m1 j 9973 hj (by omega) (by decide) (by decide)
  have e5 := @m1 k 211 hk (by omega) (by decide) (by decide)
  have e6' : ∀ f : Int, mulD (.int (f % 2147483647 % 46337)) (.int 40692) = .ok (.int (f % 2147483647 % 46337 * 40692)) := fun f => m1 (Int.emod_nonneg _ (by decide)) (by have := Int.emod_lt_of_pos (f % 2147483647) (show (0 : Int) < 46337 by decide); omega) (by decide) (by decide)
  have e7' : ∀ f : Int, mulD (.int (f % 2147483647 / 46337)) (.int 16807) = .ok (.int (f % 2147483647 / 46337 * 16807)) := fun f => m1 (by omega) (by omega) (by decide) (by decide)
  simp_arith [Int.reduceLT, e1, e2, e3, e4, e5, e6', e7', and_self, SRes.rt.injEq, D.int.injEq]
  exact ⟨_, rfl, Int.emod_nonneg _ (by decide), Int.emod_lt_of_pos _ (by decide)⟩
theorem draw_ex (ns : List Int) (k j : Int) (hk : 0 ≤ k) (hk2 : k < 2 ^ 60) (hj : 0 ≤ j) (hj2 : j < 2 ^ 60) : ∃ d, m__law_draw [.scr ns, .int k, .int j] = .ok d ∧ ∃ z : Int, d = .int z ∧ 0 ≤ z ∧ z < 1000 := by
  refine m_ex ?_
  unfold b__law_draw
  cases hns : ns with
  | nil => simp_arith [List.isEmpty_nil]; exact ⟨0, rfl, by decide, by decide⟩
  | cons n0 nr =>
    rw [← hns]
    have hne : ns.isEmpty = false := by rw [hns]; rfl
    have hl : 0 < ns.length := by rw [hns]; exact Nat.succ_pos _
    have hl' : (0 : Int) < ns.length := by omega
    obtain ⟨c, hc⟩ : ∃ c : Int, seqGet (ns.map D.int) (k % (ns.length : Int)) = .ok (.int c) := by
      have hm : (k % (ns.length : Int)).toNat < ns.length := by
        have := Int.emod_lt_of_pos k hl'
        have := Int.emod_nonneg k (show (ns.length : Int) ≠ 0 by omega)
        omega
      refine ⟨ns[(k % (ns.length : Int)).toNat], ?_⟩
      have := @seqGet_of (ns.map D.int) (k % (ns.length : Int)).toNat (.int ns[(k % (ns.length : Int)).toNat]) (by rw [List.getElem?_map, List.getElem?_eq_getElem hm]; rfl)
      rwa [Int.toNat_of_nonneg (Int.emod_nonneg k (by omega))] at this
    have tl : ∀ e6 e7, Sat { rt := fun d => ∃ z : Int, d = .int z ∧ 0 ≤ z ∧ z < 1000 } _ := fun e6 e7 => by
      obtain ⟨z, h1, h2⟩ := draw_tail (.sh (.scr ns)) k j c hk hk2 hj hj2 e6 e7
      exact Sat.rt h1 ⟨z, rfl, h2⟩
    simp only [seq_eq, ifS_eq, setS_eq, seq_eq, rSeq_nx, rSeq_rt, rSeq_bk, rSeq_ct, rSeq_xc, setS_eq, rSet_ok, ownS_eq, rOwn_ok, retS_eq, rRet_ok, retNS_eq, nxS_eq, bkS_eq, ctS_eq, dropS_eq, rDrop_ok, ifS_eq, rIf_t, rIf_f, asgS_eq, appS_eq, rApp_ok, giveS_eq, VL.give, gnG_eq, getP_eq, getB_eq, rGet_ok, rGetB_ok, rGetB_ow, cE_eq, op2_eq, r2_ok, aE_eq, aI_eq, iE_eq, tE_eq, someO_eq, notE_eq, isTE_eq, r1_ok, toB_ok, toI_ok, notD_ok, noO_eq, nilA_eq, consA_eq, rC_ok, andT_eq, orT_eq, notT_eq, rAnd_t, rAnd_f, rAnd_ok, rOr_t, rOr_f, rOr_ok, rNot_ok, andE_eq, orE_eq, rAndE_t, rAndE_f, rAndE_ok, rOrE_t, rOrE_f, rOrE_ok, ifE_eq, rIfE_ok, slE_eq, rSl_ok, chE_eq, rCh_le, rCh_lelt, rCh_ltlt, rCh_ltle, strE_eq, rStr_ok, immE_eq, rImm_ok, Sat_nx, Sat_rt, Sat_ct, Sat_bk, Sat_xc, thn_nx, thn_rt, thn_ct, thn_bk, thn_xc, lp_nx, lp_ct, lp_bk, lp_rt, lp_xc, add_int, sub_int, mod_int, fdiv_int, lt_int, le_int, gt_int, ge_int, isN_eq, notN_eq, isNon, len_lst, len_tup, len_scr, int_int, get_str, get_tup, get_lst, get_scr, items_str, items_lst, items_tup, lst_nil, sl_tup, sl_lst, isT_bl, eqO_int, eqO_bl, eqO_scr, neO_int, env0, List.map_cons, List.map_nil, List.cons_append, List.nil_append, List.length_cons, List.length_nil, List.replicate, gz_, gs_, sz_, ss_, if_true, if_false, reduceIte, Bool.not_true, Bool.not_false, Bool.false_eq_true, Nat.reduceAdd, Nat.reduceSub, Bool.false_or, Bool.or_false, Bool.true_or, Bool.or_true, Bool.and_true, Bool.true_and, Bool.and_false, Bool.false_and, wipeE, yesT, negE_eq, neg_int, retFS, outO, ofE_ok, str_str, ltX_int, ltX_str, inX_str, notInX_str, list_lst, list_tup, Sat_ro, thn_ro, lp_ro, raiseS_eq, rRaise_ok, raise0S_eq, isXE_eq, fldXE_eq, int_bl, rSet_xc, rDrop_xc, rRet_xc, r1_xc, rC_xc, r2_xc, rIf_xc, outI_nx, outI_rt, outI_nx0, outI_rt0, inE_s, inE_0, lst_k, tup_k, catl_k, Nat.reduceLeDiff, inWE_eq, inW_str, ixWE_eq, guardX_ok, getE_eq, putS_eq, rPut_ok, hne, lenF, hl', hc, pow_18]
    refine Sat.rseq (Sat.ifb (fun _ => ?_) (fun _ => ?_))
    · simp_arith []
      refine Sat.rseq (Sat.forS0 (fun env => ∃ (r : Int) (x : Sl), env = [.sh (.scr ns), .sh (.int k), .sh (.int j), .sh (.int c), .no, .no, .sh (.int r), x]) (ds := rangeD 0 j.toNat) ?_ ⟨c, _, rfl⟩ ?_ ?_)
      · simp_arith []
        exact range1_ok (by omega)
      · rintro d _ env ⟨r, x, rfl⟩
        refine ⟨_, rfl, ?_⟩
        simp_arith [Int.reduceLT, and_self]
        exact ⟨_, _, rfl⟩
      · rintro env ⟨r, x, rfl⟩
        simp_arith []
        refine Sat.ifb (fun _ => ?_) (fun _ => ?_)
        · simp_arith [Int.reduceLT, and_self]
          exact ⟨_, rfl, Int.emod_nonneg _ (by decide), Int.emod_lt_of_pos _ (by decide)⟩
        · simp only [nxS_eq, Sat_nx, thn_nx]
          exact tl _ _
    · simp only [nxS_eq, Sat_nx, thn_nx]
      exact tl _ _
def dr (ns : List Int) (k j : Int) : Int := match m__law_draw [.scr ns, .int k, .int j] with
  | .ok (.int z) => z
  | _ => 0
theorem draw_all (ns : List Int) (k j : Int) (hk : 0 ≤ k) (hk2 : k < 2 ^ 60) (hj : 0 ≤ j) (hj2 : j < 2 ^ 60) : m__law_draw [.scr ns, .int k, .int j] = .ok (.int (dr ns k j)) ∧ 0 ≤ dr ns k j ∧ dr ns k j < 1000 := by
  obtain ⟨d, h1, z, rfl, h2, h3⟩ := draw_ex ns k j hk hk2 hj hj2
  have : dr ns k j = z := by unfold dr; rw [h1]
  rw [this]
  exact ⟨h1, h2, h3⟩
theorem draw_nn (ns : List Int) (k j : Nat) (hk : k < 2 ^ 60) (hj : j < 2 ^ 60) : m__law_draw [.scr ns, .int k, .int j] = .ok (.int (dr ns k j)) := (draw_all ns k j (by omega) (by omega) (by omega) (by omega)).1

end
section
def lowL : List Nat := ("abcdefghijklmnopqrstuvwxyz" : Str).cps.toList
def digL : List Nat := ("0123456789" : Str).cps.toList
def namL (cs : List Nat) : Bool := decide (1 ≤ cs.length) && decide (cs.length ≤ 12) && (match cs with | c :: _ => decide (c ∈ lowL) | [] => false) && cs.all fun c => decide (c ∈ lowL) || decide (c ∈ digL)
def nameB (s : Str) : Bool := namL s.cps.toList
theorem strItems_mem {z : Str} {d : D} (h : d ∈ strItems z) : ∃ c, c ∈ z.cps.toList ∧ d = .str ⟨#[c]⟩ := by
  unfold strItems at h
  obtain ⟨c, h1, h2⟩ := List.mem_map.mp h
  exact ⟨c, h1, h2.symm⟩
theorem notIn_c (c : Nat) (z : Str) : notInD (.str ⟨#[c]⟩) (.str z) = .ok (.bl (!decide (c ∈ z.cps.toList))) := rfl
theorem name_head {s : Str} (h : 1 ≤ s.length) (hl : s.length ≤ sizeLine) : ∃ c r, s.cps.toList = c :: r ∧ strGet s 0 = .ok (.str ⟨#[c]⟩) := by
  obtain ⟨c, h1, h2⟩ := @strGet_of s 0 hl h
  cases q : s.cps.toList with
  | nil => rw [q] at h1; cases h1
  | cons c' r =>
    rw [q] at h1
    cases h1
    exact ⟨_, r, rfl, h2⟩
theorem name_loop {P : Post} {i : Nat} {s : Str} {ψ : Env → SRes} {p : Nat → Bool} {env : Env} {ι : Env → Res (List D)} (hi : ι env = .ok (strItems s)) (I : Env → Prop) (h0 : I env)
    (hb : ∀ c env, I env → ∃ e2, I e2 ∧ ψ (env.set i (.sh (.str ⟨#[c]⟩))) = if p c = true then .nx e2 else .rt (.bl false))
    (hf : s.cps.toList.all p = false → P.rt (.bl false)) (ht : s.cps.toList.all p = true → ∀ env, I env → P.nx env) : Sat P (forS (gnG i) ι ψ env) := by
  by_cases ha : s.cps.toList.all p = true
  · refine Sat.forS0 I hi h0 ?_ (ht ha)
    rintro d hd env hI
    obtain ⟨c, hc, rfl⟩ := strItems_mem hd
    refine ⟨_, rfl, ?_⟩
    obtain ⟨e2, h2, h3⟩ := hb c env hI
    have : p c = true := List.all_eq_true.mp ha c hc
    rw [if_pos this] at h3
    rw [h3]
    exact h2
  · have hf' := hf (by simpa using ha)
    unfold VL.forS ofA
    rw [hi]
    have : ∀ cs : List Nat, ¬ cs.all p = true → ∀ env, I env → Sat P (forL (gnG i) ψ (cs.map fun c => D.str ⟨#[c]⟩) env) := by
      intro cs
      induction cs with
      | nil => intro h; exact absurd rfl h
      | cons c cs ih =>
        intro h env hI
        obtain ⟨e2, h2, h3⟩ := hb c env hI
        rw [List.map_cons]
        unfold forL
        show Sat P (flowL (ψ (env.set i (.sh (.str ⟨#[c]⟩)))) _)
        by_cases hc : p c = true
        · rw [if_pos hc] at h3
          rw [h3]
          refine ih (fun h' => h ?_) e2 h2
          rw [List.all_cons, hc, h']; rfl
        · rw [if_neg hc] at h3
          rw [h3]
          exact hf'
    exact this _ ha env h0
theorem len_cut (z : Str) (l u : Option Int) : (cutS z l u).length ≤ z.length := by
  unfold cutS
  rw [str_len]
  show ((z.cps.toList.drop _).take _).length ≤ z.cps.toList.length
  rw [List.length_take, List.length_drop]
  omega
theorem rep_len {α : Type} (n : Nat) (l : List α) : (List.replicate n l).flatten.length = n * l.length := by
  induction n with
  | zero => simp
  | succ n ih => rw [List.replicate_succ, List.flatten_cons, List.length_append, ih, Nat.succ_mul]; omega

end
section
def abc36 : Str := "abcdefghijklmnopqrstuvwxyz0123456789"
theorem abc36_len : abc36.length = 36 := by decide +kernel
theorem abc36_all : ∀ c ∈ abc36.cps.toList, c ∈ lowL ∨ c ∈ digL := by decide +kernel
def partB (s : Str) : Prop := ∀ c ∈ s.cps.toList, c ∈ lowL ∨ c ∈ digL
theorem name_of {s : Str} {c : Nat} {r : List Nat} (h : s.cps.toList = c :: r) (hc : c ∈ lowL) (hr : ∀ c ∈ r, c ∈ lowL ∨ c ∈ digL) (hl : r.length ≤ 11) : nameB s = true := by
  unfold nameB namL
  rw [h]
  have e1 : decide (1 ≤ (c :: r).length) = true := decide_eq_true (by rw [List.length_cons]; omega)
  have e2 : decide ((c :: r).length ≤ 12) = true := decide_eq_true (by rw [List.length_cons]; omega)
  have e3 : (c :: r).all (fun c => decide (c ∈ lowL) || decide (c ∈ digL)) = true := List.all_eq_true.mpr fun x hx => by
    rcases List.mem_cons.mp hx with rfl | hx
    · rw [decide_eq_true hc]; rfl
    · rcases hr x hx with h | h
      · rw [decide_eq_true h]; rfl
      · rw [decide_eq_true h, Bool.or_true]
  simp only [e1, e2, e3, decide_eq_true hc, Bool.and_self]
theorem cut_toList (z : Str) (l u : Option Int) : (cutS z l u).cps.toList = (z.cps.toList.drop (HT.sIx z.length 0 l)).take (HT.sIx z.length z.length u - HT.sIx z.length 0 l) := rfl
theorem strGet_low (m : Int) (hm0 : 0 ≤ m) (hm : m < 26) : ∃ c, strGet abc36 m = .ok (.str ⟨#[c]⟩) ∧ c ∈ lowL := by
  obtain ⟨m, rfl⟩ := Int.eq_ofNat_of_zero_le hm0
  obtain ⟨c, h1, h2⟩ := @strGet_of abc36 m (by rw [abc36_len]; decide) (by rw [abc36_len]; omega)
  refine ⟨c, h2, ?_⟩
  have : ∀ i : Fin 26, ∀ c, abc36.cps.toList[i.1]? = some c → c ∈ lowL := by
    have : (List.range 26).all (fun i => match abc36.cps.toList[i]? with | some c => decide (c ∈ lowL) | none => true) = true := by decide +kernel
    intro i c h
    have := List.all_eq_true.mp this i.1 (List.mem_range.mpr i.2)
    rw [h] at this
    exact of_decide_eq_true this
  exact this ⟨m, by omega⟩ c h1
theorem names_base (ns : List Int) (k : Nat) (hk : k < 2 ^ 59) (x2 x4 x5 x6 x7 x8 x9 x10 x11 : Sl) : ∃ b : Str, strE joinD (cE (.str "")) (lcE [9] (gnG 9) (aI range1 (consA (cE (.int 12)) nilA)) yesT (op2 getD (getP 3) (op2 modD (aE m__law_draw (consA (getP 0) (consA (getP 1) (consA (op2 addD (cE (.int 1)) (getP 9)) nilA)))) (cE (.int 36))))) [.sh (.scr ns), .sh (.int (k : Int)), x2, .sh (.str abc36), x4, x5, x6, x7, x8, x9, x10, x11] = .ok (.str b) ∧ b.length = 12 ∧ partB b := by
  obtain ⟨ys, h1, h2, h3⟩ := lcE_ex (vs := [9]) (γ := gnG 9) (φ := op2 getD (getP 3) (op2 modD (aE m__law_draw (consA (getP 0) (consA (getP 1) (consA (op2 addD (cE (.int 1)) (getP 9)) nilA)))) (cE (.int 36)))) (ι := aI range1 (consA (cE (.int 12)) nilA)) (env := [.sh (.scr ns), .sh (.int (k : Int)), x2, .sh (.str abc36), x4, x5, x6, x7, x8, x9, x10, x11])
    (fun d => ∃ c : Nat, d = .str ⟨#[c]⟩ ∧ (c ∈ lowL ∨ c ∈ digL)) (ds := rangeD 0 12) rfl (by rw [rangeD_len]; decide) (fun d hd => by
      obtain ⟨i, hi, rfl⟩ := rangeD_mem hd
      refine ⟨_, rfl, ?_⟩
      have hd := (draw_all ns k (1 + (0 + (i : Int))) (by omega) (by omega) (by omega) (by omega)).1
      obtain ⟨c, h1, h2⟩ := pick_str abc36 36 (by rw [abc36_len]; decide) (by decide) (by rw [abc36_len]; decide) (dr ns k (1 + (0 + (i : Int))))
      refine ⟨.str ⟨#[c]⟩, ?_, c, rfl, abc36_all c h2⟩
      simp_arith [Int.reduceLT, hd, h1])
  obtain ⟨cs, rfl⟩ : ∃ cs : List Nat, ys = cs.map fun c => D.str ⟨#[c]⟩ := by
    clear h1 h2
    induction ys with
    | nil => exact ⟨[], rfl⟩
    | cons y ys ih =>
      obtain ⟨cs, rfl⟩ := ih fun y hy => h3 y (List.mem_cons_of_mem _ hy)
      obtain ⟨c, rfl, _⟩ := h3 y (List.mem_cons_self ..)
      exact ⟨c :: cs, rfl⟩
  rw [List.length_map, rangeD_len] at h2
  have hm : ∀ c ∈ cs, c ∈ lowL ∨ c ∈ digL := fun c hc => by
    obtain ⟨c', e, h⟩ := h3 (.str ⟨#[c]⟩) (List.mem_map.mpr ⟨c, hc, rfl⟩)
    cases e
    exact h
  have hj := join_of (Str.ofString "") (cs.map fun c => (⟨#[c]⟩ : Str)) (by
    have := sum_le (cs.map fun c => (⟨#[c]⟩ : Str)) 1 (fun s hs => by
      obtain ⟨c, _, rfl⟩ := List.mem_map.mp hs
      exact Nat.le_refl 1)
    rw [List.length_map, h2] at *
    have e : (Str.ofString "").length = 0 := by decide +kernel
    rw [e]
    omega)
  have hf : ∀ l : List Nat, ((l.map fun c => (⟨#[c]⟩ : Str)).map fun s => s.cps.toList).flatten = l := by
    intro l
    induction l with
    | nil => rfl
    | cons c l ih =>
      rw [List.map_cons, List.map_cons, List.flatten_cons, ih]
      rfl
  refine ⟨Txt.join (Str.ofString "") (cs.map fun c => (⟨#[c]⟩ : Str)), ?_, ?_, ?_⟩
  · simp only [strE_eq, cE_eq, h1, rStr_ok]
    rw [List.map_map] at hj
    exact hj
  · rw [str_len, tl_join0, hf, h2]
  · unfold partB
    rw [tl_join0, hf]
    exact hm

end
section
theorem m_tl : ("m" : Str).cps.toList = [109] := by decide +kernel
theorem names_ex (ns : List Int) (k many : Nat) (hk : k < 2 ^ 59) (hm : many ≤ 8) : ∃ l : List Str, m__law_names [.scr ns, .int (k : Int), .int (many : Int)] = .ok (.lst (l.map .str)) ∧ l.length = many ∧ ∀ s ∈ l, nameB s = true := by
  have key : ∃ d, m__law_names [.scr ns, .int (k : Int), .int (many : Int)] = .ok d ∧ ∃ l : List Str, d = .lst (l.map .str) ∧ l.length = many ∧ ∀ s ∈ l, nameB s = true := by
    refine m_ex ?_
    unfold b__law_names
    have dd : ∀ j : Nat, j < 100 → m__law_draw [.scr ns, .int (k : Int), .int (j : Int)] = .ok (.int (dr ns k j)) := fun j hj => draw_nn ns k j (by omega) (by omega)
    have d0 : m__law_draw [.scr ns, .int (k : Int), .int 0] = .ok (.int (dr ns k 0)) := dd 0 (by decide)
    have d13 : m__law_draw [.scr ns, .int (k : Int), .int 13] = .ok (.int (dr ns k 13)) := dd 13 (by decide)
    have d14 : m__law_draw [.scr ns, .int (k : Int), .int 14] = .ok (.int (dr ns k 14)) := dd 14 (by decide)
    refine Sat.seq (Sat.nx rfl ?_)
    show Sat _ (seqS _ _ [.sh (.scr ns), .sh (.int (k : Int)), .sh (.int (many : Int)), .sh (.str abc36), .no, .no, .no, .no, .no, .no, .no, .no])
    rw [seq_eq]
    simp only [setS_eq, op2_eq, aE_eq, consA_eq, nilA_eq, getP_eq, cE_eq, gz_, gs_, rGet_ok, rC_ok, r1_ok, d0, r2_ok, mod_int, Int.reduceLT, rSet_ok, rSeq_nx, sz_, ss_]
    generalize dr ns k 0 % 3 = mode
    obtain ⟨b, hb, hbl, hbp⟩ := names_base ns k hk (.sh (.int (many : Int))) (.sh (.int mode)) .no .no .no .no .no .no .no
    have hB : addD (.str "m") (.str b) = .ok (.str (("m" : Str) ++ b)) := add_str (le_line (by rw [hbl]; decide +kernel))
    rw [seq_eq, setS_eq, op2_eq, hb]
    simp only [cE_eq, r2_ok, hB, rSet_ok, rSeq_nx, sz_, ss_]
    have hBt : (("m" : Str) ++ b).cps.toList = 109 :: b.cps.toList := by rw [str_app, m_tl]; rfl
    have hBl : (("m" : Str) ++ b).length = 13 := by rw [str_app_len, hbl]; decide +kernel
    generalize ("m" : Str) ++ b = B at hBt hBl
    have z0 := Int.emod_nonneg (dr ns k 13) (show (12 : Int) ≠ 0 by decide)
    have z1 := Int.emod_lt_of_pos (dr ns k 13) (show (0 : Int) < 12 by decide)
    have hz : (0 : Int) < 1 + dr ns k 13 % 12 := by omega
    simp_arith [d13, d14, mod_int (show (0 : Int) < 12 by decide), mod_int hz]
    generalize dr ns k 13 % 12 = z at z0 z1 hz
    have p0 := Int.emod_nonneg (dr ns k 14) (show 1 + z ≠ 0 by omega)
    have p1 := Int.emod_lt_of_pos (dr ns k 14) hz
    generalize dr ns k 14 % (1 + z) = p at p0 p1
    obtain ⟨z, rfl⟩ := Int.eq_ofNat_of_zero_le z0
    obtain ⟨p, rfl⟩ := Int.eq_ofNat_of_zero_le p0
    let I : Nat → Env → Prop := fun i env => ∃ (l : List Str) (x y w : Sl), env = [.sh (.scr ns), .sh (.int (k : Int)), .sh (.int (many : Int)), .sh (.str abc36), .sh (.int mode), .sh (.str B), .sh (.int (1 + (z : Int))), .sh (.int (p : Int)), .ow (.lst (l.map .str)), x, y, w] ∧ l.length = i ∧ ∀ s ∈ l, nameB s = true
    refine Sat.rseq ?_
    with_reducible refine Sat.forS I (ds := rangeD 0 many) ?_ ?_ ?_ ?_
    · simp_arith []
      rw [range1_nat (by omega)]
    · exact ⟨[], _, _, _, rfl, rfl, by simp⟩
    · rintro i d env hd ⟨l, x, y, w, rfl, hl, hall⟩
      obtain ⟨hi, rfl⟩ := rangeD_get hd
      refine ⟨_, rfl, ?_⟩
      have hdi : m__law_draw [.scr ns, .int (k : Int), .int (15 + (0 + (i : Int)))] = .ok (.int (dr ns k (15 + (0 + (i : Int))))) := (draw_all ns k _ (by omega) (by omega) (by omega) (by omega)).1
      have hBp : ∀ c ∈ b.cps.toList, c ∈ lowL ∨ c ∈ digL := hbp
      -- the last: append
      have fin : ∀ (s : Str) (x9 x10 : Sl), nameB s = true → Sat (((Post.mk (fun _ => False) (fun _ => False) (fun _ => False) (fun d => ∃ l : List Str, d = .lst (l.map .str) ∧ l.length = many ∧ ∀ s ∈ l, nameB s = true) (fun _ _ _ => False) (fun _ => False)).thn (giveS 8 (retS (getP 8)))).lp (I (i + 1))) (appS 8 (getP 11) [.sh (.scr ns), .sh (.int (k : Int)), .sh (.int (many : Int)), .sh (.str abc36), .sh (.int mode), .sh (.str B), .sh (.int (1 + (z : Int))), .sh (.int (p : Int)), .ow (.lst (l.map .str)), x9, x10, .sh (.str s)]) := fun s x9 x10 hs => by
        have hlt : (l.map D.str).length < sizeLine := by rw [List.length_map]; exact Nat.lt_of_lt_of_le (show l.length < 1000000 by omega) (le_line (Nat.le_refl _))
        simp_arith [if_pos hlt]
        refine ⟨l ++ [s], _, _, _, by rw [List.map_append]; rfl, by rw [List.length_append, hl]; rfl, fun t ht => ?_⟩
        rcases List.mem_append.mp ht with h | h
        · exact hall t h
        · rw [List.mem_singleton.mp h]; exact hs
      obtain ⟨c, hc, hcl⟩ := strGet_low (dr ns k (15 + (0 + (i : Int))) % 26) (Int.emod_nonneg _ (by decide)) (Int.emod_lt_of_pos _ (by decide))
      have y0 := Int.emod_nonneg (dr ns k (15 + (0 + (i : Int))) / 26) (show (12 : Int) ≠ 0 by decide)
      have y1 := Int.emod_lt_of_pos (dr ns k (15 + (0 + (i : Int))) / 26) (show (0 : Int) < 12 by decide)
      have hBn : ∀ (u : Option Int) (q : Nat) (c : Nat), c ∈ (cutS B (some ((q + 1 : Nat) : Int)) u).cps.toList → c ∈ lowL ∨ c ∈ digL := fun u q c h => by
        rw [cut_toList, HT.sIx_nat, hBt, hBl] at h
        have h' := List.mem_of_mem_take h
        have : ∃ q', min (q + 1) 13 = q' + 1 := ⟨min (q + 1) 13 - 1, by omega⟩
        obtain ⟨q', e⟩ := this
        rw [e, List.drop_succ_cons] at h'
        exact hBp c (List.mem_of_mem_drop h')
      have hsl : sliceD (.str B) (some 1) (some (1 + dr ns k (15 + (0 + (i : Int))) / 26 % 12)) = .ok (.str (cutS B (some 1) (some (1 + dr ns k (15 + (0 + (i : Int))) / 26 % 12)))) := sl_str (le_line (by omega))
      have ha : addD (.str ⟨#[c]⟩) (.str (cutS B (some 1) (some (1 + dr ns k (15 + (0 + (i : Int))) / 26 % 12)))) = .ok (.str ((⟨#[c]⟩ : Str) ++ cutS B (some 1) (some (1 + dr ns k (15 + (0 + (i : Int))) / 26 % 12)))) := add_str (le_line (by have := len_cut B (some 1) (some (1 + dr ns k (15 + (0 + (i : Int))) / 26 % 12)); rw [str_sing]; omega))
      have hn0 : nameB ((⟨#[c]⟩ : Str) ++ cutS B (some 1) (some (1 + dr ns k (15 + (0 + (i : Int))) / 26 % 12))) = true := by
        refine name_of (c := c) (r := (cutS B (some 1) (some (1 + dr ns k (15 + (0 + (i : Int))) / 26 % 12))).cps.toList) (by rw [str_app]; rfl) hcl (fun c h => hBn _ 0 c h) ?_
        generalize dr ns k (15 + (0 + (i : Int))) / 26 % 12 = yy at y0 y1
        obtain ⟨yy, rfl⟩ := Int.eq_ofNat_of_zero_le y0
        rw [cut_toList, List.length_take, show (1 : Int) + (yy : Int) = ((1 + yy : Nat) : Int) by omega, HT.sIx_nat, show (1 : Int) = ((1 : Nat) : Int) from rfl, HT.sIx_nat, hBl]
        omega
      simp_arith [Int.reduceLT, and_self, hdi, show strGet abc36 (dr ns k (15 + (0 + (i : Int))) % 26) = .ok (.str ⟨#[c]⟩) from hc, hsl, ha]
      generalize (⟨#[c]⟩ : Str) ++ cutS B (some 1) (some (1 + dr ns k (15 + (0 + (i : Int))) / 26 % 12)) = nm at hn0
      -- mode 0, then mode 1
      have rest : ∀ (s : Str), nameB s = true → Sat (((Post.mk (fun _ => False) (fun _ => False) (fun _ => False) (fun d => ∃ l : List Str, d = .lst (l.map .str) ∧ l.length = many ∧ ∀ s ∈ l, nameB s = true) (fun _ _ _ => False) (fun _ => False)).thn (giveS 8 (retS (getP 8)))).lp (I (i + 1))) (seqS (ifS (tE (op2 eqO (getP 4) (cE (.int 1)))) (setS 11 (op2 addD (op2 addD (slE (getP 5) noO (someO (getP 7))) (op2 getD (getP 3) (op2 modD (aE intF (consA (op2 addD (getP 10) (getP 9)) nilA)) (cE (.int 26))))) (slE (getP 5) (someO (op2 addD (getP 7) (cE (.int 1)))) (someO (getP 6))))) nxS) (appS 8 (getP 11)) [.sh (.scr ns), .sh (.int (k : Int)), .sh (.int (many : Int)), .sh (.str abc36), .sh (.int mode), .sh (.str B), .sh (.int (1 + (z : Int))), .sh (.int (p : Int)), .ow (.lst (l.map .str)), .sh (.int (0 + (i : Int))), .sh (.int (dr ns k (15 + (0 + (i : Int))))), .sh (.str s)]) := fun s hs => by
        rw [seq_eq]
        simp only [ifS_eq, tE_eq, op2_eq, getP_eq, cE_eq, gz_, gs_, rGet_ok, r2_ok, r1_ok, eqO_int, toB_ok]
        refine Sat.rseq (Sat.ifP (fun _ => ?_) (fun _ => ?_))
        · obtain ⟨c2, hc2, hcl2⟩ := strGet_low ((dr ns k (15 + (0 + (i : Int))) + (0 + (i : Int))) % 26) (Int.emod_nonneg _ (by decide)) (Int.emod_lt_of_pos _ (by decide))
          have s1 : sliceD (.str B) none (some (p : Int)) = .ok (.str (cutS B none (some (p : Int)))) := sl_str (le_line (by omega))
          have s2 : sliceD (.str B) (some ((p : Int) + 1)) (some (1 + (z : Int))) = .ok (.str (cutS B (some ((p : Int) + 1)) (some (1 + (z : Int))))) := sl_str (le_line (by omega))
          have l1 := len_cut B none (some (p : Int))
          have l2 := len_cut B (some ((p : Int) + 1)) (some (1 + (z : Int)))
          have a1 : addD (.str (cutS B none (some (p : Int)))) (.str ⟨#[c2]⟩) = .ok (.str (cutS B none (some (p : Int)) ++ ⟨#[c2]⟩)) := add_str (le_line (by rw [str_sing]; omega))
          have a2 : addD (.str (cutS B none (some (p : Int)) ++ ⟨#[c2]⟩)) (.str (cutS B (some ((p : Int) + 1)) (some (1 + (z : Int))))) = .ok (.str (cutS B none (some (p : Int)) ++ ⟨#[c2]⟩ ++ cutS B (some ((p : Int) + 1)) (some (1 + (z : Int))))) := add_str (le_line (by rw [str_app_len, str_sing]; omega))
          simp_arith [Int.reduceLT, s1, s2, show strGet abc36 ((dr ns k (15 + (0 + (i : Int))) + (0 + (i : Int))) % 26) = .ok (.str ⟨#[c2]⟩) from hc2, a1, a2]
          refine fin _ _ _ ?_
          have t2 : ∀ c ∈ (cutS B (some ((p : Int) + 1)) (some (1 + (z : Int)))).cps.toList, c ∈ lowL ∨ c ∈ digL := fun c h => hBn _ p c h
          have t2l : (cutS B (some ((p : Int) + 1)) (some (1 + (z : Int)))).cps.toList.length ≤ z - p := by
            rw [cut_toList, List.length_take, show (1 : Int) + (z : Int) = ((1 + z : Nat) : Int) by omega, show (p : Int) + 1 = ((p + 1 : Nat) : Int) by omega, HT.sIx_nat, HT.sIx_nat, hBl]
            omega
          have t1 : (cutS B none (some (p : Int))).cps.toList = B.cps.toList.take p := by
            rw [cut_toList, HT.sIx_nat, HT.sIx_none, hBl, List.drop_zero, Nat.sub_zero, Nat.min_eq_left (by omega)]
          cases p with
          | zero =>
            refine name_of (c := c2) (r := (cutS B (some (((0 : Nat) : Int) + 1)) (some (1 + (z : Int)))).cps.toList) ?_ hcl2 t2 (by omega)
            rw [str_app, str_app, t1]
            rfl
          | succ p =>
            refine name_of (c := 109) (r := b.cps.toList.take p ++ c2 :: (cutS B (some (((p + 1 : Nat) : Int) + 1)) (some (1 + (z : Int)))).cps.toList) ?_ (by decide +kernel) ?_ ?_
            · rw [str_app, str_app, t1, hBt, List.take_succ_cons]
              simp
            · intro c hc
              rcases List.mem_append.mp hc with h | h
              · exact hBp c (List.mem_of_mem_take h)
              · rcases List.mem_cons.mp h with rfl | h
                · exact .inl hcl2
                · exact t2 c h
            · rw [List.length_append, List.length_cons, List.length_take]
              omega
        · simp only [nxS_eq, Sat_nx, thn_nx]
          exact fin s _ _ hs
      refine Sat.rseq (Sat.ifP (fun _ => ?_) (fun _ => ?_))
      · have h8 : Str.length "abcdefgh" = 8 := by decide +kernel
        obtain ⟨c3, h3, h4⟩ := @strGet_of "abcdefgh" i (by decide +kernel) (by rw [h8]; omega)
        simp only [setS_eq, op2_eq, cE_eq, getP_eq, gz_, gs_, rGet_ok, r2_ok, get_str, Int.zero_add, h4, rSet_ok, Sat_nx, thn_nx, sz_, ss_]
        have := rest ⟨#[c3]⟩ (name_of (c := c3) (r := []) rfl (by
          have : ∀ c ∈ ("abcdefgh" : Str).cps.toList, c ∈ lowL := by decide +kernel
          exact this c3 (List.mem_of_getElem? h3)) (by simp) (by simp))
        rw [Int.zero_add] at this
        exact this
      · simp only [nxS_eq, Sat_nx, thn_nx]
        exact rest nm hn0
    · rintro env ⟨l, x, y, w, rfl, hl, hall⟩
      rw [rangeD_len] at hl
      simp_arith []
      exact ⟨l, rfl, hl, hall⟩
  obtain ⟨d, h1, l, rfl, h2, h3⟩ := key
  exact ⟨l, h1, h2, h3⟩

end
section
theorem okS_of {s : Str} (h : ∀ c ∈ s.cps.toList, c < 0x110000) : okS s = true := by
  unfold okS
  rw [Array.all_eq_true]
  intro i hi
  exact decide_eq_true (h _ (by rw [Array.mem_toList_iff]; exact Array.getElem_mem hi))
theorem low_lt : ∀ c ∈ lowL, c < 0x110000 := by decide +kernel
theorem dig_lt : ∀ c ∈ digL, c < 0x110000 := by decide +kernel
theorem name_parts {s : Str} (h : nameB s = true) : ∃ c r, s.cps.toList = c :: r ∧ c ∈ lowL ∧ (∀ c ∈ s.cps.toList, c ∈ lowL ∨ c ∈ digL) ∧ s.length ≤ 12 := by
  unfold nameB namL at h
  simp only [Bool.and_eq_true, decide_eq_true_eq, List.all_eq_true, Bool.or_eq_true] at h
  obtain ⟨⟨⟨_, h2⟩, h3⟩, h4⟩ := h
  cases q : s.cps.toList with
  | nil => rw [q] at h3; cases h3
  | cons c r =>
    rw [q] at h3 h4
    exact ⟨c, r, rfl, of_decide_eq_true h3, h4, h2⟩
theorem name_ok {s : Str} (h : nameB s = true) : okS s = true := by
  obtain ⟨c, r, _, _, h4, _⟩ := name_parts h
  exact okS_of fun c hc => (h4 c hc).elim (low_lt c) (dig_lt c)
theorem plus_tl : ("+" : Str).cps.toList = [43] := by decide +kernel
theorem minus_tl : ("-" : Str).cps.toList = [45] := by decide +kernel
end
section
theorem cutD_from (xs : List D) (k : Nat) : cutD xs (some (k : Int)) none = xs.drop k := by
  unfold cutD
  rw [HT.sIx_nat, HT.sIx_none]
  by_cases h : k ≤ xs.length
  · rw [Nat.min_eq_left h]
    exact List.take_of_length_le (by rw [List.length_drop]; omega)
  · rw [Nat.min_eq_right (by omega), Nat.sub_self, List.take_zero, List.drop_of_length_le (by omega)]
theorem cutD_to (xs : List D) (k : Nat) : cutD xs none (some (k : Int)) = xs.take k := by
  unfold cutD
  rw [HT.sIx_nat, HT.sIx_none, Nat.sub_zero, List.drop_zero]
  by_cases h : k ≤ xs.length
  · rw [Nat.min_eq_left h]
  · rw [Nat.min_eq_right (by omega), List.take_of_length_le (Nat.le_refl _), List.take_of_length_le (by omega)]
theorem cutS_from (z : Str) (k : Nat) : (cutS z (some (k : Int)) none).cps.toList = z.cps.toList.drop k := by
  rw [cut_toList, HT.sIx_nat, HT.sIx_none]
  by_cases h : k ≤ z.length
  · rw [Nat.min_eq_left h]
    exact List.take_of_length_le (by rw [List.length_drop]; exact Nat.le_refl _)
  · rw [Nat.min_eq_right (by omega), Nat.sub_self, List.take_zero, List.drop_of_length_le (by rw [← str_len]; omega)]
theorem cutS_to (z : Str) (k : Nat) : (cutS z none (some (k : Int))).cps.toList = z.cps.toList.take k := by
  rw [cut_toList, HT.sIx_nat, HT.sIx_none, Nat.sub_zero, List.drop_zero]
  by_cases h : k ≤ z.length
  · rw [Nat.min_eq_left h]
  · rw [Nat.min_eq_right (by omega), str_len, List.take_of_length_le (Nat.le_refl _), List.take_of_length_le (by rw [← str_len]; omega)]
def txts (l : List Str) : List D := l.map .str
theorem txts_len (l : List Str) : (txts l).length = l.length := List.length_map ..
theorem txts_get {l : List Str} {i : Nat} {s : Str} (h : l[i]? = some s) : seqGet (txts l) (i : Int) = .ok (.str s) := seqGet_of (by unfold txts; rw [List.getElem?_map, h]; rfl)
theorem toPys_txts : ∀ l : List Str, toPys (txts l) = l.map PyData.str
  | [] => rfl
  | s :: l => by
    show toPys (D.str s :: txts l) = _
    rw [toPys, toPys_txts l]
    simp only [toPy, List.map_cons]
theorem eqv_txts : ∀ l m : List Str, PyData.eqvAll (l.map PyData.str) (m.map PyData.str) = decide (l = m)
  | [], [] => rfl
  | [], _ :: _ => by simp [PyData.eqvAll]
  | _ :: _, [] => by simp [PyData.eqvAll]
  | s :: l, t :: m => by
    rw [List.map_cons, List.map_cons, PyData.eqvAll, eqv_txts l m, PyData.eqv]
    by_cases h : s = t
    · subst h; simp
    · simp [h]
theorem canLay_txts : ∀ l : List Str, (∀ s ∈ l, okS s = true) → PyData.canLayAll0 (l.map PyData.str) = true
  | [], _ => by simp [PyData.canLayAll0]
  | s :: l, h => by
    rw [List.map_cons, PyData.canLayAll0, canLay_txts l fun s hs => h s (List.mem_cons_of_mem _ hs), PyData.canLay0, Bool.and_true]
    exact h s (List.mem_cons_self ..)
theorem depth_txts : ∀ l : List Str, PyData.depthAll (l.map PyData.str) ≤ 1
  | [] => by simp [PyData.depthAll]
  | s :: l => by
    have := depth_txts l
    simp [PyData.depthAll, PyData.depth] at this ⊢
    try omega
theorem plains_txts : ∀ l : List Str, plains (txts l) = true
  | [] => by simp [txts, plains]
  | s :: l => by
    show plains (D.str s :: txts l) = true
    rw [plains, plains_txts l]
    simp [plain]
theorem cmp_txts {l : List Str} (h : ∀ s ∈ l, okS s = true) : cmpOk (.tup (txts l)) = true := by
  unfold cmpOk
  have hp : plain (.tup (txts l)) = true := by rw [plain]; exact plains_txts l
  rw [hp, Bool.true_and]
  have := depth_txts l
  refine shaped_flat ?_ ?_
  · rw [toPy, toPys_txts, PyData.canLay0]
    exact canLay_txts l h
  · rw [toPy, toPys_txts, PyData.depth]
    omega
theorem eqD_txts (l m : List Str) : eqD (.tup (txts l)) (.tup (txts m)) = decide (l = m) := by
  unfold eqD
  rw [toPy, toPy, toPys_txts, toPys_txts, PyData.eqv, eqv_txts]
theorem eqO_txts {l m : List Str} (h1 : ∀ s ∈ l, okS s = true) (h2 : ∀ s ∈ m, okS s = true) : eqO (.tup (txts l)) (.tup (txts m)) = .ok (.bl (decide (l = m))) := by
  unfold eqO
  rw [if_pos ⟨cmp_txts h1, cmp_txts h2⟩, eqD_txts]
def stepB (s : Str) : Bool := match s.cps.toList with
  | c :: r => (decide (c = 43) || decide (c = 45)) && namL r
  | [] => false
structure RunL (l : List Str) : Prop where
  ex : ∃ s r, l = s :: r ∧ nameB s = true ∧ ∀ t ∈ r, stepB t = true
theorem step_parts {s : Str} (h : stepB s = true) : ∃ c r, s.cps.toList = c :: r ∧ (c = 43 ∨ c = 45) ∧ namL r = true ∧ s.length ≤ 13 ∧ ∀ z ∈ s.cps.toList, z < 0x110000 := by
  unfold stepB at h
  cases q : s.cps.toList with
  | nil => rw [q] at h; cases h
  | cons c r =>
    rw [q] at h
    simp only [Bool.and_eq_true, Bool.or_eq_true, decide_eq_true_eq] at h
    have hn : nameB ⟨r.toArray⟩ = true := h.2
    obtain ⟨c', r', h1, h2, h3, h4⟩ := name_parts hn
    have h4' : r.length ≤ 12 := h4
    refine ⟨c, r, rfl, h.1, h.2, by rw [str_len, q, List.length_cons]; omega, fun z hz => ?_⟩
    rcases List.mem_cons.mp hz with rfl | hz
    · rcases h.1 with rfl | rfl <;> decide
    · exact (h3 z hz).elim (low_lt z) (dig_lt z)
theorem step_ok {s : Str} (h : stepB s = true) : okS s = true := by
  obtain ⟨_, _, _, _, _, _, h⟩ := step_parts h
  exact okS_of h
theorem RunL.ok {l : List Str} (h : RunL l) : ∀ s ∈ l, okS s = true := by
  obtain ⟨s, r, rfl, h1, h2⟩ := h.ex
  intro t ht
  rcases List.mem_cons.mp ht with rfl | ht
  · exact name_ok h1
  · exact step_ok (h2 t ht)
theorem step_of {g n : Str} {x : Nat} (hg : g.cps.toList = [x]) (hx : x = 43 ∨ x = 45) (hn : nameB n = true) : stepB (g ++ n) = true := by
  unfold stepB
  rw [str_app, hg]
  show ((decide (x = 43) || decide (x = 45)) && namL n.cps.toList) = true
  rw [show namL n.cps.toList = true from hn]
  rcases hx with rfl | rfl <;> rfl
theorem RunL.tl {s : Str} {r : List Str} (h : RunL (s :: r)) : ∀ t ∈ r, stepB t = true := by
  obtain ⟨_, _, e, _, h2⟩ := h.ex
  cases e
  exact h2
theorem txts_app (l m : List Str) : txts (l ++ m) = txts l ++ txts m := List.map_append

end
section
theorem is_name_ok (s : Str) (hl : s.length ≤ sizeLine) : m_is_name [.str s] = .ok (.bl (nameB s)) := by
  refine m_ok ?_
  unfold b_is_name
  by_cases h1 : 1 ≤ s.length
  · obtain ⟨c, r, hc, hg⟩ := name_head h1 hl
    by_cases h2 : s.length ≤ 12
    · simp_arith [len_str hl, hg, notIn_c]
      have e1 : decide ((1 : Int) ≤ (s.length : Int)) = true := decide_eq_true (by omega)
      have e2 : decide ((s.length : Int) ≤ 12) = true := decide_eq_true (by omega)
      simp only [e1, e2, Bool.and_true, Bool.not_true, Bool.false_or]
      refine Sat.rseq (Sat.ifb (fun hb => ?_) (fun hb => ?_))
      · simp_arith []
        have : c ∉ lowL := fun hm => by
          rw [show decide (c ∈ ("abcdefghijklmnopqrstuvwxyz" : Str).cps.toList) = true from decide_eq_true hm] at hb
          exact absurd hb (by decide)
        unfold nameB namL
        rw [hc]
        simp [this]
      · simp_arith []
        have hm : c ∈ lowL := Decidable.byContradiction fun hm => by
          rw [show decide (c ∈ ("abcdefghijklmnopqrstuvwxyz" : Str).cps.toList) = false from decide_eq_false hm] at hb
          exact absurd hb (by decide)
        refine Sat.rseq (name_loop (s := s) (p := fun c => decide (c ∈ lowL) || decide (c ∈ digL)) (by simp_arith []) (fun env => ∃ x, env = [.sh (.str s), x]) ⟨_, rfl⟩ ?_ ?_ ?_)
        · rintro c' env ⟨x, rfl⟩
          refine ⟨[.sh (.str s), .sh (.str ⟨#[c']⟩)], ⟨_, rfl⟩, ?_⟩
          show rIf (rAnd (.ok (!decide (c' ∈ lowL))) (.ok (!decide (c' ∈ digL)))) (retS (cE (.bl false))) nxS _ = _
          cases decide (c' ∈ lowL) <;> cases decide (c' ∈ digL) <;> rfl
        · intro hall
          show D.bl false = _
          unfold nameB namL
          rw [hall, Bool.and_false]
        · rintro hall env ⟨x, rfl⟩
          simp_arith []
          unfold nameB namL
          rw [hall, hc]
          have e3 : decide (1 ≤ (c :: r).length) = true := by rw [← hc]; exact decide_eq_true h1
          have e4 : decide ((c :: r).length ≤ 12) = true := by rw [← hc]; exact decide_eq_true h2
          rw [e3, e4]
          simp [hm]
    · simp_arith [len_str hl, hg, notIn_c]
      have e2 : decide ((s.length : Int) ≤ 12) = false := decide_eq_false (by omega)
      simp only [e2, Bool.and_false, seq_eq, rSeq_nx, rSeq_rt, rSeq_bk, rSeq_ct, rSeq_xc, setS_eq, rSet_ok, ownS_eq, rOwn_ok, retS_eq, rRet_ok, retNS_eq, nxS_eq, bkS_eq, ctS_eq, dropS_eq, rDrop_ok, ifS_eq, rIf_t, rIf_f, asgS_eq, appS_eq, rApp_ok, giveS_eq, VL.give, gnG_eq, getP_eq, getB_eq, rGet_ok, rGetB_ok, rGetB_ow, cE_eq, op2_eq, r2_ok, aE_eq, aI_eq, iE_eq, tE_eq, someO_eq, notE_eq, isTE_eq, r1_ok, toB_ok, toI_ok, notD_ok, noO_eq, nilA_eq, consA_eq, rC_ok, andT_eq, orT_eq, notT_eq, rAnd_t, rAnd_f, rAnd_ok, rOr_t, rOr_f, rOr_ok, rNot_ok, andE_eq, orE_eq, rAndE_t, rAndE_f, rAndE_ok, rOrE_t, rOrE_f, rOrE_ok, ifE_eq, rIfE_ok, slE_eq, rSl_ok, chE_eq, rCh_le, rCh_lelt, rCh_ltlt, rCh_ltle, strE_eq, rStr_ok, immE_eq, rImm_ok, Sat_nx, Sat_rt, Sat_ct, Sat_bk, Sat_xc, thn_nx, thn_rt, thn_ct, thn_bk, thn_xc, lp_nx, lp_ct, lp_bk, lp_rt, lp_xc, add_int, sub_int, mod_int, fdiv_int, lt_int, le_int, gt_int, ge_int, isN_eq, notN_eq, isNon, len_lst, len_tup, len_scr, int_int, get_str, get_tup, get_lst, get_scr, items_str, items_lst, items_tup, lst_nil, sl_tup, sl_lst, isT_bl, eqO_int, eqO_bl, eqO_scr, neO_int, env0, List.map_cons, List.map_nil, List.cons_append, List.nil_append, List.length_cons, List.length_nil, List.replicate, gz_, gs_, sz_, ss_, if_true, if_false, reduceIte, Bool.not_true, Bool.not_false, Bool.false_eq_true, Nat.reduceAdd, Nat.reduceSub, Bool.false_or, Bool.or_false, Bool.true_or, Bool.or_true, Bool.and_true, Bool.true_and, Bool.and_false, Bool.false_and, wipeE, yesT, negE_eq, neg_int, retFS, outO, ofE_ok, str_str, ltX_int, ltX_str, inX_str, notInX_str, list_lst, list_tup, Sat_ro, thn_ro, lp_ro, raiseS_eq, rRaise_ok, raise0S_eq, isXE_eq, fldXE_eq, int_bl, rSet_xc, rDrop_xc, rRet_xc, r1_xc, rC_xc, r2_xc, rIf_xc, outI_nx, outI_rt, outI_nx0, outI_rt0, inE_s, inE_0, lst_k, tup_k, catl_k, Nat.reduceLeDiff, inWE_eq, inW_str, ixWE_eq, guardX_ok, getE_eq, putS_eq, rPut_ok]
      show D.bl false = _
      unfold nameB namL
      have : decide (s.cps.toList.length ≤ 12) = false := decide_eq_false h2
      rw [this]
      simp
  · simp_arith [len_str hl]
    have e1 : decide ((1 : Int) ≤ (s.length : Int)) = false := decide_eq_false (by omega)
    simp only [e1, Bool.false_and, seq_eq, rSeq_nx, rSeq_rt, rSeq_bk, rSeq_ct, rSeq_xc, setS_eq, rSet_ok, ownS_eq, rOwn_ok, retS_eq, rRet_ok, retNS_eq, nxS_eq, bkS_eq, ctS_eq, dropS_eq, rDrop_ok, ifS_eq, rIf_t, rIf_f, asgS_eq, appS_eq, rApp_ok, giveS_eq, VL.give, gnG_eq, getP_eq, getB_eq, rGet_ok, rGetB_ok, rGetB_ow, cE_eq, op2_eq, r2_ok, aE_eq, aI_eq, iE_eq, tE_eq, someO_eq, notE_eq, isTE_eq, r1_ok, toB_ok, toI_ok, notD_ok, noO_eq, nilA_eq, consA_eq, rC_ok, andT_eq, orT_eq, notT_eq, rAnd_t, rAnd_f, rAnd_ok, rOr_t, rOr_f, rOr_ok, rNot_ok, andE_eq, orE_eq, rAndE_t, rAndE_f, rAndE_ok, rOrE_t, rOrE_f, rOrE_ok, ifE_eq, rIfE_ok, slE_eq, rSl_ok, chE_eq, rCh_le, rCh_lelt, rCh_ltlt, rCh_ltle, strE_eq, rStr_ok, immE_eq, rImm_ok, Sat_nx, Sat_rt, Sat_ct, Sat_bk, Sat_xc, thn_nx, thn_rt, thn_ct, thn_bk, thn_xc, lp_nx, lp_ct, lp_bk, lp_rt, lp_xc, add_int, sub_int, mod_int, fdiv_int, lt_int, le_int, gt_int, ge_int, isN_eq, notN_eq, isNon, len_lst, len_tup, len_scr, int_int, get_str, get_tup, get_lst, get_scr, items_str, items_lst, items_tup, lst_nil, sl_tup, sl_lst, isT_bl, eqO_int, eqO_bl, eqO_scr, neO_int, env0, List.map_cons, List.map_nil, List.cons_append, List.nil_append, List.length_cons, List.length_nil, List.replicate, gz_, gs_, sz_, ss_, if_true, if_false, reduceIte, Bool.not_true, Bool.not_false, Bool.false_eq_true, Nat.reduceAdd, Nat.reduceSub, Bool.false_or, Bool.or_false, Bool.true_or, Bool.or_true, Bool.and_true, Bool.true_and, Bool.and_false, Bool.false_and, wipeE, yesT, negE_eq, neg_int, retFS, outO, ofE_ok, str_str, ltX_int, ltX_str, inX_str, notInX_str, list_lst, list_tup, Sat_ro, thn_ro, lp_ro, raiseS_eq, rRaise_ok, raise0S_eq, isXE_eq, fldXE_eq, int_bl, rSet_xc, rDrop_xc, rRet_xc, r1_xc, rC_xc, r2_xc, rIf_xc, outI_nx, outI_rt, outI_nx0, outI_rt0, inE_s, inE_0, lst_k, tup_k, catl_k, Nat.reduceLeDiff, inWE_eq, inW_str, ixWE_eq, guardX_ok, getE_eq, putS_eq, rPut_ok]
    show D.bl false = _
    unfold nameB namL
    have : decide (1 ≤ s.cps.toList.length) = false := decide_eq_false h1
    rw [this]
    simp

end
section
theorem many_ex (ns : List Int) (j : Nat) (hj : j < 1000) : ∃ n : Nat, m__law_many [.scr ns, .int (j : Int)] = .ok (.int (n : Int)) ∧ 1 ≤ n ∧ n ≤ 6 := by
  have key : ∃ d, m__law_many [.scr ns, .int (j : Int)] = .ok d ∧ ∃ n : Nat, d = .int (n : Int) ∧ 1 ≤ n ∧ n ≤ 6 := by
    refine m_ex ?_
    unfold b__law_many
    have d0 : m__law_draw [.scr ns, .int 0, .int (j : Int)] = .ok (.int (dr ns 0 j)) := draw_nn ns 0 j (by decide) (by omega)
    obtain ⟨d, h1, h2⟩ := pick_seq [D.int 1, .int 2, .int 3, .int 1, .int 2, .int 3, .int 5, .int 6] 8 (by decide) (by decide) (dr ns 0 j)
    have l8 : lstD [D.int 1, .int 2, .int 3, .int 1, .int 2, .int 3, .int 5, .int 6] = .ok (.lst [D.int 1, .int 2, .int 3, .int 1, .int 2, .int 3, .int 5, .int 6]) := lst_ok (le_line (show 8 ≤ 1000000 by decide))
    simp_arith [Int.reduceLT, d0, l8, h1]
    simp only [List.mem_cons, List.not_mem_nil, or_false] at h2
    rcases h2 with rfl | rfl | rfl | rfl | rfl | rfl | rfl | rfl
    · exact ⟨1, rfl, by decide, by decide⟩
    · exact ⟨2, rfl, by decide, by decide⟩
    · exact ⟨3, rfl, by decide, by decide⟩
    · exact ⟨1, rfl, by decide, by decide⟩
    · exact ⟨2, rfl, by decide, by decide⟩
    · exact ⟨3, rfl, by decide, by decide⟩
    · exact ⟨5, rfl, by decide, by decide⟩
    · exact ⟨6, rfl, by decide, by decide⟩
  obtain ⟨d, h, n, rfl, h'⟩ := key
  exact ⟨n, h, h'⟩

end
section
theorem take_one {l : List Nat} : l.take 1 = match l with | c :: _ => [c] | [] => [] := by cases l <;> simp
theorem in_tup' {d : D} {es : List D} (h1 : flatD d = true) (h2 : es.all flatD = true) : inD d (.tup es) = .ok (.bl (es.any fun z => eqD z d)) := by
  cases d <;> first | (cases h1; done) | exact if_pos ⟨h1, h2⟩
theorem sign_eq {s : Str} : ((D.str "+" :: [D.str "-"]).any fun z => eqD z (.str (cutS s none (some 1)))) = match s.cps.toList with | c :: _ => decide (c = 43) || decide (c = 45) | [] => false := by
  have e1 : (cutS s none (some 1)).cps.toList = s.cps.toList.take 1 := by rw [show (1 : Int) = ((1 : Nat) : Int) from rfl, cutS_to]
  rw [List.any_cons, List.any_cons, List.any_nil, eqD_str, eqD_str, Bool.or_false]
  have pl : ∀ t : Str, decide (("+" : Str) = t) = decide (t.cps.toList = [43]) := fun t => decide_eq_decide.mpr ⟨fun e => by rw [← e]; decide +kernel, fun e => str_ext (by rw [e]; decide +kernel)⟩
  have mi : ∀ t : Str, decide (("-" : Str) = t) = decide (t.cps.toList = [45]) := fun t => decide_eq_decide.mpr ⟨fun e => by rw [← e]; decide +kernel, fun e => str_ext (by rw [e]; decide +kernel)⟩
  rw [pl, mi, e1, take_one]
  cases s.cps.toList <;> simp
theorem is_step_ok (s : Str) (hl : s.length ≤ 1000000) : m_is_step [.str s] = .ok (.bl (stepB s)) := by
  refine m_ok ?_
  unfold b_is_step
  have h1 := len_cut s (some 1) none
  have n1 := is_name_ok (cutS s (some 1) none) (le_line (by omega))
  have t2 : tupD [D.str "+", .str "-"] = .ok (.tup [.str "+", .str "-"]) := tup_ok (le_line (show 2 ≤ 1000000 by decide))
  have e2 : (cutS s (some 1) none).cps.toList = s.cps.toList.drop 1 := by rw [show (1 : Int) = ((1 : Nat) : Int) from rfl, cutS_from]
  simp_arith [sl_str (le_line hl), t2, in_tup' (d := .str (cutS s none (some 1))) (es := [D.str "+", .str "-"]) rfl rfl, sign_eq, n1]
  show D.bl _ = D.bl _
  unfold stepB nameB
  rw [e2]
  cases s.cps.toList <;> simp
def runB : List Str → Bool
  | [] => false
  | s :: r => nameB s && r.all stepB
theorem runB_iff {l : List Str} : runB l = true ↔ RunL l := by
  constructor
  · intro h
    cases l with
    | nil => cases h
    | cons s r =>
      obtain ⟨h1, h2⟩ := Bool.and_eq_true_iff.mp (show (nameB s && r.all stepB) = true from h)
      exact ⟨s, r, rfl, h1, fun t ht => List.all_eq_true.mp h2 t ht⟩
  · intro h
    obtain ⟨s, r, rfl, h1, h2⟩ := h.ex
    show (nameB s && r.all stepB) = true
    rw [h1, Bool.true_and]
    exact List.all_eq_true.mpr h2
theorem check_run_gen (l : List Str) (hl : ∀ s ∈ l, s.length ≤ 1000000) : m_check_run [.tup (txts l)] = if runB l = true then .ok .non else .exc "BadRun" [(("run" : Str), D.tup (txts l))] := by
  have key : Sat { rt := fun d => runB l = true ∧ d = .non, nx := fun _ => runB l = true, xc := fun c fs _ => runB l = false ∧ c = "BadRun" ∧ fs = [(("run" : Str), D.tup (txts l))] } (b_check_run (env0 2 [.tup (txts l)])) := by
    unfold b_check_run
    cases l with
    | nil =>
      have h0 : decide (((txts []).length : Int) = 0) = true := rfl
      simp_arith [h0, List.zip_cons_cons, List.zip_nil_right, List.reverse_cons, List.reverse_nil]
      refine ⟨?_, ?_, ?_⟩ <;> first | trivial | rfl
    | cons s r =>
      have h0 : decide (((txts (s :: r)).length : Int) = 0) = false := decide_eq_false (by rw [txts_len, List.length_cons]; omega)
      have g0 : seqGet (txts (s :: r)) 0 = .ok (.str s) := @txts_get (s :: r) 0 s rfl
      have n1 := is_name_ok s (le_line (hl s (List.mem_cons_self ..)))
      simp only [seq_eq]
      refine Sat.rseq ?_
      simp only [ifS_eq, orT_eq, tE_eq, notT_eq, op2_eq, aE_eq, consA_eq, nilA_eq, cE_eq, env0, getP_eq, List.map_cons, List.map_nil, List.cons_append, List.nil_append, List.length_cons, List.length_nil, List.replicate, Nat.reduceSub, Nat.reduceAdd, gz_, gs_, rGet_ok, rC_ok, r1_ok, len_tup, r2_ok, eqO_int, toB_ok, h0, rOr_f, get_tup, g0, n1, rNot_ok]
      cases q : nameB s with
      | false =>
        simp_arith [List.zip_cons_cons, List.zip_nil_right, List.reverse_cons, List.reverse_nil]
        have e0 : runB (s :: r) = false := by show (nameB s && _) = false; rw [q]; rfl
        refine ⟨?_, ?_, ?_⟩ <;> first | trivial | exact e0 | rfl
      | true =>
        simp_arith []
        unfold VL.forS
        simp_arith []
        rw [show (1 : Int) = ((1 : Nat) : Int) from rfl, cutD_from]
        show Sat _ (forL _ _ ((txts (s :: r)).drop 1) _)
        have ed : (txts (s :: r)).drop 1 = txts r := rfl
        rw [ed]
        have go : ∀ (m : List Str) (env : Env), (∀ t ∈ m, t.length ≤ 1000000) → (∃ x, env = [.sh (.tup (txts (s :: r))), x]) → (m.all stepB = true → runB (s :: r) = true) → (m.all stepB = false → runB (s :: r) = false) →
            Sat { rt := fun d => runB (s :: r) = true ∧ d = .non, nx := fun _ => runB (s :: r) = true, xc := fun c fs _ => runB (s :: r) = false ∧ c = "BadRun" ∧ fs = [(("run" : Str), D.tup (txts (s :: r)))] } (forL (gnG 1) (ifS (notT (tE (aE m_is_step (consA (getP 1) nilA)))) (raiseS "BadRun" ["run"] (consA (getP 0) nilA)) nxS) (txts m) env) := by
          intro m
          induction m with
          | nil => exact fun env _ _ h1 _ => h1 rfl
          | cons t m ih =>
            rintro env hm ⟨x, rfl⟩ h1 h2
            show Sat _ (flowL _ _)
            have n2 := is_step_ok t (hm t (List.mem_cons_self ..))
            rw [List.all_cons] at h1 h2
            cases z : stepB t with
            | false =>
              simp_arith [n2, z, List.zip_cons_cons, List.zip_nil_right, List.reverse_cons, List.reverse_nil]
              have e0 := h2 (by rw [z]; rfl)
              refine ⟨?_, ?_, ?_⟩ <;> first | trivial | exact e0 | rfl
            | true =>
              rw [z, Bool.true_and] at h1 h2
              have := ih [.sh (.tup (txts (s :: r))), .sh (.str t)] (fun u hu => hm u (List.mem_cons_of_mem _ hu)) ⟨_, rfl⟩ h1 h2
              simp_arith [n2, z]
              exact this
        refine go r _ (fun t ht => hl t (List.mem_cons_of_mem _ ht)) ⟨_, rfl⟩ (fun h => ?_) (fun h => ?_)
        · show (nameB s && r.all stepB) = true
          rw [q, h]; rfl
        · show (nameB s && r.all stepB) = false
          rw [q, h]; rfl
  show defM 2 b_check_run _ = _
  unfold defM
  cases q : b_check_run (env0 2 [.tup (txts l)]) <;> rw [q] at key <;> first | exact key.elim | skip
  case rt d =>
    obtain ⟨k1, rfl⟩ := key
    rw [if_pos k1]; rfl
  case nx e =>
    have k : runB l = true := key
    rw [if_pos k]; rfl
  case xc c fs e =>
    obtain ⟨k1, rfl, rfl⟩ := key
    rw [if_neg (by rw [k1]; exact Bool.false_ne_true)]; rfl

end
section
def ItemOk (s : Str) : Prop := okS s = true ∧ s.length ≤ 40
theorem runL_item {l : List Str} (h : RunL l) : ∀ s ∈ l, ItemOk s ∧ 1 ≤ s.length := by
  obtain ⟨s, r, rfl, h1, h2⟩ := h.ex
  intro t ht
  rcases List.mem_cons.mp ht with rfl | ht
  · obtain ⟨c, r', e, _, _, hl⟩ := name_parts h1
    exact ⟨⟨name_ok h1, by omega⟩, by rw [str_len, e, List.length_cons]; omega⟩
  · obtain ⟨c, r', e, _, _, hl, _⟩ := step_parts (h2 t ht)
    exact ⟨⟨step_ok (h2 t ht), by omega⟩, by rw [str_len, e, List.length_cons]; omega⟩

end
section
structure Sto where
  size : Nat
  names : List (Str × Nat)
  leads : List ((Nat × Str) × Nat)
def namD (l : List (Str × Nat)) : List (D × D) := l.map fun p => (.str p.1, .int (p.2 : Int))
def leK (k : Nat × Str) : D := .tup [.int (k.1 : Int), .str k.2]
def leaD (l : List ((Nat × Str) × Nat)) : List (D × D) := l.map fun p => (leK p.1, .int (p.2 : Int))
def stoD (S : Sto) : D := .lst [.int (S.size : Int), .dic 0 (namD S.names), .dic 1 (leaD S.leads)]
def look1 {α : Type} [DecidableEq α] (l : List (α × Nat)) (k : α) : Option Nat := (l.find? fun p => decide (p.1 = k)).map (·.2)
def put1 {α : Type} [DecidableEq α] (l : List (α × Nat)) (k : α) (v : Nat) : List (α × Nat) := if (l.any fun p => decide (p.1 = k)) = true then l.map (fun p => if p.1 = k then (p.1, v) else p) else l ++ [(k, v)]
def oD : Option Nat → D
  | none => .non
  | some i => .int (i : Int)
theorem eqK_s (x s : Str) : eqK (.str x) (.str s) = decide (x = s) := by
  have e : eqK (.str x) (.str s) = decide ((.inr x : Key) = .inr s) := eqK_key (k := .str s) (key := .inr s) rfl (.inr x)
  rw [e]
  exact decide_eq_decide.mpr ⟨fun h => Sum.inr.inj h, fun h => by rw [h]⟩
theorem eqK_l (a b : Nat × Str) : eqK (leK a) (leK b) = decide (a = b) := by
  have e : eqK (leK a) (leK b) = decide (([.inl (a.1 : Int), .inr a.2] : List Key) = [.inl (b.1 : Int), .inr b.2]) := by
    have := eqKs_keys (ds := [.int (b.1 : Int), .str b.2]) (ks := [.inl (b.1 : Int), .inr b.2]) rfl [.inl (a.1 : Int), .inr a.2]
    rw [← this]
    show eqK (.tup _) (.tup _) = _
    rw [eqK]; rfl
  rw [e]
  refine decide_eq_decide.mpr ⟨fun h => ?_, fun h => by rw [h]⟩
  obtain ⟨h1, h2⟩ := List.cons.inj h
  obtain ⟨h3, _⟩ := List.cons.inj h2
  exact Prod.ext (Int.ofNat.inj (Sum.inl.inj h1)) (Sum.inr.inj h3)
section
variable {α : Type} [DecidableEq α] {f : α → D} {k : D} {key : α}
theorem look_nil : look1 ([] : List (α × Nat)) key = none := rfl
theorem look_cons {p : α × Nat} {l : List (α × Nat)} : look1 (p :: l) key = if p.1 = key then some p.2 else look1 l key := by
  unfold look1
  by_cases c : p.1 = key
  · rw [if_pos c, List.find?_cons_of_pos (by exact decide_eq_true c)]; rfl
  · rw [if_neg c, List.find?_cons_of_neg (by simp [c])]
theorem lookD_map (hk : ∀ a, eqK (f a) k = decide (a = key)) : ∀ l : List (α × Nat), lookD (l.map fun p => (f p.1, .int (p.2 : Int))) k = (look1 l key).map fun n => .int (n : Int)
  | [] => rfl
  | p :: l => by
    rw [look_cons]
    have ih := lookD_map hk l
    unfold lookD at ih ⊢
    rw [List.map_cons]
    by_cases c : p.1 = key
    · rw [if_pos c, List.find?_cons_of_pos (by show eqK (f p.1) k = true; rw [hk, decide_eq_true c])]; rfl
    · rw [if_neg c, List.find?_cons_of_neg (by show ¬ eqK (f p.1) k = true; rw [hk, decide_eq_false c]; exact Bool.false_ne_true), ih]
theorem setD_map (hk : ∀ a, eqK (f a) k = decide (a = key)) (ek : k = f key) (l : List (α × Nat)) (v : Nat) : setD (l.map fun p => (f p.1, .int (p.2 : Int))) k (.int (v : Int)) = (put1 l key v).map fun p => (f p.1, .int (p.2 : Int)) := by
  unfold setD put1
  have e1 : ((l.map fun p => ((f p.1, .int (p.2 : Int)) : D × D)).any fun p => eqK p.1 k) = l.any fun p => decide (p.1 = key) := by
    rw [List.any_map]
    congr 1
    funext p
    exact hk p.1
  rw [e1]
  by_cases c : (l.any fun p => decide (p.1 = key)) = true
  · rw [if_pos c, if_pos c, List.map_map, List.map_map]
    refine List.map_congr_left fun p _ => ?_
    show (if eqK (f p.1) k = true then ((f p.1, D.int (v : Int)) : D × D) else (f p.1, .int (p.2 : Int))) = (fun q : α × Nat => ((f q.1, .int (q.2 : Int)) : D × D)) (if p.1 = key then (p.1, v) else p)
    rw [hk]
    by_cases c2 : p.1 = key
    · rw [if_pos c2, if_pos (decide_eq_true c2)]
    · rw [if_neg c2, if_neg (by rw [decide_eq_false c2]; exact Bool.false_ne_true)]
  · rw [if_neg c, if_neg c, List.map_append, ek]; rfl
theorem any_look : ∀ l : List (α × Nat), (l.any fun p => decide (p.1 = key)) = (look1 l key).isSome
  | [] => rfl
  | p :: l => by
    rw [look_cons, List.any_cons, any_look l]
    by_cases c : p.1 = key
    · rw [if_pos c, decide_eq_true c]; rfl
    · rw [if_neg c, decide_eq_false c, Bool.false_or]
theorem look_app {l m : List (α × Nat)} : look1 (l ++ m) key = (look1 l key).or (look1 m key) := by
  induction l with
  | nil => rfl
  | cons p l ih =>
    rw [List.cons_append, look_cons, look_cons, ih]
    by_cases c : p.1 = key
    · rw [if_pos c, if_pos c]; rfl
    · rw [if_neg c, if_neg c]
theorem look_map {v : Nat} {j : α} : ∀ l : List (α × Nat), look1 (l.map fun p => if p.1 = key then (p.1, v) else p) j = if j = key then (look1 l key).map fun _ => v else look1 l j
  | [] => by by_cases c : j = key <;> simp [c, look_nil]
  | p :: l => by
    rw [List.map_cons, look_cons, look_map l, look_cons (p := p), look_cons (p := p)]
    by_cases c : p.1 = key
    · rw [if_pos c, if_pos c]
      by_cases c2 : j = key
      · rw [if_pos c2, if_pos (c.trans c2.symm), if_pos c2]; rfl
      · rw [if_neg c2, if_neg c2]
        have : ¬ p.1 = j := fun e => c2 (e.symm.trans c)
        rw [if_neg this, if_neg this]
    · rw [if_neg c, if_neg c]
      by_cases c2 : j = key
      · rw [if_pos c2, if_pos c2, if_neg (fun e => c (e.trans c2))]
      · rw [if_neg c2, if_neg c2]
theorem look_put {l : List (α × Nat)} {v : Nat} {j : α} : look1 (put1 l key v) j = if j = key then some v else look1 l j := by
  unfold put1
  rw [any_look]
  cases q : look1 l key with
  | some a =>
    rw [if_pos (by rfl), look_map, q]; rfl
  | none =>
    rw [if_neg (by exact Bool.false_ne_true), look_app]
    by_cases c : j = key
    · subst c
      rw [if_pos rfl, q, look_cons, if_pos rfl]; rfl
    · rw [if_neg c, look_cons, if_neg (fun e => c e.symm), look_nil]
      cases look1 l j <;> rfl
theorem put_len {l : List (α × Nat)} {v : Nat} : (put1 l key v).length ≤ l.length + 1 := by
  unfold put1
  by_cases c : (l.any fun p => decide (p.1 = key)) = true
  · rw [if_pos c, List.length_map]; omega
  · rw [if_neg c, List.length_append]; exact Nat.le_refl _
theorem look_mem {a : Nat} : ∀ {l : List (α × Nat)}, look1 l key = some a → (key, a) ∈ l
  | [], h => by cases h
  | p :: l, h => by
    rw [look_cons] at h
    by_cases c : p.1 = key
    · rw [if_pos c] at h
      cases h
      rw [← c]
      exact List.mem_cons_self ..
    · rw [if_neg c] at h
      exact List.mem_cons_of_mem _ (look_mem h)
theorem mem_put {l : List (α × Nat)} {v : Nat} {p : α × Nat} (h : p ∈ put1 l key v) : p ∈ l ∨ p = (key, v) := by
  unfold put1 at h
  by_cases c : (l.any fun p => decide (p.1 = key)) = true
  · rw [if_pos c] at h
    obtain ⟨q, hq, e⟩ := List.mem_map.mp h
    by_cases c2 : q.1 = key
    · rw [if_pos c2] at e
      exact .inr (by rw [← e, c2])
    · rw [if_neg c2] at e
      exact .inl (by rw [← e]; exact hq)
  · rw [if_neg c] at h
    exact (List.mem_append.mp h).imp id fun h => List.mem_singleton.mp h
theorem look_none {l : List (α × Nat)} : look1 l key = none ↔ key ∉ l.map (·.1) := by
  induction l with
  | nil => simp [look_nil]
  | cons p l ih =>
    rw [look_cons, List.map_cons, List.mem_cons]
    by_cases c : p.1 = key
    · rw [if_pos c]
      simp [c]
    · rw [if_neg c, ih]
      exact ⟨fun h q => q.elim (fun e => c e.symm) h, fun h q => h (.inr q)⟩
theorem put_nodup {l : List (α × Nat)} {v : Nat} (h : (l.map (·.1)).Nodup) : ((put1 l key v).map (·.1)).Nodup := by
  unfold put1
  by_cases c : (l.any fun p => decide (p.1 = key)) = true
  · rw [if_pos c, List.map_map]
    have : (l.map ((fun p : α × Nat => p.1) ∘ fun p => if p.1 = key then (p.1, v) else p)) = l.map (·.1) := List.map_congr_left fun p _ => by
      show (if p.1 = key then (p.1, v) else p).1 = p.1
      by_cases c2 : p.1 = key
      · rw [if_pos c2]
      · rw [if_neg c2]
    rw [this]; exact h
  · rw [if_neg c, List.map_append]
    have hn : look1 l key = none := by
      rw [any_look] at c
      cases q : look1 l key with
      | none => rfl
      | some a => rw [q] at c; exact absurd rfl c
    refine List.nodup_append.mpr ⟨h, List.pairwise_singleton .., fun a ha b hb e => ?_⟩
    rw [List.mem_singleton.mp hb] at e
    subst e
    exact look_none.mp hn ha
end
theorem lookD_n (l : List (Str × Nat)) (s : Str) : lookD (namD l) (.str s) = (look1 l s).map fun n => .int (n : Int) := lookD_map (f := D.str) (fun a => eqK_s a s) l
theorem lookD_l (l : List ((Nat × Str) × Nat)) (k : Nat × Str) : lookD (leaD l) (leK k) = (look1 l k).map fun n => .int (n : Int) := lookD_map (f := leK) (fun a => eqK_l a k) l
theorem setD_n (l : List (Str × Nat)) (s : Str) (v : Nat) : setD (namD l) (.str s) (.int (v : Int)) = namD (put1 l s v) := setD_map (f := D.str) (fun a => eqK_s a s) rfl l v
theorem setD_l (l : List ((Nat × Str) × Nat)) (k : Nat × Str) (v : Nat) : setD (leaD l) (leK k) (.int (v : Int)) = leaD (put1 l k v) := setD_map (f := leK) (fun a => eqK_l a k) rfl l v
theorem namD_len (l : List (Str × Nat)) : (namD l).length = l.length := List.length_map ..
theorem leaD_len (l : List ((Nat × Str) × Nat)) : (leaD l).length = l.length := List.length_map ..
theorem leK_of (a : Nat) (s : Str) : D.tup [.int (a : Int), .str s] = leK (a, s) := rfl
theorem fit_l (k : Nat × Str) : keyFit 1 (leK k) = true := rfl
theorem fit_n (s : Str) : keyFit 0 (.str s) = true := rfl
def plusS (p : Str) : Str := ("+" : Str) ++ p
def minusS (p : Str) : Str := ("-" : Str) ++ p
theorem plus_inj {p q : Str} (h : plusS p = plusS q) : p = q := by
  refine str_ext ?_
  have e : (plusS p).cps.toList = (plusS q).cps.toList := by rw [h]
  unfold plusS at e
  rw [str_app, str_app] at e
  exact List.append_cancel_left e
theorem minus_inj {p q : Str} (h : minusS p = minusS q) : p = q := by
  refine str_ext ?_
  have e : (minusS p).cps.toList = (minusS q).cps.toList := by rw [h]
  unfold minusS at e
  rw [str_app, str_app] at e
  exact List.append_cancel_left e
theorem plus_minus (p q : Str) : plusS p ≠ minusS q := fun h => by
  have e : (plusS p).cps.toList = (minusS q).cps.toList := by rw [h]
  unfold plusS minusS at e
  rw [str_app, str_app, plus_tl, minus_tl] at e
  injection e with e1
  exact absurd e1 (by decide)
structure LeaOk (n : Nat) (patches : List Str) (l : List ((Nat × Str) × Nat)) : Prop where
  lea : ∀ p ∈ l, p.1.1 < n ∧ p.2 < n ∧ ∃ q ∈ patches, p.1.2 = plusS q ∨ p.1.2 = minusS q
  pair : ∀ a b q, look1 l (a, plusS q) = some b ↔ look1 l (b, minusS q) = some a
  nodup : (l.map (·.1)).Nodup
structure StoOk (S : Sto) (starts patches : List Str) : Prop where
  pos : 1 ≤ S.size
  le : S.size ≤ 60
  nkey : ∀ s, (look1 S.names s).isSome = true ↔ s ∈ starts
  nval : ∀ p ∈ S.names, p.2 < S.size
  nodup : (S.names.map (·.1)).Nodup
  nlen : S.names.length ≤ 100
  llen : S.leads.length ≤ 10000
  lea : LeaOk S.size patches S.leads
theorem LeaOk.nil (n : Nat) (ps : List Str) : LeaOk n ps [] := ⟨(fun _ h => nomatch h), fun _ _ _ => ⟨(fun h => nomatch h), (fun h => nomatch h)⟩, List.nodup_nil⟩
theorem LeaOk.add {n : Nat} {ps : List Str} {l : List ((Nat × Str) × Nat)} (h : LeaOk n ps l) {a b : Nat} {p : Str} (ha : a < n) (hb : b < n) (hp : p ∈ ps) (h1 : look1 l (a, plusS p) = none) (h2 : look1 l (b, minusS p) = none) :
    LeaOk n ps (put1 (put1 l (a, plusS p) b) (b, minusS p) a) where
  lea := fun x hx => by
    rcases mem_put hx with hx | rfl
    · rcases mem_put hx with hx | rfl
      · exact h.lea x hx
      · exact ⟨ha, hb, p, hp, .inl rfl⟩
    · exact ⟨hb, ha, p, hp, .inr rfl⟩
  pair := fun c d q => by
    rw [look_put, look_put, look_put, look_put]
    have n1 : ¬ ((c, plusS q) = (b, minusS p)) := fun e => plus_minus _ _ (Prod.mk.inj e).2
    have n2 : ¬ ((d, minusS q) = (a, plusS p)) := fun e => plus_minus _ _ (Prod.mk.inj e).2.symm
    rw [if_neg n1, if_neg n2]
    by_cases c1 : (c, plusS q) = (a, plusS p)
    · obtain ⟨e1, e2⟩ := Prod.mk.inj c1
      have e2 := plus_inj e2
      subst e1; subst e2
      rw [if_pos rfl]
      by_cases c2 : (d, minusS q) = (b, minusS q)
      · rw [if_pos c2, (Prod.mk.inj c2).1]
        exact ⟨fun _ => rfl, fun _ => rfl⟩
      · rw [if_neg c2, ← h.pair, h1]
        exact ⟨fun e => absurd (by rw [Option.some.inj e]) c2, (fun e => nomatch e)⟩
    · rw [if_neg c1]
      by_cases c2 : (d, minusS q) = (b, minusS p)
      · obtain ⟨e1, e2⟩ := Prod.mk.inj c2
        have e2 := minus_inj e2
        subst e1; subst e2
        rw [if_pos rfl, h.pair, h2]
        exact ⟨(fun e => nomatch e), fun e => absurd (by rw [Option.some.inj e]) c1⟩
      · rw [if_neg c2]
        exact h.pair c d q
  nodup := put_nodup (put_nodup h.nodup)

end
section
theorem store_ex (ns : List Int) (k : Nat) (hk : k < 2 ^ 58) (starts patches : List Str) (h1 : starts.length ≤ 60) (h2 : patches.length ≤ 100) (h4 : ∀ s ∈ patches, nameB s = true) :
    ∃ S : Sto, m__law_store [.scr ns, .int (k : Int), .lst (txts starts), .lst (txts patches)] = .ok (stoD S) ∧ StoOk S starts patches ∧ S.size ≤ 6 := by
  have key : ∃ d, m__law_store [.scr ns, .int (k : Int), .lst (txts starts), .lst (txts patches)] = .ok d ∧ ∃ S : Sto, d = stoD S ∧ StoOk S starts patches ∧ S.size ≤ 6 := by
    refine m_ex ?_
    unfold b__law_store
    have d0 : m__law_draw [.scr ns, .int (k : Int), .int 0] = .ok (.int (dr ns k 0)) := draw_nn ns k 0 (by omega) (by decide)
    have d1 : m__law_draw [.scr ns, .int (k : Int), .int 1] = .ok (.int (dr ns k 1)) := draw_nn ns k 1 (by omega) (by decide)
    rw [seq_eq]
    simp only [setS_eq, op2_eq, aE_eq, consA_eq, nilA_eq, env0, getP_eq, cE_eq, List.map_cons, List.map_nil, List.cons_append, List.nil_append, List.length_cons, List.length_nil, List.replicate, Nat.reduceSub, Nat.reduceAdd, gz_, gs_, rGet_ok, rC_ok, r1_ok, r2_ok, d0, mod_int (show (0 : Int) < 6 by decide), add_int, rSet_ok, rSeq_nx, sz_, ss_]
    obtain ⟨n, hn, hn1, hn6⟩ : ∃ n : Nat, 1 + dr ns k 0 % 6 = (n : Int) ∧ 1 ≤ n ∧ n ≤ 6 := by
      have a0 := Int.emod_nonneg (dr ns k 0) (show (6 : Int) ≠ 0 by decide)
      have a1 := Int.emod_lt_of_pos (dr ns k 0) (show (0 : Int) < 6 by decide)
      exact ⟨(1 + dr ns k 0 % 6).toNat, by omega, by omega, by omega⟩
    rw [hn]
    have hnp : (0 : Int) < (n : Int) := by omega
    rw [seq_eq]
    simp only [setS_eq, op2_eq, aE_eq, consA_eq, nilA_eq, getP_eq, cE_eq, gz_, gs_, rGet_ok, rC_ok, r1_ok, r2_ok, d1, mod_int (show (0 : Int) < 4 by decide), rSet_ok, rSeq_nx, sz_, ss_]
    generalize dr ns k 1 % 4 = gaps
    rw [seq_eq]
    simp only [ownS_eq, cE_eq, rOwn_ok, rSeq_nx, sz_, ss_]
    rw [seq_eq]
    refine Sat.rseq ?_
    let I : Nat → Env → Prop := fun i env => ∃ (l : List ((Nat × Str) × Nat)) (x y z w : Sl), env = [.sh (.scr ns), .sh (.int (k : Int)), .sh (.lst (txts starts)), .sh (.lst (txts patches)), .sh (.int (n : Int)), .sh (.int gaps), .ow (.dic 1 (leaD l)), x, .no, y, z, w] ∧ l.length ≤ 2 * i ∧ LeaOk n patches l
    with_reducible refine Sat.forS I (ds := rangeD 0 (6 * patches.length)) ?_ ?_ ?_ ?_
    · simp_arith [txts_len, mul_int (i := 6) (j := (patches.length : Int)) (by
        have e1 : (6 : Int).natAbs.log2 ≤ 10 := by decide
        have e2 : ((patches.length : Int)).natAbs.log2 ≤ 100 := by
          rw [Int.natAbs_natCast]
          exact Nat.le_trans (Nat.log2_le_self _) h2
        omega)]
      rw [show (6 : Int) * (patches.length : Int) = ((6 * patches.length : Nat) : Int) by omega, range1_nat (by omega)]
    · exact ⟨[], _, _, _, _, rfl, Nat.zero_le _, LeaOk.nil _ _⟩
    · rintro i d env hd ⟨l, x, y, z, w, rfl, hl, hok⟩
      obtain ⟨hi, rfl⟩ := rangeD_get hd
      refine ⟨_, rfl, ?_⟩
      have d2 : m__law_draw [.scr ns, .int (k : Int), .int (2 + (0 + (i : Int)))] = .ok (.int (dr ns k (2 + (0 + (i : Int))))) := (draw_all ns k _ (by omega) (by omega) (by omega) (by omega)).1
      generalize dr ns k (2 + (0 + (i : Int))) = z0 at d2
      have hi6 : i / 6 < patches.length := by omega
      have gq : patches[i / 6]? = some (patches[i / 6]'hi6) := List.getElem?_eq_getElem hi6
      generalize patches[i / 6]'hi6 = p at gq
      have hp := List.mem_of_getElem? gq
      have gp : seqGet (txts patches) ((0 + (i : Int)) / 6) = .ok (.str p) := by
        rw [show (0 + (i : Int)) / 6 = ((i / 6 : Nat) : Int) by omega]
        exact txts_get gq
      obtain ⟨_, _, _, _, _, hpl⟩ := name_parts (h4 p hp)
      have e1 : addD (.str "+") (.str p) = .ok (.str (plusS p)) := add_str (le_line (by rw [show ("+" : Str).length = 1 by decide +kernel]; omega))
      have e2 : addD (.str "-") (.str p) = .ok (.str (minusS p)) := add_str (le_line (by rw [show ("-" : Str).length = 1 by decide +kernel]; omega))
      have t2 : ∀ a b : D, tupD [a, b] = .ok (.tup [a, b]) := fun a b => tup_ok (le_line (show 2 ≤ 1000000 by decide))
      obtain ⟨b, hb, hbn⟩ : ∃ b : Nat, z0 % (n : Int) = (b : Int) ∧ b < n := by
        have a0 := Int.emod_nonneg z0 (show (n : Int) ≠ 0 by omega)
        have a1 := Int.emod_lt_of_pos z0 hnp
        exact ⟨(z0 % (n : Int)).toNat, by omega, by omega⟩
      have m6 : (0 + (i : Int)) % 6 = ((i % 6 : Nat) : Int) := by omega
      have nx : ∀ q, notInX (leK q) (.dic 1 (leaD l)) = .ok (.bl (!(look1 l q).isSome)) := fun q => by
        show (if keyFit 1 (leK q) = true then Res.ok (D.bl (!(lookD (leaD l) (leK q)).isSome)) else .bad) = _
        rw [if_pos (fit_l q), lookD_l, Option.isSome_map]
      have hlt1 : (leaD l).length < sizeLine := by
        rw [leaD_len]
        exact Nat.lt_of_lt_of_le (show l.length < 1000000 by omega) (le_line (Nat.le_refl _))
      have hlt2 : ∀ q v, (leaD (put1 l q v)).length < sizeLine := fun q v => by
        rw [leaD_len]
        have := put_len (l := l) (key := q) (v := v)
        exact Nat.lt_of_lt_of_le (show (put1 l q v).length < 1000000 by omega) (le_line (Nat.le_refl _))
      simp only [seq_eq, setS_eq, op2_eq, aE_eq, consA_eq, nilA_eq, getP_eq, cE_eq, gz_, gs_, rGet_ok, rC_ok, r1_ok, r2_ok, add_int, d2, mod_int (show (0 : Int) < 6 by decide), fdiv_int (show (0 : Int) < 6 ∧ (6 : Int) < 1073741824 by decide), get_lst, gp, e1, e2, t2, mod_int hnp, hb, m6, leK_of, rSet_ok, rSeq_nx, sz_, ss_]
      simp only [ifS_eq, andT_eq, tE_eq, op2_eq, getP_eq, getB_eq, cE_eq, gz_, gs_, rGet_ok, rGetB_ow, r2_ok, mod_int (show (0 : Int) < 6 by decide), m6, lt_int, r1_ok, toB_ok, fdiv_int (show (0 : Int) < 8 ∧ (8 : Int) < 1073741824 by decide), mod_int (show (0 : Int) < 4 by decide), ge_int, nx, rAnd_ok]
      refine Sat.ifb (fun c => ?_) (fun c => ?_)
      · simp only [Bool.and_eq_true, decide_eq_true_eq, Bool.not_eq_true', Option.isSome_eq_false_iff, Option.isNone_iff_eq_none] at c
        obtain ⟨c1, c2, c3, c4⟩ := c
        have hn2 : look1 (put1 l (i % 6, plusS p) b) (b, minusS p) = none := by
          rw [look_put, if_neg (fun e => plus_minus _ _ (Prod.mk.inj e).2.symm)]
          exact c4
        simp_arith [mod_int hnp, hb, fit_l, hlt1, true_and, setD_l, hlt2, mod_int (show (0 : Int) < 6 by decide), m6]
        exact ⟨_, _, _, _, _, rfl, by
          have a1 := put_len (l := l) (key := (i % 6, plusS p)) (v := b)
          have a2 := put_len (l := put1 l (i % 6, plusS p) b) (key := (b, minusS p)) (v := i % 6)
          omega, hok.add (by omega) hbn hp c3 c4⟩
      · simp_arith []
        exact ⟨l, _, _, _, _, rfl, by omega, hok⟩
    · rintro env ⟨l, x, y, z, w, rfl, hl, hok⟩
      rw [rangeD_len] at hl
      rw [thn_nx, seq_eq]
      simp only [ownS_eq, cE_eq, rOwn_ok, rSeq_nx, sz_, ss_]
      rw [seq_eq]
      refine Sat.rseq ?_
      let J : Nat → Env → Prop := fun i env => ∃ (m : List (Str × Nat)) (x : Sl), env = [.sh (.scr ns), .sh (.int (k : Int)), .sh (.lst (txts starts)), .sh (.lst (txts patches)), .sh (.int (n : Int)), .sh (.int gaps), .ow (.dic 1 (leaD l)), x, .ow (.dic 0 (namD m)), y, z, w] ∧ m.length ≤ i ∧ (∀ s, (look1 m s).isSome = true ↔ s ∈ starts.take i) ∧ (∀ p ∈ m, p.2 < n) ∧ (m.map (·.1)).Nodup
      with_reducible refine Sat.forS J (ds := rangeD 0 starts.length) ?_ ?_ ?_ ?_
      · simp_arith [txts_len]
        rw [range1_nat (by omega)]
      · exact ⟨[], _, rfl, Nat.zero_le _, fun s => by simp [look_nil], (fun _ h => nomatch h), List.nodup_nil⟩
      · rintro i d env hd ⟨m, x, rfl, hml, hmk, hmv, hmd⟩
        obtain ⟨hi, rfl⟩ := rangeD_get hd
        refine ⟨_, rfl, ?_⟩
        have gi : starts[i]? = some (starts[i]'hi) := List.getElem?_eq_getElem hi
        have htk : starts.take (i + 1) = starts.take i ++ [starts[i]'hi] := by rw [List.take_succ, gi]; rfl
        generalize starts[i]'hi = s at gi htk
        have gs : seqGet (txts starts) (0 + (i : Int)) = .ok (.str s) := by
          rw [show (0 : Int) + (i : Int) = (i : Int) by omega]
          exact txts_get gi
        have d2 : m__law_draw [.scr ns, .int (k : Int), .int (40 + (0 + (i : Int)))] = .ok (.int (dr ns k (40 + (0 + (i : Int))))) := (draw_all ns k _ (by omega) (by omega) (by omega) (by omega)).1
        generalize dr ns k (40 + (0 + (i : Int))) = z0 at d2
        obtain ⟨b, hb, hbn⟩ : ∃ b : Nat, z0 % (n : Int) = (b : Int) ∧ b < n := by
          have a0 := Int.emod_nonneg z0 (show (n : Int) ≠ 0 by omega)
          have a1 := Int.emod_lt_of_pos z0 hnp
          exact ⟨(z0 % (n : Int)).toNat, by omega, by omega⟩
        have hlt1 : (namD m).length < sizeLine := by
          rw [namD_len]
          exact Nat.lt_of_lt_of_le (show m.length < 1000000 by omega) (le_line (Nat.le_refl _))
        simp_arith [gs, d2, mod_int hnp, hb, fit_n, hlt1, true_and, setD_n]
        refine ⟨_, _, rfl, by have := put_len (l := m) (key := s) (v := b); omega, fun t => ?_, fun p hp => ?_, put_nodup hmd⟩
        · rw [look_put, htk, List.mem_append, List.mem_singleton]
          by_cases c : t = s
          · rw [if_pos c]; simp [c]
          · rw [if_neg c, hmk]; simp [c]
        · rcases mem_put hp with hp | rfl
          · exact hmv p hp
          · exact hbn
      · rintro env ⟨m, x, rfl, hml, hmk, hmv, hmd⟩
        rw [rangeD_len] at hml hmk
        rw [List.take_of_length_le (Nat.le_refl _)] at hmk
        simp_arith []
        exact ⟨⟨n, m, l⟩, rfl, ⟨hn1, by show n ≤ 60; omega, hmk, hmv, hmd, by show m.length ≤ 100; omega, by show l.length ≤ 10000; omega, hok⟩, hn6⟩
  obtain ⟨d, h, S, rfl, h'⟩ := key
  exact ⟨S, h, h'⟩

end
section
theorem modn {z : Int} {n : Nat} (h : 1 ≤ n) : ∃ b : Nat, z % (n : Int) = (b : Int) ∧ b < n := by
  have a0 := Int.emod_nonneg z (show (n : Int) ≠ 0 by omega)
  have a1 := Int.emod_lt_of_pos z (show (0 : Int) < (n : Int) by omega)
  exact ⟨(z % (n : Int)).toNat, by omega, by omega⟩
theorem line_lt {n : Nat} (h : n < 1000000) : n < sizeLine := Nat.lt_of_lt_of_le h (le_line (Nat.le_refl _))
theorem big_store_ex (ns : List Int) (k : Nat) (hk : k < 2 ^ 58) (starts patches : List Str) (h1 : starts.length ≤ 60) (h2 : patches.length ≤ 60) (h4 : ∀ s ∈ patches, nameB s = true) :
    ∃ S : Sto, m__law_big_store [.scr ns, .int (k : Int), .lst (txts starts), .lst (txts patches)] = .ok (stoD S) ∧ StoOk S starts patches := by
  have key : ∃ d, m__law_big_store [.scr ns, .int (k : Int), .lst (txts starts), .lst (txts patches)] = .ok d ∧ ∃ S : Sto, d = stoD S ∧ StoOk S starts patches := by
    refine m_ex ?_
    unfold b__law_big_store
    have d0 : m__law_draw [.scr ns, .int (k : Int), .int 0] = .ok (.int (dr ns k 0)) := draw_nn ns k 0 (by omega) (by decide)
    have h54 : (0 : Int) < 54 := by decide
    rw [seq_eq]
    simp only [setS_eq, op2_eq, aE_eq, consA_eq, nilA_eq, env0, getP_eq, cE_eq, List.map_cons, List.map_nil, List.cons_append, List.nil_append, List.length_cons, List.length_nil, List.replicate, Nat.reduceSub, Nat.reduceAdd, gz_, gs_, rGet_ok, rC_ok, r1_ok, r2_ok, d0, mod_int h54, add_int, rSet_ok, rSeq_nx, sz_, ss_]
    obtain ⟨n, hn, hn1, hn6⟩ : ∃ n : Nat, 7 + dr ns k 0 % 54 = (n : Int) ∧ 1 ≤ n ∧ n ≤ 60 := by
      have a0 := Int.emod_nonneg (dr ns k 0) (show (54 : Int) ≠ 0 by decide)
      have a1 := Int.emod_lt_of_pos (dr ns k 0) (show (0 : Int) < 54 by decide)
      exact ⟨(7 + dr ns k 0 % 54).toNat, by omega, by omega, by omega⟩
    rw [hn]
    have hnp : (0 : Int) < (n : Int) := by omega
    rw [seq_eq]
    simp only [ownS_eq, cE_eq, rOwn_ok, rSeq_nx, sz_, ss_]
    rw [seq_eq]
    refine Sat.rseq ?_
    let I : Nat → Env → Prop := fun i env => ∃ (l : List ((Nat × Str) × Nat)) (x6 x8 x9 x10 x11 : Sl), env = [.sh (.scr ns), .sh (.int (k : Int)), .sh (.lst (txts starts)), .sh (.lst (txts patches)), .sh (.int (n : Int)), .ow (.dic 1 (leaD l)), x6, .no, x8, x9, x10, x11] ∧ l.length ≤ 120 * i ∧ LeaOk n patches l
    with_reducible refine Sat.forS I (ds := rangeD 0 patches.length) ?_ ?_ ?_ ?_
    · simp_arith [txts_len]
      rw [range1_nat (by omega)]
    · exact ⟨[], _, _, _, _, _, rfl, Nat.zero_le _, LeaOk.nil _ _⟩
    · rintro i d env hd ⟨l, x6, x8, x9, x10, x11, rfl, hl, hok⟩
      obtain ⟨hi, rfl⟩ := rangeD_get hd
      refine ⟨_, rfl, ?_⟩
      have d1 : m__law_draw [.scr ns, .int (k : Int), .int (1 + (0 + (i : Int)))] = .ok (.int (dr ns k (1 + (0 + (i : Int))))) := (draw_all ns k _ (by omega) (by omega) (by omega) (by omega)).1
      have d2 : m__law_draw [.scr ns, .int (k : Int), .int (11 + (0 + (i : Int)))] = .ok (.int (dr ns k (11 + (0 + (i : Int))))) := (draw_all ns k _ (by omega) (by omega) (by omega) (by omega)).1
      generalize dr ns k (1 + (0 + (i : Int))) = z1 at d1
      generalize dr ns k (11 + (0 + (i : Int))) = z2 at d2
      obtain ⟨sh, hsh, hshn⟩ := modn (z := z1) hn1
      obtain ⟨c, hc, hcn⟩ := modn (z := z2) hn1
      have gq : patches[i]? = some (patches[i]'hi) := List.getElem?_eq_getElem hi
      generalize patches[i]'hi = p at gq
      have hp := List.mem_of_getElem? gq
      have gp : seqGet (txts patches) (0 + (i : Int)) = .ok (.str p) := by
        rw [show (0 : Int) + (i : Int) = (i : Int) by omega]
        exact txts_get gq
      obtain ⟨_, _, _, _, _, hpl⟩ := name_parts (h4 p hp)
      have e1 : addD (.str "+") (.str p) = .ok (.str (plusS p)) := add_str (le_line (by rw [show ("+" : Str).length = 1 by decide +kernel]; omega))
      have e2 : addD (.str "-") (.str p) = .ok (.str (minusS p)) := add_str (le_line (by rw [show ("-" : Str).length = 1 by decide +kernel]; omega))
      have t2 : ∀ a b : D, tupD [a, b] = .ok (.tup [a, b]) := fun a b => tup_ok (le_line (show 2 ≤ 1000000 by decide))
      have nx : ∀ (l : List ((Nat × Str) × Nat)) q, notInX (leK q) (.dic 1 (leaD l)) = .ok (.bl (!(look1 l q).isSome)) := fun l q => by
        show (if keyFit 1 (leK q) = true then Res.ok (D.bl (!(lookD (leaD l) (leK q)).isSome)) else .bad) = _
        rw [if_pos (fit_l q), lookD_l, Option.isSome_map]
      rw [seq_eq]
      simp only [setS_eq, op2_eq, aE_eq, consA_eq, nilA_eq, getP_eq, cE_eq, gz_, gs_, rGet_ok, rC_ok, r1_ok, r2_ok, add_int, d1, mod_int hnp, hsh, rSet_ok, rSeq_nx, sz_, ss_]
      rw [seq_eq]
      simp only [setS_eq, op2_eq, aE_eq, consA_eq, nilA_eq, getP_eq, cE_eq, gz_, gs_, rGet_ok, rC_ok, r1_ok, r2_ok, add_int, d2, mod_int hnp, hc, rSet_ok, rSeq_nx, sz_, ss_]
      let J : Nat → Env → Prop := fun j env => ∃ (m : List ((Nat × Str) × Nat)) (x10 x11 : Sl), env = [.sh (.scr ns), .sh (.int (k : Int)), .sh (.lst (txts starts)), .sh (.lst (txts patches)), .sh (.int (n : Int)), .ow (.dic 1 (leaD m)), .sh (.int (0 + (i : Int))), .no, .sh (.int (sh : Int)), .sh (.int (1 + (c : Int))), x10, x11] ∧ m.length ≤ 120 * i + 2 * j ∧ LeaOk n patches m
      with_reducible refine Sat.forS J (ds := rangeD 0 (1 + c)) ?_ ?_ ?_ ?_
      · simp_arith []
        rw [show (1 : Int) + (c : Int) = ((1 + c : Nat) : Int) by omega, range1_nat (by omega)]
      · exact ⟨l, x10, x11, rfl, by omega, hok⟩
      · rintro j d env hd ⟨m, x10, x11, rfl, hm, hmo⟩
        obtain ⟨hj, rfl⟩ := rangeD_get hd
        refine ⟨_, rfl, ?_⟩
        obtain ⟨b, hb, hbn⟩ := modn (z := 0 + (j : Int) + (sh : Int)) hn1
        have hj0 : (0 : Int) + (j : Int) = ((j : Nat) : Int) := by omega
        have hlt1 : (leaD m).length < sizeLine := by rw [leaD_len]; exact line_lt (by omega)
        have hlt2 : ∀ q v, (leaD (put1 m q v)).length < sizeLine := fun q v => by
          rw [leaD_len]
          have := put_len (l := m) (key := q) (v := v)
          exact line_lt (by omega)
        rw [hj0] at hb
        rw [seq_eq]
        simp only [setS_eq, op2_eq, aE_eq, consA_eq, nilA_eq, getP_eq, cE_eq, gz_, gs_, rGet_ok, rC_ok, r1_ok, r2_ok, add_int, int_int, mod_int hnp, hj0, hb, rSet_ok, rSeq_nx, sz_, ss_]
        simp only [ifS_eq, andT_eq, tE_eq, op2_eq, aE_eq, consA_eq, nilA_eq, getP_eq, getB_eq, cE_eq, gz_, gs_, rGet_ok, rGetB_ow, rC_ok, r2_ok, get_lst, gp, e1, e2, r1_ok, t2, leK_of, nx, toB_ok, rAnd_ok]
        refine Sat.ifb (fun q => ?_) (fun q => ?_)
        · simp only [Bool.and_eq_true, Bool.not_eq_true', Option.isSome_eq_false_iff, Option.isNone_iff_eq_none] at q
          obtain ⟨c3, c4⟩ := q
          simp_arith [gp, e1, e2, t2, leK_of, fit_l, hlt1, true_and, setD_l, hlt2]
          exact ⟨_, _, _, rfl, by
            have a1 := put_len (l := m) (key := (j, plusS p)) (v := b)
            have a2 := put_len (l := put1 m (j, plusS p) b) (key := (b, minusS p)) (v := j)
            omega, hmo.add (by omega) hbn hp c3 c4⟩
        · simp_arith []
          exact ⟨m, _, _, rfl, by omega, hmo⟩
      · rintro env ⟨m, x10, x11, rfl, hm, hmo⟩
        rw [rangeD_len] at hm
        exact ⟨m, _, _, _, _, _, rfl, by omega, hmo⟩
    · rintro env ⟨l, x6, x8, x9, x10, x11, rfl, hl, hok⟩
      rw [rangeD_len] at hl
      rw [thn_nx, seq_eq]
      simp only [ownS_eq, cE_eq, rOwn_ok, rSeq_nx, sz_, ss_]
      rw [seq_eq]
      refine Sat.rseq ?_
      let J : Nat → Env → Prop := fun i env => ∃ (m : List (Str × Nat)) (x : Sl), env = [.sh (.scr ns), .sh (.int (k : Int)), .sh (.lst (txts starts)), .sh (.lst (txts patches)), .sh (.int (n : Int)), .ow (.dic 1 (leaD l)), x, .ow (.dic 0 (namD m)), x8, x9, x10, x11] ∧ m.length ≤ i ∧ (∀ s, (look1 m s).isSome = true ↔ s ∈ starts.take i) ∧ (∀ p ∈ m, p.2 < n) ∧ (m.map (·.1)).Nodup
      with_reducible refine Sat.forS J (ds := rangeD 0 starts.length) ?_ ?_ ?_ ?_
      · simp_arith [txts_len]
        rw [range1_nat (by omega)]
      · exact ⟨[], _, rfl, Nat.zero_le _, fun s => by simp [look_nil], (fun _ h => nomatch h), List.nodup_nil⟩
      · rintro i d env hd ⟨m, x, rfl, hml, hmk, hmv, hmd⟩
        obtain ⟨hi, rfl⟩ := rangeD_get hd
        refine ⟨_, rfl, ?_⟩
        have gi : starts[i]? = some (starts[i]'hi) := List.getElem?_eq_getElem hi
        have htk : starts.take (i + 1) = starts.take i ++ [starts[i]'hi] := by rw [List.take_succ, gi]; rfl
        generalize starts[i]'hi = s at gi htk
        have gs : seqGet (txts starts) (0 + (i : Int)) = .ok (.str s) := by
          rw [show (0 : Int) + (i : Int) = (i : Int) by omega]
          exact txts_get gi
        have d2 : m__law_draw [.scr ns, .int (k : Int), .int (21 + (0 + (i : Int)))] = .ok (.int (dr ns k (21 + (0 + (i : Int))))) := (draw_all ns k _ (by omega) (by omega) (by omega) (by omega)).1
        generalize dr ns k (21 + (0 + (i : Int))) = z0 at d2
        obtain ⟨b, hb, hbn⟩ := modn (z := z0) hn1
        have hlt1 : (namD m).length < sizeLine := by rw [namD_len]; exact line_lt (by omega)
        simp_arith [gs, d2, mod_int hnp, hb, fit_n, hlt1, true_and, setD_n]
        refine ⟨_, _, rfl, by have := put_len (l := m) (key := s) (v := b); omega, fun t => ?_, fun p hp => ?_, put_nodup hmd⟩
        · rw [look_put, htk, List.mem_append, List.mem_singleton]
          by_cases c : t = s
          · rw [if_pos c]; simp [c]
          · rw [if_neg c, hmk]; simp [c]
        · rcases mem_put hp with hp | rfl
          · exact hmv p hp
          · exact hbn
      · rintro env ⟨m, x, rfl, hml, hmk, hmv, hmd⟩
        rw [rangeD_len] at hml hmk
        rw [List.take_of_length_le (Nat.le_refl _)] at hmk
        simp_arith []
        exact ⟨⟨n, m, l⟩, rfl, ⟨hn1, by show n ≤ 60; omega, hmk, hmv, hmd, by show m.length ≤ 100; omega, by show l.length ≤ 10000; omega, hok⟩⟩
  obtain ⟨d, h, S, rfl, h'⟩ := key
  exact ⟨S, h, h'⟩
theorem drawn_store_ex (ns : List Int) (k : Nat) (hk : k < 2 ^ 58) (starts patches : List Str) (h1 : starts.length ≤ 60) (h2 : patches.length ≤ 60) (h4 : ∀ s ∈ patches, nameB s = true) :
    ∃ S : Sto, m__law_drawn_store [.scr ns, .int (k : Int), .lst (txts starts), .lst (txts patches)] = .ok (stoD S) ∧ StoOk S starts patches := by
  obtain ⟨S1, a1, b1⟩ := big_store_ex ns k hk starts patches h1 h2 h4
  obtain ⟨S2, a2, b2, _⟩ := store_ex ns k hk starts patches h1 (by omega) h4
  have d0 : m__law_draw [.scr ns, .int 0, .int 9] = .ok (.int (dr ns 0 9)) := draw_nn ns 0 9 (by decide) (by decide)
  have h4 : (0 : Int) < 4 := by decide
  by_cases c : dr ns 0 9 % 4 = 1
  · refine ⟨S1, m_ok ?_, b1⟩
    unfold b__law_drawn_store
    simp_arith [d0, mod_int h4, decide_eq_true c, a1]
  · refine ⟨S2, m_ok ?_, b2⟩
    unfold b__law_drawn_store
    simp_arith [d0, mod_int h4, decide_eq_false c, a2]

end
section
theorem getK_o (l : List ((Nat × Str) × Nat)) (a : Option Nat) (s : Str) : getK (.dic 1 (leaD l)) (.tup [oD a, .str s]) = .ok (oD (a.bind fun x => look1 l (x, s))) := by
  cases a with
  | none => exact getK_none rfl rfl
  | some x =>
    refine (getK_fit (fit_l (x, s))).trans ?_
    show Res.ok ((lookD (leaD l) (leK (x, s))).getD .non) = .ok (oD (look1 l (x, s)))
    rw [lookD_l]
    cases look1 l (x, s) <;> rfl
theorem inZ_o (l : List ((Nat × Str) × Nat)) (a : Option Nat) (s : Str) : inZ (.tup [oD a, .str s]) (.dic 1 (leaD l)) = .ok (.bl (a.bind fun x => look1 l (x, s)).isSome) := by
  cases a with
  | none => exact inZ_none rfl rfl
  | some x =>
    refine (inZ_fit (fit_l (x, s))).trans ?_
    show Res.ok (D.bl (lookD (leaD l) (leK (x, s))).isSome) = .ok (.bl (look1 l (x, s)).isSome)
    rw [lookD_l, Option.isSome_map]
theorem notInZ_o (l : List ((Nat × Str) × Nat)) (a : Nat) (s : Str) : notInZ (.tup [oD (some a), .str s]) (.dic 1 (leaD l)) = .ok (.bl (!(look1 l (a, s)).isSome)) := by
  refine (notInZ_fit (fit_l (a, s))).trans ?_
  show Res.ok (D.bl (!(lookD (leaD l) (leK (a, s))).isSome)) = _
  rw [lookD_l, Option.isSome_map]
theorem getS0 (S : Sto) : getD (stoD S) (.int 0) = .ok (.int (S.size : Int)) := by unfold stoD; rw [get_lst]; exact @seqGet_of _ 0 _ rfl
theorem getS1 (S : Sto) : getD (stoD S) (.int 1) = .ok (.dic 0 (namD S.names)) := by unfold stoD; rw [get_lst]; exact @seqGet_of _ 1 _ rfl
theorem getS2 (S : Sto) : getD (stoD S) (.int 2) = .ok (.dic 1 (leaD S.leads)) := by unfold stoD; rw [get_lst]; exact @seqGet_of _ 2 _ rfl
theorem getNm {S : Sto} {s : Str} {a : Nat} (h : look1 S.names s = some a) : getD (.dic 0 (namD S.names)) (.str s) = .ok (.int (a : Int)) := getD_fit (fit_n s) (by rw [lookD_n, h]; rfl)
theorem getL {S : Sto} {k : Nat × Str} {a : Nat} (h : look1 S.leads k = some a) : getD (.dic 1 (leaD S.leads)) (leK k) = .ok (.int (a : Int)) := getD_fit (fit_l k) (by rw [lookD_l, h]; rfl)
def walkF (l : List ((Nat × Str) × Nat)) : Option Nat → List Str → Option Nat
  | a, [] => a
  | a, t :: r => walkF l (a.bind fun x => look1 l (x, t)) r
theorem walk_none {l : List ((Nat × Str) × Nat)} : ∀ r : List Str, walkF l none r = none
  | [] => rfl
  | _ :: r => walk_none r
def endF (S : Sto) : List Str → Option Nat
  | s :: t => walkF S.leads (look1 S.names s) t
  | [] => none
theorem listX_n (l : List (Str × Nat)) : listX [.dic 0 (namD l)] = .ok (.lst (txts (l.map (·.1)))) := by
  show Res.ok (D.lst ((namD l).map (·.1))) = _
  unfold namD txts
  rw [List.map_map, List.map_map]
  rfl
def mapS (f : Str → Str) : D → D
  | .str s => .str (f s)
  | d => d
theorem map_txts (f : Str → Str) (l : List Str) : (txts l).map (mapS f) = txts (l.map f) := by
  unfold txts
  rw [List.map_map, List.map_map]
  rfl
def testS (f : Str → Bool) : D → Bool
  | .str s => f s
  | _ => false
theorem fil_txts (f : Str → Bool) (l : List Str) : ((txts l).filter (testS f)).map id = txts (l.filter f) := by
  rw [List.map_id]
  unfold txts
  rw [List.filter_map]
  rfl
def stepsOf (ps : List Str) : List Str := ps.map plusS ++ ps.map minusS
theorem steps_mem {ps : List Str} {t : Str} : t ∈ stepsOf ps ↔ ∃ p ∈ ps, t = plusS p ∨ t = minusS p := by
  unfold stepsOf
  rw [List.mem_append, List.mem_map, List.mem_map]
  constructor
  · rintro (⟨p, hp, rfl⟩ | ⟨p, hp, rfl⟩)
    · exact ⟨p, hp, .inl rfl⟩
    · exact ⟨p, hp, .inr rfl⟩
  · rintro ⟨p, hp, rfl | rfl⟩
    · exact .inl ⟨p, hp, rfl⟩
    · exact .inr ⟨p, hp, rfl⟩
theorem steps_B {ps : List Str} {t : Str} (h : ∀ s ∈ ps, nameB s = true) (ht : t ∈ stepsOf ps) : stepB t = true := by
  obtain ⟨p, hp, rfl | rfl⟩ := steps_mem.mp ht
  · exact step_of plus_tl (.inl rfl) (h p hp)
  · exact step_of minus_tl (.inr rfl) (h p hp)

end
section
theorem pick_txt (l : List Str) (hl : l ≠ []) (z : Int) : ∃ s, seqGet (txts l) (z % (l.length : Int)) = .ok (.str s) ∧ s ∈ l := by
  have h0 : 0 < l.length := List.length_pos_iff.mpr hl
  obtain ⟨d, h1, h2⟩ := pick_seq (txts l) l.length (by omega) (by rw [txts_len]; omega) z
  obtain ⟨s, hs, rfl⟩ := List.mem_map.mp h2
  exact ⟨s, h1, hs⟩

end
section
theorem run_exN (ns : List Int) (k j most : Nat) (hk : k < 2 ^ 58) (hj : j < 1000) (hm : most ≤ 1000) (S : Sto) (starts patches : List Str) (hS : ∀ s, (look1 S.names s).isSome = true ↔ s ∈ starts) (h1 : starts ≠ []) (h2 : patches ≠ []) (h2l : patches.length ≤ 100) (h3 : ∀ s ∈ starts, nameB s = true) (h4 : ∀ s ∈ patches, nameB s = true) :
    ∃ r : List Str, m__law_run [.scr ns, .int (k : Int), .int (j : Int), stoD S, .lst (txts patches), .int (most : Int)] = .ok (.tup (txts r)) ∧ RunL r ∧ r.length ≤ most + 1 ∧ (∃ s ∈ starts, ∃ r', r = s :: r' ∧ ∀ t ∈ r', t ∈ stepsOf patches) := by
  have key : ∃ d, m__law_run [.scr ns, .int (k : Int), .int (j : Int), stoD S, .lst (txts patches), .int (most : Int)] = .ok d ∧ ∃ r, d = .tup (txts r) ∧ RunL r ∧ r.length ≤ most + 1 ∧ (∃ s ∈ starts, ∃ r', r = s :: r' ∧ ∀ t ∈ r', t ∈ stepsOf patches) := by
    refine m_ex ?_
    unfold b__law_run
    have d0 : m__law_draw [.scr ns, .int (k : Int), .int (j : Int)] = .ok (.int (dr ns k j)) := draw_nn ns k j (by omega) (by omega)
    have d1 : m__law_draw [.scr ns, .int (k : Int), .int ((j : Int) + 1)] = .ok (.int (dr ns k ((j : Int) + 1))) := (draw_all ns k _ (by omega) (by omega) (by omega) (by omega)).1
    have hpatch := h4
    have hsl : ∀ p ∈ patches, p.length ≤ 12 := fun p hp => by obtain ⟨_, _, _, _, _, z⟩ := name_parts (h4 p hp); exact z
    generalize hSD : stoD S = SD
    have g1 : getD SD (.int 1) = .ok (.dic 0 (namD S.names)) := by rw [← hSD]; exact getS1 S
    have g2 : getD SD (.int 2) = .ok (.dic 1 (leaD S.leads)) := by rw [← hSD]; exact getS2 S
    have t1 : ∀ d : D, tupD [d] = .ok (.tup [d]) := fun d => tup_ok (le_line (show 1 ≤ 1000000 by decide))
    have t2 : ∀ a b : D, tupD [a, b] = .ok (.tup [a, b]) := fun a b => tup_ok (le_line (show 2 ≤ 1000000 by decide))
    -- the names
    have hnn : S.names.map (·.1) ≠ [] := fun e => by
      obtain ⟨s, hs⟩ := List.exists_mem_of_ne_nil _ h1
      obtain ⟨a, ha⟩ := Option.isSome_iff_exists.mp ((hS s).mpr hs)
      have := look_mem ha
      rw [List.map_eq_nil_iff.mp e] at this
      cases this
    have hnm : ∀ s ∈ S.names.map (·.1), (look1 S.names s).isSome = true := fun s hs => by
      cases q : look1 S.names s with
      | none => exact absurd hs (look_none.mp q)
      | some a => rfl
    obtain ⟨st, gst, hst⟩ := pick_txt (S.names.map (·.1)) hnn (dr ns k j)
    obtain ⟨a0, ha0⟩ := Option.isSome_iff_exists.mp (hnm st hst)
    have hst' : st ∈ starts := (hS st).mp (hnm st hst)
    have p1 : (0 : Int) < ((S.names.map (·.1)).length : Int) := by have := List.length_pos_iff.mpr hnn; omega
    generalize hnl : S.names.map (·.1) = nl at gst p1 hst hnn hnm
    have lx : listX [.dic 0 (namD S.names)] = .ok (.lst (txts nl)) := by rw [listX_n, hnl]
    rw [seq_eq]
    simp only [setS_eq, op2_eq, aE_eq, consA_eq, nilA_eq, env0, getP_eq, cE_eq, List.map_cons, List.map_nil, List.cons_append, List.nil_append, List.length_cons, List.length_nil, List.replicate, Nat.reduceSub, Nat.reduceAdd, gz_, gs_, rGet_ok, rC_ok, r1_ok, r2_ok, g1, lx, rSet_ok, rSeq_nx, sz_, ss_]
    -- the steps
    have lcs : ∀ (c : Str) (f : Str → Str), (∀ p ∈ patches, addD (.str c) (.str p) = .ok (.str (f p))) → lcE [14] (gnG 14) (iE (getP 4)) yesT (op2 addD (cE (.str c)) (getP 14)) [.sh (.scr ns), .sh (.int (k : Int)), .sh (.int (j : Int)), .sh SD, .sh (.lst (txts patches)), .sh (.int (most : Int)), .sh (.lst (txts nl)), .no, .no, .no, .no, .no, .no, .no, .no, .no] = .ok (.lst (txts (patches.map f))) := fun c f hf => by
      rw [← map_txts]
      refine lcE_map (mapS f) rfl (by rw [txts_len]; exact le_line (by omega)) fun d hd => ?_
      obtain ⟨p, hp, rfl⟩ := List.mem_map.mp hd
      refine ⟨_, rfl, ?_⟩
      simp_arith [wipeE, List.foldl_cons, List.foldl_nil, hf p hp]
      rfl
    have l1 := lcs "+" plusS fun p hp => add_str (le_line (by have := hsl p hp; rw [show ("+" : Str).length = 1 by decide +kernel]; omega))
    have l2 := lcs "-" minusS fun p hp => add_str (le_line (by have := hsl p hp; rw [show ("-" : Str).length = 1 by decide +kernel]; omega))
    have al : addD (.lst (txts (patches.map plusS))) (.lst (txts (patches.map minusS))) = .ok (.lst (txts (stepsOf patches))) := by
      unfold stepsOf
      rw [txts_app]
      exact if_pos (by rw [txts_len, txts_len, List.length_map, List.length_map]; exact le_line (by omega))
    rw [seq_eq]
    simp only [setS_eq, op2_eq, l1, l2, r2_ok, al, rSet_ok, rSeq_nx, sz_, ss_]
    have hsn : stepsOf patches ≠ [] := fun e => by
      obtain ⟨p, hp⟩ := List.exists_mem_of_ne_nil _ h2
      have : plusS p ∈ stepsOf patches := steps_mem.mpr ⟨p, hp, .inl rfl⟩
      rw [e] at this
      cases this
    have hsB : ∀ t ∈ stepsOf patches, stepB t = true := fun t ht => steps_B h4 ht
    have hstl : (stepsOf patches).length ≤ 200 := by
      unfold stepsOf
      rw [List.length_append, List.length_map, List.length_map]; omega
    generalize hsp : stepsOf patches = sp at hsn hsB hstl
    have p2 : (0 : Int) < (sp.length : Int) := by have := List.length_pos_iff.mpr hsn; omega
    have hmo : (0 : Int) < (most : Int) + 1 := by omega
    have gr0 : seqGet [D.str st] 0 = .ok (.str st) := @seqGet_of _ 0 _ rfl
    rw [seq_eq]
    simp only [setS_eq, op2_eq, aE_eq, consA_eq, nilA_eq, getP_eq, cE_eq, gz_, gs_, rGet_ok, rC_ok, r1_ok, r2_ok, d0, len_lst, txts_len, mod_int p1, get_lst, gst, t1, rSet_ok, rSeq_nx, sz_, ss_]
    rw [seq_eq]
    simp only [setS_eq, op2_eq, getP_eq, cE_eq, gz_, gs_, rGet_ok, r2_ok, g1, get_tup, gr0, getNm ha0, rSet_ok, rSeq_nx, sz_, ss_]
    have m0 := Int.emod_nonneg (dr ns k ((j : Int) + 1)) (show (most : Int) + 1 ≠ 0 by omega)
    have m1 := Int.emod_lt_of_pos (dr ns k ((j : Int) + 1)) hmo
    have hi : aI range1 (consA (op2 modD (aE m__law_draw (consA (getP 0) (consA (getP 1) (consA (op2 addD (getP 2) (cE (.int 1))) nilA)))) (op2 addD (getP 5) (cE (.int 1)))) nilA)
        [.sh (.scr ns), .sh (.int (k : Int)), .sh (.int (j : Int)), .sh SD, .sh (.lst (txts patches)), .sh (.int (most : Int)), .sh (.lst (txts nl)), .sh (.lst (txts sp)), .sh (.tup [.str st]), .sh (.int (a0 : Int)), .no, .no, .no, .no, .no, .no] = .ok (rangeD 0 (dr ns k ((j : Int) + 1) % ((most : Int) + 1)).toNat) := by
      simp_arith [d1, mod_int hmo]
      exact range1_ok (by omega)
    generalize dr ns k ((j : Int) + 1) % ((most : Int) + 1) = n at m0 m1 hi
    obtain ⟨n, rfl⟩ := Int.eq_ofNat_of_zero_le m0
    rw [Int.toNat_natCast] at hi
    let I : Nat → Env → Prop := fun i env => ∃ (r : List Str) (a : Option Nat) (x y z w u v : Sl), env = [.sh (.scr ns), .sh (.int (k : Int)), .sh (.int (j : Int)), .sh SD, .sh (.lst (txts patches)), .sh (.int (most : Int)), .sh (.lst (txts nl)), .sh (.lst (txts sp)), .sh (.tup (txts (st :: r))), .sh (oD a), x, y, z, w, u, v] ∧ r.length = i ∧ ∀ t ∈ r, t ∈ sp
    rw [seq_eq]
    refine Sat.rseq ?_
    with_reducible refine Sat.forS I (ds := rangeD 0 n) hi ?_ ?_ ?_
    · exact ⟨[], some a0, _, _, _, _, _, _, rfl, rfl, by simp⟩
    · rintro i d env hd ⟨r, a, x, y, z, w, u, v, rfl, hl, hall⟩
      obtain ⟨hi, rfl⟩ := rangeD_get hd
      refine ⟨_, rfl, ?_⟩
      have dd : m__law_draw [.scr ns, .int (k : Int), .int ((j : Int) + 2 + (0 + (i : Int)))] = .ok (.int (dr ns k ((j : Int) + 2 + (0 + (i : Int))))) := (draw_all ns k _ (by omega) (by omega) (by omega) (by omega)).1
      generalize dr ns k ((j : Int) + 2 + (0 + (i : Int))) = z0 at dd
      obtain ⟨s0, gs0, hs0⟩ := pick_txt sp hsn z0
      rw [seq_eq]
      simp only [gnG_eq, setS_eq, op2_eq, aE_eq, consA_eq, nilA_eq, getP_eq, cE_eq, gz_, gs_, rGet_ok, rC_ok, r1_ok, r2_ok, add_int, dd, rSet_ok, rSeq_nx, sz_, ss_]
      rw [seq_eq]
      simp only [setS_eq, op2_eq, aE_eq, consA_eq, nilA_eq, getP_eq, cE_eq, gz_, gs_, rGet_ok, rC_ok, r1_ok, r2_ok, len_lst, txts_len, mod_int p2, get_lst, gs0, rSet_ok, rSeq_nx, sz_, ss_]
      have lo : lcE [15] (gnG 15) (iE (getP 7)) (tE (op2 inZ (aE tupD (consA (getP 9) (consA (getP 15) nilA))) (op2 getD (getP 3) (cE (.int 2))))) (getP 15) [.sh (.scr ns), .sh (.int (k : Int)), .sh (.int (j : Int)), .sh SD, .sh (.lst (txts patches)), .sh (.int (most : Int)), .sh (.lst (txts nl)), .sh (.lst (txts sp)), .sh (.tup (txts (st :: r))), .sh (oD a), .sh (.int (0 + (i : Int))), .sh (.int z0), .sh (.str s0), w, u, v] = .ok (.lst (txts (sp.filter fun t => (a.bind fun x => look1 S.leads (x, t)).isSome))) := by
        rw [← fil_txts]
        refine lcE_fil (testS fun t => (a.bind fun x => look1 S.leads (x, t)).isSome) id rfl (by rw [txts_len]; exact le_line (by omega)) fun d hd => ?_
        obtain ⟨p, hp, rfl⟩ := List.mem_map.mp hd
        refine ⟨_, rfl, ?_, fun _ => ?_⟩
        · simp_arith [wipeE, List.foldl_cons, List.foldl_nil, t2, g2, inZ_o]
          rfl
        · simp_arith [wipeE, List.foldl_cons, List.foldl_nil]
          rfl
      rw [seq_eq]
      simp only [setS_eq, lo, rSet_ok, rSeq_nx, sz_, ss_]
      generalize hop : (sp.filter fun t => (a.bind fun x => look1 S.leads (x, t)).isSome) = op
      have hopm : ∀ t ∈ op, t ∈ sp := fun t ht => by rw [← hop] at ht; exact (List.mem_filter.mp ht).1
      obtain ⟨b, _, ne, hb⟩ := eqO_tree (n := 2) (d := .lst (txts op)) (e := .lst []) (List.all_eq_true.mpr fun d hd => by
        obtain ⟨t, ht, rfl⟩ := List.mem_map.mp hd
        exact step_ok (hsB t (hopm t ht))) rfl (by decide)
      have fin : ∀ (s1 : Str) (e1 e2 e3 : Sl), s1 ∈ sp → Sat (((Post.mk (fun _ => False) (fun _ => False) (fun _ => False) (fun d => ∃ r, d = .tup (txts r) ∧ RunL r ∧ r.length ≤ most + 1 ∧ (∃ s ∈ starts, ∃ r', r = s :: r' ∧ ∀ t ∈ r', t ∈ sp)) (fun _ _ _ => False) (fun _ => False)).thn (retS (getP 8))).lp (I (i + 1)))
          (seqS (setS 8 (op2 addD (getP 8) (aE tupD (consA (getP 12) nilA)))) (setS 9 (getE (op2 getD (getP 3) (cE (.int 2))) (aE tupD (consA (getP 9) (consA (getP 12) nilA))))) [.sh (.scr ns), .sh (.int (k : Int)), .sh (.int (j : Int)), .sh SD, .sh (.lst (txts patches)), .sh (.int (most : Int)), .sh (.lst (txts nl)), .sh (.lst (txts sp)), .sh (.tup (txts (st :: r))), .sh (oD a), .sh (.int (0 + (i : Int))), .sh (.int z0), .sh (.str s1), e1, e2, e3]) := fun s1 e1 e2 e3 hs1 => by
        have a2 : addD (.tup (txts (st :: r))) (.tup [.str s1]) = .ok (.tup (txts (st :: r) ++ [.str s1])) := if_pos (by rw [txts_len, List.length_cons]; exact le_line (by simp only [List.length_cons, List.length_nil]; omega))
        have gk := getK_o S.leads a s1
        have i1 : isD01 (.dic 1 (leaD S.leads)) = true := rfl
        simp_arith [t1, t2, a2, g2, rGet1_ok i1, gk]
        refine ⟨r ++ [s1], _, _, _, _, _, _, _, by rw [show st :: (r ++ [s1]) = (st :: r) ++ [s1] from rfl, txts_app]; rfl, by rw [List.length_append, hl]; rfl, fun t ht => ?_⟩
        rcases List.mem_append.mp ht with h | h
        · exact hall t h
        · rw [List.mem_singleton.mp h]; exact hs1
      have l0 : lstD [] = .ok (.lst []) := lst_nil
      rw [seq_eq]
      simp only [ifS_eq, andT_eq, tE_eq, op2_eq, aE_eq, nilA_eq, getP_eq, cE_eq, gz_, gs_, rGet_ok, r1_ok, r2_ok, fdiv_int (show (0 : Int) < 32 ∧ (32 : Int) < 1073741824 by decide), mod_int (show (0 : Int) < 4 by decide), gt_int, toB_ok, l0, ne, rAnd_ok]
      refine Sat.rseq (Sat.ifb (fun c => ?_) (fun c => ?_))
      · obtain ⟨_, c2⟩ := Bool.and_eq_true_iff.mp c
        have hne : op ≠ [] := fun e => by
          rw [e] at hb
          rw [hb.mpr rfl] at c2
          cases c2
        have p3 : (0 : Int) < (op.length : Int) := by have := List.length_pos_iff.mpr hne; omega
        obtain ⟨s1, gs1, hs1⟩ := pick_txt op hne (z0 / 4)
        simp only [setS_eq, op2_eq, aE_eq, consA_eq, nilA_eq, getP_eq, cE_eq, gz_, gs_, rGet_ok, rC_ok, r1_ok, r2_ok, fdiv_int (show (0 : Int) < 4 ∧ (4 : Int) < 1073741824 by decide), len_lst, txts_len, mod_int p3, get_lst, gs1, rSet_ok, Sat_nx, thn_nx, sz_, ss_]
        exact fin s1 _ _ _ (hopm s1 hs1)
      · simp only [nxS_eq, Sat_nx, thn_nx]
        exact fin s0 _ _ _ hs0
    · rintro env ⟨r, a, x, y, z, w, u, v, rfl, hl, hall⟩
      rw [rangeD_len] at hl
      simp_arith []
      exact ⟨st :: r, rfl, ⟨st, r, rfl, h3 st hst', fun t ht => hsB t (hall t ht)⟩, by rw [List.length_cons]; omega, st, hst', r, rfl, fun t ht => hall t ht⟩
  obtain ⟨d, h, r, rfl, h'⟩ := key
  exact ⟨r, h, h'⟩

theorem run_ex (ns : List Int) (k j most : Nat) (hk : k < 2 ^ 58) (hj : j < 1000) (hm : most ≤ 1000) (S : Sto) (starts patches : List Str) (hS : StoOk S starts patches) (h1 : starts ≠ []) (h2 : patches ≠ []) (h2l : patches.length ≤ 100) (h3 : ∀ s ∈ starts, nameB s = true) (h4 : ∀ s ∈ patches, nameB s = true) :
    ∃ r : List Str, m__law_run [.scr ns, .int (k : Int), .int (j : Int), stoD S, .lst (txts patches), .int (most : Int)] = .ok (.tup (txts r)) ∧ RunL r ∧ r.length ≤ most + 1 ∧ (∃ s ∈ starts, ∃ r', r = s :: r' ∧ ∀ t ∈ r', t ∈ stepsOf patches) :=
  run_exN ns k j most hk hj hm S starts patches hS.nkey h1 h2 h2l h3 h4

end
section
theorem notInZ_n (N : List (Str × Nat)) (s : Str) : notInZ (.str s) (.dic 0 (namD N)) = .ok (.bl (!(look1 N s).isSome)) := by
  show (if keyFit 0 (D.str s) = true then Res.ok (D.bl (!(lookD (namD N) (.str s)).isSome)) else if noneFit 0 (.str s) = true then Res.ok (D.bl true) else Res.bad) = _
  rw [if_pos (fit_n s), lookD_n, Option.isSome_map]
end
section
def nine : List Str :=
  "q" ::
  "x" ::
  "y" ::
  "z" ::
  "main" ::
  "m1" ::
  "zz" ::
  "u" ::
  "v" :: []
theorem nine_B : ∀ s ∈ nine, nameB s = true := by decide +kernel
theorem nine_nd : nine.Nodup := by decide +kernel
theorem nodup_le9 {α : Type} [BEq α] [LawfulBEq α] : ∀ (l m : List α), l.Nodup → (∀ x ∈ l, x ∈ m) → l.length ≤ m.length
  | [], m, _, _ => Nat.zero_le _
  | x :: l, m, h, hs => by
    obtain ⟨h1, h2⟩ := List.nodup_cons.mp h
    have hx := hs x (List.mem_cons_self ..)
    have := nodup_le9 l (m.erase x) h2 fun y hy => (List.mem_erase_of_ne (fun e => h1 (by rw [← e]; exact hy))).mpr (hs y (List.mem_cons_of_mem _ hy))
    rw [List.length_erase_of_mem hx] at this
    have := List.length_pos_of_mem hx
    rw [List.length_cons]; omega
theorem nine_out {l : List Str} (h : l.length ≤ 8) : ∃ s ∈ nine, s ∉ l := by
  refine Classical.byContradiction fun hn => ?_
  have := nodup_le9 nine l nine_nd fun x hx => Classical.byContradiction fun hm => hn ⟨x, hx, hm⟩
  have e : nine.length = 9 := rfl
  omega
theorem unnamed_gen (d : D) (P : Str → Bool) (h : ∀ s ∈ nine, notInZ (.str s) d = .ok (.bl (P s))) (hex : ∃ s ∈ nine, P s = true) : ∃ s, m__law_unnamed [d] = .ok (.str s) ∧ s ∈ nine ∧ P s = true := by
  have lc : lcE [1] (gnG 1) (iE (aE lstD (consA (cE (.str "q")) (consA (cE (.str "x")) (consA (cE (.str "y")) (consA (cE (.str "z")) (consA (cE (.str "main")) (consA (cE (.str "m1")) (consA (cE (.str "zz")) (consA (cE (.str "u")) (consA (cE (.str "v")) nilA))))))))))) (tE (op2 notInZ (getP 1) (getP 0))) (getP 1) [.sh d, .no] = .ok (.lst (((txts nine).filter (testS P)).map id)) := by
    refine lcE_fil (testS P) id (ds := txts nine) ?_ (le_line (by rw [txts_len]; decide)) fun x hx => ?_
    · have l9 : ∀ a b c d e f g h i : D, lstD [a, b, c, d, e, f, g, h, i] = .ok (.lst [a, b, c, d, e, f, g, h, i]) := fun _ _ _ _ _ _ _ _ _ => lst_ok (le_line (show 9 ≤ 1000000 by decide))
      simp_arith [l9]
      rfl
    · obtain ⟨s, hs, rfl⟩ := List.mem_map.mp hx
      refine ⟨_, rfl, ?_, fun _ => ?_⟩
      · simp_arith [wipeE, List.foldl_cons, List.foldl_nil, h s hs]
        rfl
      · simp_arith [wipeE, List.foldl_cons, List.foldl_nil]
        rfl
  rw [fil_txts] at lc
  obtain ⟨s0, h1, h2⟩ := hex
  have hm : s0 ∈ nine.filter P := List.mem_filter.mpr ⟨h1, h2⟩
  obtain ⟨s, r, e⟩ := List.exists_cons_of_ne_nil (List.ne_nil_of_mem hm)
  have hs : s ∈ nine.filter P := by rw [e]; exact List.mem_cons_self ..
  obtain ⟨q1, q2⟩ := List.mem_filter.mp hs
  refine ⟨s, ?_, q1, q2⟩
  refine m_ok ?_
  unfold b__law_unnamed
  have g0 : seqGet (txts (s :: r)) 0 = .ok (.str s) := @seqGet_of _ 0 _ rfl
  rw [e] at lc
  simp only [retS_eq, op2_eq, env0, List.map_cons, List.map_nil, List.cons_append, List.nil_append, List.length_cons, List.length_nil, List.replicate, Nat.reduceSub, Nat.reduceAdd, lc, cE_eq, r2_ok, get_lst, g0, rRet_ok, Sat_rt]
theorem names_few {N : List (Str × Nat)} {l : List Str} (hd : (N.map (·.1)).Nodup) (h : ∀ s, (look1 N s).isSome = true → s ∈ l) : N.length ≤ l.length := by
  have := nodup_le9 (N.map (·.1)) l hd fun x hx => h x (by
    cases q : look1 N x with
    | none => exact absurd hx (look_none.mp q)
    | some a => rfl)
  rw [List.length_map] at this
  exact this
theorem unnamed_n (N : List (Str × Nat)) (hl : N.length ≤ 8) : ∃ s, m__law_unnamed [.dic 0 (namD N)] = .ok (.str s) ∧ nameB s = true ∧ look1 N s = none := by
  obtain ⟨s0, h1, h2⟩ := nine_out (l := N.map (·.1)) (by rw [List.length_map]; exact hl)
  obtain ⟨s, e, q1, q2⟩ := unnamed_gen (.dic 0 (namD N)) (fun s => !(look1 N s).isSome) (fun s _ => notInZ_n N s) ⟨s0, h1, by rw [look_none.mpr h2]; rfl⟩
  refine ⟨s, e, nine_B s q1, ?_⟩
  simpa using q2
end
section
theorem Sat.runX {α σ : Type} {P : Post} {γ : D → Env → Option Env} {ψ : Env → SRes} {φ : Env → Res D} {env : Env} (xs : List α) (f : α → D) (step : σ → α → σ ⊕ Res D) (R : σ → Env → Prop) (s : σ) (hi : (φ env).bind keysD = .ok (xs.map f)) (h0 : R s env)
    (h : ∀ s a env, a ∈ xs → R s env → ∃ env1, γ (f a) env = some env1 ∧ Sat (stepP R (step s a)) (ψ env1)) (hk : endK { P with ro := fun _ => False } R (VL.runL step s xs)) : Sat P (forXS γ φ ψ env) := by
  unfold forXS
  rw [hi]
  have := Sat.runL (P := { P with ro := fun _ => False }) h h0 hk
  show Sat P (VL.quietO (forL γ ψ (xs.map f) env))
  cases q : forL γ ψ (xs.map f) env <;> rw [q] at this <;> first | exact this | exact this.elim
theorem Sat.runLI {α σ : Type} {P : Post} {γ : D → Env → Option Env} {ψ : Env → SRes} {f : α → D} {step : σ → α → σ ⊕ Res D} {R : Nat → σ → Env → Prop} : ∀ {xs : List α} {i : Nat} {s : σ} {env : Env},
    (∀ j s a env, a ∈ xs → i ≤ j → j < i + xs.length → R j s env → ∃ env1, γ (f a) env = some env1 ∧ Sat (stepP (R (j + 1)) (step s a)) (ψ env1)) → R i s env → endK P (R (i + xs.length)) (VL.runL step s xs) → Sat P (forL γ ψ (xs.map f) env)
  | [], i, s, env, _, h0, hk => hk env h0
  | a :: xs, i, s, env, h, h0, hk => by
    obtain ⟨env1, e1, h1⟩ := h i s a env (List.mem_cons_self ..) (Nat.le_refl _) (by rw [List.length_cons]; omega) h0
    show Sat P (match γ (f a) env with | none => SRes.bad | some env1 => flowL (ψ env1) (forL γ ψ (xs.map f)))
    rw [e1]
    show Sat P (flowL (ψ env1) (forL γ ψ (xs.map f)))
    have hk' : endK P (R (i + (a :: xs).length)) (match step s a with | .inl s' => VL.runL step s' xs | .inr o => .inr o) := hk
    cases q : step s a with
    | inl s' =>
      rw [q] at h1 hk'
      have el : i + (a :: xs).length = i + 1 + xs.length := by rw [List.length_cons]; omega
      rw [el] at hk'
      have go : ∀ env, R (i + 1) s' env → Sat P (forL γ ψ (xs.map f) env) := fun env hr => Sat.runLI (fun j s a env ha h1 h2 => h j s a env (List.mem_cons_of_mem _ ha) (by omega) (by omega)) hr hk'
      cases z : ψ env1 <;> rw [z] at h1 <;> first | exact h1.elim | exact go _ h1
    | inr o =>
      rw [q] at h1 hk'
      cases o with
      | ok d =>
        cases z : ψ env1 <;> rw [z] at h1 <;> first | exact h1.elim | skip
        case rt x =>
          have e : x = d := h1
          rw [e]; exact hk'
      | exc c fs =>
        cases z : ψ env1 <;> rw [z] at h1 <;> first | exact h1.elim | skip
        case xc x y e =>
          obtain ⟨q1, q2⟩ := h1
          rw [q1, q2]; exact hk' e
      | bad => cases z : ψ env1 <;> rw [z] at h1 <;> exact h1.elim
theorem Sat.runI {α σ : Type} {P : Post} {γ : D → Env → Option Env} {ψ : Env → SRes} {ι : Env → Res (List D)} {env : Env} (xs : List α) (f : α → D) (step : σ → α → σ ⊕ Res D) (R : Nat → σ → Env → Prop) (s : σ) (hi : ι env = .ok (xs.map f)) (h0 : R 0 s env)
    (h : ∀ j s a env, a ∈ xs → j < xs.length → R j s env → ∃ env1, γ (f a) env = some env1 ∧ Sat (stepP (R (j + 1)) (step s a)) (ψ env1)) (hk : endK P (R xs.length) (VL.runL step s xs)) : Sat P (VL.forS γ ι ψ env) := by
  unfold VL.forS ofA
  rw [hi]
  exact Sat.runLI (R := R) (i := 0) (fun j s a env ha _ h2 => h j s a env ha (by omega)) h0 (by rw [Nat.zero_add]; exact hk)
end
section
abbrev Mv := Nat × Str × Nat
def tailS (s : Str) : Str := cutS s (some 1) none
def isPl (s : Str) : Bool := decide (s.cps.toList.head? = some 43)
def mvL : List ((Nat × Str) × Nat) → List Mv
  | [] => []
  | p :: l => if isPl p.1.2 = true then (p.1.1, tailS p.1.2, p.2) :: mvL l else mvL l
def mvT (m : Mv) : D := .tup [.int (m.1 : Int), .str m.2.1, .int (m.2.2 : Int)]
def mvD (ms : List Mv) : List D := ms.map mvT
theorem pl_plus (q : Str) : isPl (plusS q) = true ∧ tailS (plusS q) = q := by
  have e : (plusS q).cps.toList = 43 :: q.cps.toList := by unfold plusS; rw [str_app, plus_tl]; rfl
  refine ⟨by unfold isPl; rw [e]; rfl, str_ext ?_⟩
  unfold tailS
  rw [show (1 : Int) = ((1 : Nat) : Int) from rfl, cutS_from, e]; rfl
theorem pl_minus (q : Str) : isPl (minusS q) = false := by
  have e : (minusS q).cps.toList = 45 :: q.cps.toList := by unfold minusS; rw [str_app, minus_tl]; rfl
  unfold isPl
  rw [e]; rfl
theorem mv_mem {l : List ((Nat × Str) × Nat)} {n : Nat} {ps : List Str} (h : LeaOk n ps l) {a b : Nat} {q : Str} : (a, q, b) ∈ mvL l ↔ ((a, plusS q), b) ∈ l := by
  have go : ∀ m : List ((Nat × Str) × Nat), (∀ p ∈ m, ∃ q, p.1.2 = plusS q ∨ p.1.2 = minusS q) → ((a, q, b) ∈ mvL m ↔ ((a, plusS q), b) ∈ m) := fun m => by
    induction m with
    | nil => exact fun _ => ⟨(fun h => by cases h), (fun h => by cases h)⟩
    | cons p m ih =>
      intro hm
      have ih := ih fun p hp => hm p (List.mem_cons_of_mem _ hp)
      obtain ⟨⟨x, s⟩, y⟩ := p
      obtain ⟨u, hu⟩ := hm _ (List.mem_cons_self ..)
      show (a, q, b) ∈ (if isPl s = true then (x, tailS s, y) :: mvL m else mvL m) ↔ _
      rcases hu with hu | hu
      · have hu : s = plusS u := hu
        subst hu
        rw [if_pos (pl_plus u).1, (pl_plus u).2, List.mem_cons, List.mem_cons, ih]
        constructor
        · rintro (e | e)
          · cases e; exact .inl rfl
          · exact .inr e
        · rintro (e | e)
          · obtain ⟨e1, e2⟩ := Prod.mk.inj e
            obtain ⟨e3, e4⟩ := Prod.mk.inj e1
            rw [e3, e2, plus_inj e4]; exact .inl rfl
          · exact .inr e
      · have hu : s = minusS u := hu
        subst hu
        rw [if_neg (by rw [pl_minus]; exact Bool.false_ne_true), ih, List.mem_cons]
        exact ⟨.inr, fun e => e.resolve_left fun z => plus_minus _ _ (Prod.mk.inj (Prod.mk.inj z).1).2⟩
  exact go l fun p hp => by obtain ⟨_, _, q, _, e⟩ := h.lea p hp; exact ⟨q, e⟩
theorem look_of_mem {α : Type} [DecidableEq α] {k : α} {v : Nat} : ∀ {l : List (α × Nat)}, (l.map (·.1)).Nodup → (k, v) ∈ l → look1 l k = some v
  | [], _, h => by cases h
  | p :: l, n, h => by
    rw [List.map_cons, List.nodup_cons] at n
    rw [look_cons]
    rcases List.mem_cons.mp h with e | h
    · rw [← e, if_pos rfl]
    · rw [if_neg (fun e => n.1 (by rw [e]; exact List.mem_map_of_mem (f := (·.1)) h)), look_of_mem n.2 h]
theorem mv_look {l : List ((Nat × Str) × Nat)} {n : Nat} {ps : List Str} (h : LeaOk n ps l) {a b : Nat} {q : Str} : (a, q, b) ∈ mvL l ↔ look1 l (a, plusS q) = some b := by
  rw [mv_mem h]
  exact ⟨look_of_mem h.nodup, look_mem⟩
structure MvOk (n : Nat) (ps : List Str) (ms : List Mv) : Prop where
  rng : ∀ m ∈ ms, m.1 < n ∧ m.2.2 < n ∧ m.2.1 ∈ ps
  fwd : ms.Pairwise fun x y => ¬ (x.1 = y.1 ∧ x.2.1 = y.2.1)
  bwd : ms.Pairwise fun x y => ¬ (x.2.2 = y.2.2 ∧ x.2.1 = y.2.1)
theorem mvL_ok {l : List ((Nat × Str) × Nat)} {n : Nat} {ps : List Str} (h : LeaOk n ps l) : MvOk n ps (mvL l) where
  rng := fun m hm => by
    obtain ⟨a, q, b⟩ := m
    have := (mv_mem h).mp hm
    obtain ⟨h1, h2, p, hp, e⟩ := h.lea _ this
    refine ⟨h1, h2, ?_⟩
    rcases e with e | e
    · rw [plus_inj e]; exact hp
    · exact absurd e (plus_minus _ _)
  fwd := by
    have go : ∀ m : List ((Nat × Str) × Nat), (m.map (·.1)).Nodup → (∀ p ∈ m, ∃ q, p.1.2 = plusS q ∨ p.1.2 = minusS q) → (mvL m).Pairwise (fun x y => ¬ (x.1 = y.1 ∧ x.2.1 = y.2.1)) ∧ ∀ x ∈ mvL m, (x.1, plusS x.2.1) ∈ m.map (·.1) := fun m => by
      induction m with
      | nil => exact fun _ _ => ⟨List.Pairwise.nil, fun _ h => by cases h⟩
      | cons p m ih =>
        intro hn hm
        rw [List.map_cons, List.nodup_cons] at hn
        obtain ⟨i1, i2⟩ := ih hn.2 fun p hp => hm p (List.mem_cons_of_mem _ hp)
        obtain ⟨⟨x, s⟩, y⟩ := p
        obtain ⟨u, hu⟩ := hm _ (List.mem_cons_self ..)
        show (if isPl s = true then (x, tailS s, y) :: mvL m else mvL m).Pairwise _ ∧ ∀ z ∈ (if isPl s = true then (x, tailS s, y) :: mvL m else mvL m), _
        rcases hu with hu | hu
        · have hu : s = plusS u := hu
          subst hu
          rw [if_pos (pl_plus u).1, (pl_plus u).2]
          refine ⟨List.Pairwise.cons (fun z hz e => hn.1 ?_) i1, fun z hz => ?_⟩
          · have := i2 z hz
            rw [← e.1, ← e.2] at this
            exact this
          · rcases List.mem_cons.mp hz with rfl | hz
            · exact List.mem_cons_self ..
            · exact List.mem_cons_of_mem _ (i2 z hz)
        · have hu : s = minusS u := hu
          subst hu
          rw [if_neg (by rw [pl_minus]; exact Bool.false_ne_true)]
          exact ⟨i1, fun z hz => List.mem_cons_of_mem _ (i2 z hz)⟩
    exact (go l h.nodup fun p hp => by obtain ⟨_, _, q, _, e⟩ := h.lea p hp; exact ⟨q, e⟩).1
  bwd := by
    have hf : ∀ x ∈ mvL l, ∀ y ∈ mvL l, x.2.2 = y.2.2 → x.2.1 = y.2.1 → x.1 = y.1 := fun x hx y hy e1 e2 => by
      obtain ⟨a, q, b⟩ := x
      obtain ⟨a', q', b'⟩ := y
      have e1 : b = b' := e1
      have e2 : q = q' := e2
      subst e1; subst e2
      have h1 := (h.pair a b q).mp ((mv_look h).mp hx)
      have h2 := (h.pair a' b q).mp ((mv_look h).mp hy)
      rw [h1] at h2
      exact Option.some.inj h2
    have fw : (mvL l).Pairwise fun x y => ¬ (x.1 = y.1 ∧ x.2.1 = y.2.1) := by
      have go : ∀ m : List ((Nat × Str) × Nat), (m.map (·.1)).Nodup → (∀ p ∈ m, ∃ q, p.1.2 = plusS q ∨ p.1.2 = minusS q) → (mvL m).Pairwise (fun x y => ¬ (x.1 = y.1 ∧ x.2.1 = y.2.1)) ∧ ∀ x ∈ mvL m, (x.1, plusS x.2.1) ∈ m.map (·.1) := fun m => by
        induction m with
        | nil => exact fun _ _ => ⟨List.Pairwise.nil, fun _ h => by cases h⟩
        | cons p m ih =>
          intro hn hm
          rw [List.map_cons, List.nodup_cons] at hn
          obtain ⟨i1, i2⟩ := ih hn.2 fun p hp => hm p (List.mem_cons_of_mem _ hp)
          obtain ⟨⟨x, s⟩, y⟩ := p
          obtain ⟨u, hu⟩ := hm _ (List.mem_cons_self ..)
          show (if isPl s = true then (x, tailS s, y) :: mvL m else mvL m).Pairwise _ ∧ ∀ z ∈ (if isPl s = true then (x, tailS s, y) :: mvL m else mvL m), _
          rcases hu with hu | hu
          · have hu : s = plusS u := hu
            subst hu
            rw [if_pos (pl_plus u).1, (pl_plus u).2]
            refine ⟨List.Pairwise.cons (fun z hz e => hn.1 ?_) i1, fun z hz => ?_⟩
            · have := i2 z hz
              rw [← e.1, ← e.2] at this
              exact this
            · rcases List.mem_cons.mp hz with rfl | hz
              · exact List.mem_cons_self ..
              · exact List.mem_cons_of_mem _ (i2 z hz)
          · have hu : s = minusS u := hu
            subst hu
            rw [if_neg (by rw [pl_minus]; exact Bool.false_ne_true)]
            exact ⟨i1, fun z hz => List.mem_cons_of_mem _ (i2 z hz)⟩
      exact (go l h.nodup fun p hp => by obtain ⟨_, _, q, _, e⟩ := h.lea p hp; exact ⟨q, e⟩).1
    refine fw.imp_of_mem fun {x y} hx hy hne e => hne ⟨hf x hx y hy e.1 e.2, e.2⟩
theorem mvL_len : ∀ l : List ((Nat × Str) × Nat), (mvL l).length ≤ l.length
  | [] => Nat.le_refl _
  | p :: l => by
    show (if isPl p.1.2 = true then (p.1.1, tailS p.1.2, p.2) :: mvL l else mvL l).length ≤ _
    have := mvL_len l
    by_cases c : isPl p.1.2 = true
    · rw [if_pos c, List.length_cons, List.length_cons]; omega
    · rw [if_neg c, List.length_cons]; omega
theorem Sat.quiet {P : Post} {r : SRes} (h : Sat { nx := P.nx, ct := P.ct, bk := P.bk, rt := P.rt } r) : Sat P (quiet r) := by
  cases r <;> first | exact h | exact h.elim

end
section
theorem law_moves_L (S : Sto) {n : Nat} {patches : List Str} (hlea : LeaOk n patches S.leads) (hlen : S.leads.length ≤ 20000) (hp : ∀ p ∈ patches, nameB p = true) : m__law_moves [stoD S] = .ok (.lst (mvD (mvL S.leads))) := by
  refine m_ok ?_
  unfold b__law_moves
  have g2 := getS2 S
  have hk : (ixLE 0 2 [.sh (stoD S), .ow (.lst []), .no]).bind keysD = .ok ((leaD S.leads).map (·.1)) := by
    have g : seqGet [D.int (S.size : Int), .dic 0 (namD S.names), .dic 1 (leaD S.leads)] 2 = .ok (.dic 1 (leaD S.leads)) := @seqGet_of _ 2 _ rfl
    show (seqGet [D.int (S.size : Int), .dic 0 (namD S.names), .dic 1 (leaD S.leads)] 2).bind keysD = _
    rw [g]; rfl
  have key : (leaD S.leads).map (·.1) = S.leads.map fun p => leK p.1 := by
    unfold leaD
    rw [List.map_map]; rfl
  rw [key] at hk
  have go : ∀ (l done : List ((Nat × Str) × Nat)) (acc : List Mv) (x : Sl), S.leads = done ++ l → acc = mvL done → Sat { nx := fun e => ∃ x, e = [.sh (stoD S), .ow (.lst (mvD (mvL S.leads))), x] }
      (forL (gnG 2) (ifS (tE (op2 eqO (op2 getD (op2 getD (getP 2) (cE (.int 1))) (cE (.int 0))) (cE (.str "+")))) (appS 1 (aE tupD (consA (op2 getD (getP 2) (cE (.int 0))) (consA (slE (op2 getD (getP 2) (cE (.int 1))) (someO (cE (.int 1))) noO) (consA (op2 getD (op2 getD (getP 0) (cE (.int 2))) (getP 2)) nilA))))) nxS) (l.map fun p => leK p.1) [.sh (stoD S), .ow (.lst (mvD acc)), x]) := by
    intro l
    induction l with
    | nil =>
      intro done acc x e1 e2
      rw [List.append_nil] at e1
      subst e2
      rw [e1]
      exact ⟨x, rfl⟩
    | cons p l ih =>
      intro done acc x e1 e2
      obtain ⟨⟨a, s⟩, b⟩ := p
      have hm : ((a, s), b) ∈ S.leads := by rw [e1]; exact List.mem_append_right _ (List.mem_cons_self ..)
      obtain ⟨h1, h2, q, hq, hs⟩ := hlea.lea _ hm
      have hq12 : q.length ≤ 12 := by obtain ⟨_, _, _, _, _, z⟩ := name_parts (hp q hq); exact z
      have gl : getD (.dic 1 (leaD S.leads)) (leK (a, s)) = .ok (.int (b : Int)) := getL (look_of_mem hlea.nodup hm)
      have t3 : ∀ a b c : D, tupD [a, b, c] = .ok (.tup [a, b, c]) := fun a b c => tup_ok (le_line (show 3 ≤ 1000000 by decide))
      have gk0 : getD (leK (a, s)) (.int 0) = .ok (.int (a : Int)) := by
        show getD (D.tup [.int (a : Int), .str s]) (.int 0) = _
        rw [get_tup]
        exact @seqGet_of _ 0 _ rfl
      have gk1 : getD (leK (a, s)) (.int 1) = .ok (.str s) := by
        show getD (D.tup [.int (a : Int), .str s]) (.int 1) = _
        rw [get_tup]
        exact @seqGet_of _ 1 _ rfl
      have mvapp : ∀ (d : List ((Nat × Str) × Nat)) (p : (Nat × Str) × Nat), mvL (d ++ [p]) = mvL d ++ mvL [p] := fun d p => by
        induction d with
        | nil => rfl
        | cons y d ih2 =>
          show (if isPl y.1.2 = true then (y.1.1, tailS y.1.2, y.2) :: mvL (d ++ [p]) else mvL (d ++ [p])) = (if isPl y.1.2 = true then (y.1.1, tailS y.1.2, y.2) :: mvL d else mvL d) ++ mvL [p]
          rw [ih2]
          by_cases c : isPl y.1.2 = true
          · rw [if_pos c, if_pos c]; rfl
          · rw [if_neg c, if_neg c]
      have e1' : S.leads = (done ++ [((a, s), b)]) ++ l := by rw [e1, List.append_assoc]; rfl
      have hal : acc.length ≤ S.leads.length := by
        rw [e2, e1, List.length_append]
        have := mvL_len done
        omega
      have hlt : (mvD acc).length < sizeLine := by
        unfold mvD
        rw [List.length_map]
        exact Nat.lt_of_lt_of_le (show acc.length < 1000000 by omega) (le_line (Nat.le_refl _))
      show Sat _ (flowL _ _)
      rcases hs with hs | hs
      · have hs : s = plusS q := hs
        have hsl : s.length ≤ sizeLine := le_line (by rw [hs]; unfold plusS; rw [str_app_len, show ("+" : Str).length = 1 by decide +kernel]; omega)
        have sg : getD (.str s) (.int 0) = .ok (.str "+") := by
          have e : s.cps.toList = 43 :: q.cps.toList := by rw [hs]; unfold plusS; rw [str_app, plus_tl]; rfl
          obtain ⟨c, c1, c2⟩ := strGet_of (z := s) (i := 0) hsl (by rw [str_len, e, List.length_cons]; omega)
          rw [e] at c1
          cases c1
          exact c2
        have okp : okS "+" = true := by decide +kernel
        have := ih (done ++ [((a, s), b)]) (acc ++ [(a, q, b)]) (.sh (leK (a, s))) e1' (by
          rw [mvapp, e2]
          show mvL done ++ [(a, q, b)] = mvL done ++ (if isPl s = true then (a, tailS s, b) :: [] else [])
          rw [hs, if_pos (pl_plus q).1, (pl_plus q).2])
        have hsl2 : sliceD (.str s) (some 1) none = .ok (.str q) := by
          rw [sl_str hsl]
          have := (pl_plus q).2
          rw [← hs] at this
          exact congrArg (fun s => Res.ok (D.str s)) this
        simp_arith [gk0, gk1, sg, eqO_str okp okp, decide_true, g2, gl, hsl2, t3, if_pos hlt]
        rw [show mvD acc ++ [D.tup [.int (a : Int), .str q, .int (b : Int)]] = mvD (acc ++ [(a, q, b)]) by unfold mvD; rw [List.map_append]; rfl]
        exact this
      · have hs : s = minusS q := hs
        have hsl : s.length ≤ sizeLine := le_line (by rw [hs]; unfold minusS; rw [str_app_len, show ("-" : Str).length = 1 by decide +kernel]; omega)
        have sg : getD (.str s) (.int 0) = .ok (.str "-") := by
          have e : s.cps.toList = 45 :: q.cps.toList := by rw [hs]; unfold minusS; rw [str_app, minus_tl]; rfl
          obtain ⟨c, c1, c2⟩ := strGet_of (z := s) (i := 0) hsl (by rw [str_len, e, List.length_cons]; omega)
          rw [e] at c1
          cases c1
          exact c2
        have okp : okS "+" = true := by decide +kernel
        have okm : okS "-" = true := by decide +kernel
        have mp : decide (("-" : Str) = "+") = false := by decide +kernel
        have := ih (done ++ [((a, s), b)]) acc (.sh (leK (a, s))) e1' (by
          rw [mvapp, e2]
          show mvL done = mvL done ++ (if isPl s = true then (a, tailS s, b) :: [] else [])
          rw [hs, if_neg (by rw [pl_minus]; exact Bool.false_ne_true), List.append_nil])
        simp_arith [gk0, gk1, sg, eqO_str okm okp, mp]
        exact this
  rw [seq_eq]
  simp only [ownS_eq, aE_eq, nilA_eq, r1_ok, lst_nil, env0, List.map_cons, List.map_nil, List.cons_append, List.nil_append, List.length_cons, List.length_nil, List.replicate, Nat.reduceSub, Nat.reduceAdd, rOwn_ok, rSeq_nx, sz_, ss_]
  rw [seq_eq]
  refine Sat.rseq ?_
  unfold forDS
  rw [hk]
  refine Sat.quiet ((go S.leads [] [] .no rfl rfl).mono (fun e h => ?_) (fun _ h => h.elim) (fun _ h => h.elim) (fun _ h => h.elim) (fun _ _ _ h => h.elim) (fun _ h => h.elim))
  obtain ⟨x, rfl⟩ := h
  rw [thn_nx]
  simp_arith []
theorem law_moves_ok (S : Sto) (starts patches : List Str) (hS : StoOk S starts patches) (hp : ∀ p ∈ patches, nameB p = true) : m__law_moves [stoD S] = .ok (.lst (mvD (mvL S.leads))) := law_moves_L S hS.lea (Nat.le_trans hS.llen (by decide)) hp

end
section
def tkD (l : List (Nat × Str)) : List (D × D) := l.map fun k => (leK k, .bl true)
theorem lookD_tk (l : List (Nat × Str)) (k : Nat × Str) : (lookD (tkD l) (leK k)).isSome = decide (k ∈ l) := by
  unfold lookD tkD
  rw [Option.isSome_map]
  induction l with
  | nil => rfl
  | cons x l ih =>
    rw [List.map_cons]
    by_cases c : x = k
    · rw [List.find?_cons_of_pos (by show eqK (leK x) (leK k) = true; rw [eqK_l, decide_eq_true c])]
      rw [decide_eq_true (by rw [c]; exact List.mem_cons_self ..)]; rfl
    · rw [List.find?_cons_of_neg (by show ¬ eqK (leK x) (leK k) = true; rw [eqK_l, decide_eq_false c]; exact Bool.false_ne_true), ih]
      exact decide_eq_decide.mpr ⟨fun h => List.mem_cons_of_mem _ h, fun h => (List.mem_cons.mp h).resolve_left fun e => c e.symm⟩
theorem setD_tk {l : List (Nat × Str)} {k : Nat × Str} (h : k ∉ l) : setD (tkD l) (leK k) (.bl true) = tkD (l ++ [k]) := by
  unfold setD
  have : ((tkD l).any fun p => eqK p.1 (leK k)) = false := by
    unfold tkD
    rw [List.any_map, List.any_eq_false]
    intro x hx
    show ¬ eqK (leK x) (leK k) = true
    rw [eqK_l, decide_eq_false fun e => h (by rw [← e]; exact hx)]
    exact Bool.false_ne_true
  rw [if_neg (by rw [this]; exact Bool.false_ne_true)]
  unfold tkD
  rw [List.map_append]; rfl
theorem plus_ok {ps : List Str} (hp : ∀ p ∈ ps, nameB p = true) {q : Str} (hq : q ∈ ps) : addD (.str "+") (.str q) = .ok (.str (plusS q)) ∧ addD (.str "-") (.str q) = .ok (.str (minusS q)) := by
  obtain ⟨_, _, _, _, _, hl⟩ := name_parts (hp q hq)
  exact ⟨add_str (le_line (by rw [show ("+" : Str).length = 1 by decide +kernel]; omega)), add_str (le_line (by rw [show ("-" : Str).length = 1 by decide +kernel]; omega))⟩

end
section
abbrev MvI := Int × Str × Int
def namI (l : List (Str × Int)) : List (D × D) := l.map fun p => (.str p.1, .int p.2)
def mvTI (m : MvI) : D := .tup [.int m.1, .str m.2.1, .int m.2.2]
def mvDI (ms : List MvI) : List D := ms.map mvTI
def inR (n : Nat) (z : Int) : Bool := decide (0 ≤ z) && decide (z < (n : Int))
def nameOk (n : Nat) (p : Str × Int) : Bool := nameB p.1 && inR n p.2
def moveOk (n : Nat) (m : MvI) : Bool := nameB m.2.1 && (inR n m.1 && inR n m.2.2)
def natM (m : MvI) : Mv := (m.1.toNat, m.2.1, m.2.2.toNat)
def freeM (tk : List (Nat × Str)) (m : Mv) : Bool := !(decide ((m.1, plusS m.2.1) ∈ tk) || decide ((m.2.2, minusS m.2.1) ∈ tk))
def putTk (tk : List (Nat × Str)) (m : Mv) : List (Nat × Str) := tk ++ [(m.1, plusS m.2.1)] ++ [(m.2.2, minusS m.2.1)]
def stN (n : Nat) (o : Res D) (_ : Unit) (p : Str × Int) : Unit ⊕ Res D := if nameOk n p = true then .inl () else .inr o
def stM (n : Nat) (o : Res D) (tk : List (Nat × Str)) (m : MvI) : List (Nat × Str) ⊕ Res D := if moveOk n m = true then (if freeM tk (natM m) = true then .inl (putTk tk (natM m)) else .inr o) else .inr o
def movesOk (n : Nat) : List (Nat × Str) → List MvI → Bool
  | _, [] => true
  | tk, m :: ms => moveOk n m && (freeM tk (natM m) && movesOk n (putTk tk (natM m)) ms)
def storeB (n : Nat) (N : List (Str × Int)) (ms : List MvI) : Bool := N.all (nameOk n) && movesOk n [] ms
theorem runN (n : Nat) (o : Res D) : ∀ N : List (Str × Int), runL (stN n o) () N = if N.all (nameOk n) = true then .inl () else .inr o
  | [] => rfl
  | p :: N => by
    rw [runL, List.all_cons]
    unfold stN
    cases q : nameOk n p with
    | true => rw [if_pos rfl, Bool.true_and]; exact runN n o N
    | false => rw [if_neg Bool.false_ne_true, Bool.false_and, if_neg Bool.false_ne_true]
theorem runM (n : Nat) (o : Res D) : ∀ (ms : List MvI) (tk : List (Nat × Str)), (movesOk n tk ms = true ∧ ∃ tk', runL (stM n o) tk ms = .inl tk') ∨ (movesOk n tk ms = false ∧ runL (stM n o) tk ms = .inr o)
  | [], tk => .inl ⟨rfl, tk, rfl⟩
  | m :: ms, tk => by
    rw [runL, movesOk]
    unfold stM
    cases q : moveOk n m with
    | false => rw [if_neg Bool.false_ne_true]; exact .inr ⟨rfl, rfl⟩
    | true =>
      rw [if_pos rfl]
      cases q2 : freeM tk (natM m) with
      | false => rw [if_neg Bool.false_ne_true]; exact .inr ⟨rfl, rfl⟩
      | true => rw [if_pos rfl, Bool.true_and, Bool.true_and]; exact runM n o ms _
theorem putTk_len (tk : List (Nat × Str)) (m : Mv) : (putTk tk m).length = tk.length + 2 := by
  unfold putTk
  rw [List.length_append, List.length_append]; rfl
theorem lookI {l : List (Str × Int)} (hn : (l.map (·.1)).Nodup) {p : Str × Int} (hp : p ∈ l) : lookD (namI l) (.str p.1) = some (.int p.2) := by
  unfold lookD namI
  induction l with
  | nil => cases hp
  | cons q l ih =>
    rw [List.map_cons, List.nodup_cons] at hn
    rw [List.map_cons]
    rcases List.mem_cons.mp hp with rfl | hp
    · rw [List.find?_cons_of_pos (by show eqK (D.str p.1) (.str p.1) = true; rw [eqK_s, decide_eq_true rfl])]; rfl
    · rw [List.find?_cons_of_neg (by show ¬ eqK (D.str q.1) (.str p.1) = true; rw [eqK_s, decide_eq_false (fun e => hn.1 (by rw [e]; exact List.mem_map_of_mem (f := (·.1)) hp))]; exact Bool.false_ne_true)]
      exact ih hn.2 hp
theorem keys_namI (N : List (Str × Int)) : (namI N).map (·.1) = N.map fun p => D.str p.1 := by
  unfold namI
  rw [List.map_map]; rfl
theorem inX_tk (tk : List (Nat × Str)) (k : Nat × Str) : inX (leK k) (.dic 1 (tkD tk)) = .ok (.bl (decide (k ∈ tk))) := by
  show (if keyFit 1 (leK k) = true then Res.ok (D.bl (lookD (tkD tk) (leK k)).isSome) else .bad) = _
  rw [if_pos (fit_l k), lookD_tk]
theorem move_nat {n : Nat} {m : MvI} (h : moveOk n m = true) : ∃ a b : Nat, m = ((a : Int), m.2.1, (b : Int)) ∧ a < n ∧ b < n ∧ nameB m.2.1 = true ∧ natM m = (a, m.2.1, b) := by
  obtain ⟨x, q, y⟩ := m
  unfold moveOk inR at h
  obtain ⟨h1, h2⟩ := Bool.and_eq_true_iff.mp h
  obtain ⟨h3, h4⟩ := Bool.and_eq_true_iff.mp h2
  obtain ⟨a1, a2⟩ := Bool.and_eq_true_iff.mp h3
  obtain ⟨b1, b2⟩ := Bool.and_eq_true_iff.mp h4
  have a1 := of_decide_eq_true a1
  have b1 := of_decide_eq_true b1
  have a2 := of_decide_eq_true a2
  have b2 := of_decide_eq_true b2
  have a1 : 0 ≤ x := a1
  have b1 : 0 ≤ y := b1
  have a2 : x < n := a2
  have b2 : y < n := b2
  obtain ⟨a, rfl⟩ := Int.eq_ofNat_of_zero_le a1
  obtain ⟨b, rfl⟩ := Int.eq_ofNat_of_zero_le b1
  exact ⟨a, b, rfl, by omega, by omega, h1, rfl⟩
theorem tk_put {tk : List (Nat × Str)} {m : Mv} (h : freeM tk m = true) : (m.1, plusS m.2.1) ∉ tk ∧ (m.2.2, minusS m.2.1) ∉ tk ∧ (m.2.2, minusS m.2.1) ∉ tk ++ [(m.1, plusS m.2.1)] := by
  unfold freeM at h
  have h := Bool.not_eq_true' _ ▸ h
  obtain ⟨h1, h2⟩ := Bool.or_eq_false_iff.mp h
  have h1 := of_decide_eq_false h1
  have h2 := of_decide_eq_false h2
  refine ⟨h1, h2, fun h => ?_⟩
  rcases List.mem_append.mp h with h | h
  · exact h2 h
  · exact plus_minus _ _ (Prod.mk.inj (List.mem_singleton.mp h)).2.symm
theorem add_pm {q : Str} (h : nameB q = true) : addD (.str "+") (.str q) = .ok (.str (plusS q)) ∧ addD (.str "-") (.str q) = .ok (.str (minusS q)) := plus_ok (ps := [q]) (fun p hp => by rw [List.mem_singleton.mp hp]; exact h) (List.mem_singleton.mpr rfl)
structure InOk (N : List (Str × Int)) (ms : List MvI) : Prop where
  nd : (N.map (·.1)).Nodup
  nl : ∀ p ∈ N, p.1.length ≤ 1000
  ml : ∀ m ∈ ms, m.2.1.length ≤ 1000
  le : ms.length ≤ 10000
theorem check_gen (n : Nat) (N : List (Str × Int)) (ms : List MvI) (h : InOk N ms) : m_check_store [.int (n : Int), .dic 0 (namI N), .lst (mvDI ms)] = if storeB n N ms = true then .ok .non else .exc "BadStore" [] := by
  refine m_out ?_
  unfold b_check_store
  have env : env0 8 [.int (n : Int), .dic 0 (namI N), .lst (mvDI ms)] = [.sh (.int (n : Int)), .sh (.dic 0 (namI N)), .sh (.lst (mvDI ms)), .no, .no, .no, .no, .no] := rfl
  rw [env, seq_eq]
  refine Sat.rseq (Sat.runX N (fun p => .str p.1) (stN n (.exc "BadStore" [])) (fun _ env => ∃ x, env = [.sh (.int (n : Int)), .sh (.dic 0 (namI N)), .sh (.lst (mvDI ms)), x, .no, .no, .no, .no]) () (congrArg Res.ok (keys_namI N)) ⟨_, rfl⟩ ?_ ?_)
  · rintro _ p env hp ⟨x, rfl⟩
    refine ⟨_, rfl, ?_⟩
    have gl : getD (.dic 0 (namI N)) (.str p.1) = .ok (.int p.2) := getD_fit (fit_n p.1) (lookI h.nd hp)
    have nm := is_name_ok p.1 (le_line (by have := h.nl p hp; omega))
    simp_arith [nm, gl]
    unfold stN
    by_cases c : nameOk n p = true
    · rw [if_pos c]
      unfold nameOk inR at c
      obtain ⟨c1, c2⟩ := Bool.and_eq_true_iff.mp c
      simp only [c1, c2, seq_eq, rSeq_nx, rSeq_rt, rSeq_bk, rSeq_ct, rSeq_xc, setS_eq, rSet_ok, ownS_eq, rOwn_ok, retS_eq, rRet_ok, retNS_eq, nxS_eq, bkS_eq, ctS_eq, dropS_eq, rDrop_ok, ifS_eq, rIf_t, rIf_f, asgS_eq, appS_eq, rApp_ok, giveS_eq, VL.give, gnG_eq, getP_eq, getB_eq, rGet_ok, rGetB_ok, rGetB_ow, cE_eq, op2_eq, r2_ok, aE_eq, aI_eq, iE_eq, tE_eq, someO_eq, notE_eq, isTE_eq, r1_ok, toB_ok, toI_ok, notD_ok, noO_eq, nilA_eq, consA_eq, rC_ok, andT_eq, orT_eq, notT_eq, rAnd_t, rAnd_f, rAnd_ok, rOr_t, rOr_f, rOr_ok, rNot_ok, andE_eq, orE_eq, rAndE_t, rAndE_f, rAndE_ok, rOrE_t, rOrE_f, rOrE_ok, ifE_eq, rIfE_ok, slE_eq, rSl_ok, chE_eq, rCh_le, rCh_lelt, rCh_ltlt, rCh_ltle, strE_eq, rStr_ok, immE_eq, rImm_ok, Sat_nx, Sat_rt, Sat_ct, Sat_bk, Sat_xc, thn_nx, thn_rt, thn_ct, thn_bk, thn_xc, lp_nx, lp_ct, lp_bk, lp_rt, lp_xc, add_int, sub_int, mod_int, fdiv_int, lt_int, le_int, gt_int, ge_int, isN_eq, notN_eq, isNon, len_lst, len_tup, len_scr, int_int, get_str, get_tup, get_lst, get_scr, items_str, items_lst, items_tup, lst_nil, sl_tup, sl_lst, isT_bl, eqO_int, eqO_bl, eqO_scr, neO_int, env0, List.map_cons, List.map_nil, List.cons_append, List.nil_append, List.length_cons, List.length_nil, List.replicate, gz_, gs_, sz_, ss_, if_true, if_false, reduceIte, Bool.not_true, Bool.not_false, Bool.false_eq_true, Nat.reduceAdd, Nat.reduceSub, Bool.false_or, Bool.or_false, Bool.true_or, Bool.or_true, Bool.and_true, Bool.true_and, Bool.and_false, Bool.false_and, wipeE, yesT, negE_eq, neg_int, retFS, outO, ofE_ok, str_str, ltX_int, ltX_str, inX_str, notInX_str, list_lst, list_tup, Sat_ro, thn_ro, lp_ro, raiseS_eq, rRaise_ok, raise0S_eq, isXE_eq, fldXE_eq, int_bl, rSet_xc, rDrop_xc, rRet_xc, r1_xc, rC_xc, r2_xc, rIf_xc, outI_nx, outI_rt, outI_nx0, outI_rt0, inE_s, inE_0, lst_k, tup_k, catl_k, Nat.reduceLeDiff, inWE_eq, inW_str, ixWE_eq, guardX_ok, getE_eq, putS_eq, rPut_ok]
      exact ⟨_, rfl⟩
    · rw [if_neg c]
      have e : (!nameB p.1 || !(decide (0 ≤ p.2) && decide (p.2 < (n : Int)))) = true := by
        unfold nameOk inR at c
        revert c
        cases nameB p.1 <;> cases decide (0 ≤ p.2) <;> cases decide (p.2 < (n : Int)) <;> decide
      simp only [e, seq_eq, rSeq_nx, rSeq_rt, rSeq_bk, rSeq_ct, rSeq_xc, setS_eq, rSet_ok, ownS_eq, rOwn_ok, retS_eq, rRet_ok, retNS_eq, nxS_eq, bkS_eq, ctS_eq, dropS_eq, rDrop_ok, ifS_eq, rIf_t, rIf_f, asgS_eq, appS_eq, rApp_ok, giveS_eq, VL.give, gnG_eq, getP_eq, getB_eq, rGet_ok, rGetB_ok, rGetB_ow, cE_eq, op2_eq, r2_ok, aE_eq, aI_eq, iE_eq, tE_eq, someO_eq, notE_eq, isTE_eq, r1_ok, toB_ok, toI_ok, notD_ok, noO_eq, nilA_eq, consA_eq, rC_ok, andT_eq, orT_eq, notT_eq, rAnd_t, rAnd_f, rAnd_ok, rOr_t, rOr_f, rOr_ok, rNot_ok, andE_eq, orE_eq, rAndE_t, rAndE_f, rAndE_ok, rOrE_t, rOrE_f, rOrE_ok, ifE_eq, rIfE_ok, slE_eq, rSl_ok, chE_eq, rCh_le, rCh_lelt, rCh_ltlt, rCh_ltle, strE_eq, rStr_ok, immE_eq, rImm_ok, Sat_nx, Sat_rt, Sat_ct, Sat_bk, Sat_xc, thn_nx, thn_rt, thn_ct, thn_bk, thn_xc, lp_nx, lp_ct, lp_bk, lp_rt, lp_xc, add_int, sub_int, mod_int, fdiv_int, lt_int, le_int, gt_int, ge_int, isN_eq, notN_eq, isNon, len_lst, len_tup, len_scr, int_int, get_str, get_tup, get_lst, get_scr, items_str, items_lst, items_tup, lst_nil, sl_tup, sl_lst, isT_bl, eqO_int, eqO_bl, eqO_scr, neO_int, env0, List.map_cons, List.map_nil, List.cons_append, List.nil_append, List.length_cons, List.length_nil, List.replicate, gz_, gs_, sz_, ss_, if_true, if_false, reduceIte, Bool.not_true, Bool.not_false, Bool.false_eq_true, Nat.reduceAdd, Nat.reduceSub, Bool.false_or, Bool.or_false, Bool.true_or, Bool.or_true, Bool.and_true, Bool.true_and, Bool.and_false, Bool.false_and, wipeE, yesT, negE_eq, neg_int, retFS, outO, ofE_ok, str_str, ltX_int, ltX_str, inX_str, notInX_str, list_lst, list_tup, Sat_ro, thn_ro, lp_ro, raiseS_eq, rRaise_ok, raise0S_eq, isXE_eq, fldXE_eq, int_bl, rSet_xc, rDrop_xc, rRet_xc, r1_xc, rC_xc, r2_xc, rIf_xc, outI_nx, outI_rt, outI_nx0, outI_rt0, inE_s, inE_0, lst_k, tup_k, catl_k, Nat.reduceLeDiff, inWE_eq, inW_str, ixWE_eq, guardX_ok, getE_eq, putS_eq, rPut_ok]
      exact ⟨rfl, rfl⟩
  · rw [runN]
    unfold storeB
    cases hN : N.all (nameOk n) with
    | false =>
      rw [if_neg Bool.false_ne_true, Bool.false_and, if_neg Bool.false_ne_true]
      exact fun env => ⟨rfl, rfl⟩
    | true =>
      rw [if_pos rfl, Bool.true_and]
      rintro env ⟨x, rfl⟩
      rw [thn_nx, seq_eq]
      simp only [ownS_eq, cE_eq, rOwn_ok, rSeq_nx, sz_, ss_]
      refine Sat.runI ms mvTI (stM n (.exc "BadStore" [])) (fun i tk env => ∃ x y z w, tk.length = 2 * i ∧ env = [.sh (.int (n : Int)), .sh (.dic 0 (namI N)), .sh (.lst (mvDI ms)), x, .ow (.dic 1 (tkD tk)), y, z, w]) [] rfl ⟨_, _, _, _, rfl, rfl⟩ ?_ ?_
      · rintro i tk m env hm hi ⟨x, y, z, w, hl, rfl⟩
        refine ⟨_, rfl, ?_⟩
        have nm := is_name_ok m.2.1 (le_line (by have := h.ml m hm; omega))
        have hle := h.le
        unfold stM
        by_cases c : moveOk n m = true
        · rw [if_pos c]
          obtain ⟨a, b, hm, ha, hb, hq, en⟩ := move_nat c
          rw [en]
          generalize m.2.1 = q at *
          subst hm
          have c1 : decide ((0 : Int) ≤ (a : Int)) = true := decide_eq_true (by omega)
          have c2 : decide ((a : Int) < (n : Int)) = true := decide_eq_true (by omega)
          have c3 : decide ((0 : Int) ≤ (b : Int)) = true := decide_eq_true (by omega)
          have c4 : decide ((b : Int) < (n : Int)) = true := decide_eq_true (by omega)
          obtain ⟨p1, p2⟩ := add_pm hq
          have t2 : ∀ a b : D, tupD [a, b] = .ok (.tup [a, b]) := fun a b => tup_ok (le_line (show 2 ≤ 1000000 by decide))
          simp_arith [nm, hq, c1, c2, c3, c4, p1, p2, t2, leK_of, inX_tk]
          by_cases cf : freeM tk (a, q, b) = true
          · rw [if_pos cf]
            obtain ⟨f1, f2, f3⟩ := tk_put cf
            have l1 : (tkD tk).length < sizeLine := by
              unfold tkD
              rw [List.length_map, hl]
              exact Nat.lt_of_lt_of_le (show 2 * i < 1000000 by omega) (le_line (Nat.le_refl _))
            have l2 : (tkD (tk ++ [(a, plusS q)])).length < sizeLine := by
              unfold tkD
              rw [List.length_map, List.length_append, hl]
              exact Nat.lt_of_lt_of_le (show 2 * i + 1 < 1000000 by omega) (le_line (Nat.le_refl _))
            simp_arith [decide_eq_false f1, decide_eq_false f2, fit_l, l1, true_and, setD_tk f1, l2, setD_tk f3, p1, p2, t2, leK_of]
            exact ⟨_, _, _, _, by rw [putTk_len, hl]; omega, rfl⟩
          · rw [if_neg cf]
            have e : (decide ((a, plusS q) ∈ tk) || decide ((b, minusS q) ∈ tk)) = true := by
              unfold freeM at cf
              revert cf
              cases decide ((a, plusS q) ∈ tk) <;> cases decide ((b, minusS q) ∈ tk) <;> decide
            simp_arith [e]
            exact ⟨rfl, rfl⟩
        · rw [if_neg c]
          have e : (!nameB m.2.1 || (!(decide (0 ≤ m.1) && decide (m.1 < (n : Int))) || !(decide (0 ≤ m.2.2) && decide (m.2.2 < (n : Int))))) = true := by
            unfold moveOk inR at c
            revert c
            cases nameB m.2.1 <;> cases decide (0 ≤ m.1) <;> cases decide (m.1 < (n : Int)) <;> cases decide (0 ≤ m.2.2) <;> cases decide (m.2.2 < (n : Int)) <;> decide
          simp_arith [nm, e]
          exact ⟨rfl, rfl⟩
      · rcases runM n (.exc "BadStore" []) ms [] with ⟨e, tk, r⟩ | ⟨e, r⟩
        · rw [r, e, if_pos rfl]
          exact fun env _ => rfl
        · rw [r, e, if_neg Bool.false_ne_true]
          exact fun env => ⟨rfl, rfl⟩

end
section
theorem check_store_ok (n : Nat) (names : List (Str × Nat)) (ps : List Str) (ms : List Mv) (hn : ∀ p ∈ names, nameB p.1 = true ∧ p.2 < n) (hnd : (names.map (·.1)).Nodup) (hp : ∀ p ∈ ps, nameB p = true) (hm : MvOk n ps ms) (hl : ms.length ≤ 10000) :
    m_check_store [.int (n : Int), .dic 0 (namD names), .lst (mvD ms)] = .ok .non := by
  let N : List (Str × Int) := names.map fun p => (p.1, (p.2 : Int))
  let M : List MvI := ms.map fun m => ((m.1 : Int), m.2.1, (m.2.2 : Int))
  have eN : namI N = namD names := by
    show (names.map _).map _ = _
    rw [List.map_map]; rfl
  have eM : mvDI M = mvD ms := by
    show (ms.map _).map _ = _
    rw [List.map_map]; rfl
  have h1 : (N.map (·.1)) = names.map (·.1) := by
    show (names.map _).map _ = _
    rw [List.map_map]; rfl
  have len : ∀ s : Str, nameB s = true → s.length ≤ 1000 := fun s h => by
    obtain ⟨_, _, _, _, _, hl⟩ := name_parts h
    omega
  have inr : ∀ a : Nat, a < n → inR n (a : Int) = true := fun a h => by
    unfold inR
    rw [decide_eq_true (show (0 : Int) ≤ a by omega), decide_eq_true (show (a : Int) < n by omega)]; rfl
  have I : InOk N M := ⟨by rw [h1]; exact hnd, fun p hp => by
      obtain ⟨q, hq, rfl⟩ := List.mem_map.mp hp
      exact len _ (hn q hq).1, fun m hm' => by
      obtain ⟨q, hq, rfl⟩ := List.mem_map.mp hm'
      exact len _ (hp _ (hm.rng q hq).2.2), by rw [List.length_map]; exact hl⟩
  have hs : storeB n N M = true := by
    unfold storeB
    refine Bool.and_eq_true_iff.mpr ⟨List.all_eq_true.mpr fun p hp => ?_, ?_⟩
    · obtain ⟨q, hq, rfl⟩ := List.mem_map.mp hp
      obtain ⟨g1, g2⟩ := hn q hq
      show (nameB q.1 && inR n (q.2 : Int)) = true
      rw [g1, inr _ g2]; rfl
    · have go : ∀ (l : List Mv) (tk : List (Nat × Str)), (∀ m ∈ l, m.1 < n ∧ m.2.2 < n ∧ m.2.1 ∈ ps) → (l.Pairwise fun x y => ¬ (x.1 = y.1 ∧ x.2.1 = y.2.1)) → (l.Pairwise fun x y => ¬ (x.2.2 = y.2.2 ∧ x.2.1 = y.2.1)) → (∀ m ∈ l, (m.1, plusS m.2.1) ∉ tk ∧ (m.2.2, minusS m.2.1) ∉ tk) → movesOk n tk (l.map fun m => ((m.1 : Int), m.2.1, (m.2.2 : Int))) = true := fun l => by
        induction l with
        | nil => exact fun _ _ _ _ _ => rfl
        | cons m l ih =>
          intro tk h1 h2 h3 h4
          obtain ⟨a, q, b⟩ := m
          obtain ⟨r1, r2, r3⟩ := h1 _ (List.mem_cons_self ..)
          obtain ⟨f1, f2⟩ := h4 _ (List.mem_cons_self ..)
          obtain ⟨p1, p2⟩ := List.pairwise_cons.mp h2
          obtain ⟨q1, q2⟩ := List.pairwise_cons.mp h3
          rw [List.map_cons, movesOk]
          have m1 : moveOk n ((a : Int), q, (b : Int)) = true := by
            unfold moveOk
            rw [hp q r3, inr a r1, inr b r2]; rfl
          have m2 : natM ((a : Int), q, (b : Int)) = (a, q, b) := rfl
          have m3 : freeM tk (a, q, b) = true := by
            unfold freeM
            rw [decide_eq_false f1, decide_eq_false f2]; rfl
          rw [m1, m2, m3, Bool.true_and, Bool.true_and]
          refine ih _ (fun m hm => h1 m (List.mem_cons_of_mem _ hm)) p2 q2 fun m hm => ?_
          obtain ⟨g1, g2⟩ := h4 m (List.mem_cons_of_mem _ hm)
          unfold putTk
          rw [List.mem_append, List.mem_append, List.mem_singleton, List.mem_singleton, List.mem_append, List.mem_append, List.mem_singleton, List.mem_singleton]
          refine ⟨?_, ?_⟩
          · rintro ((h | h) | h)
            · exact g1 h
            · exact p1 m hm ⟨(Prod.mk.inj h).1.symm, (plus_inj (Prod.mk.inj h).2).symm⟩
            · exact plus_minus _ _ (Prod.mk.inj h).2
          · rintro ((h | h) | h)
            · exact g2 h
            · exact plus_minus _ _ (Prod.mk.inj h).2.symm
            · exact q1 m hm ⟨(Prod.mk.inj h).1.symm, (minus_inj (Prod.mk.inj h).2).symm⟩
      exact go ms [] hm.rng hm.fwd hm.bwd fun _ _ => ⟨List.not_mem_nil, List.not_mem_nil⟩
  have := check_gen n N M I
  rw [eN, eM, hs, if_pos rfl] at this
  exact this

end
section
def insD (n : Nat) (N : List (Str × Nat)) (L : List ((Nat × Str) × Nat)) : D := .ins "Store" [("content_count", .int (n : Int)), ("start_contents", .dic 0 (namD N)), ("leads", .dic 1 (leaD L))]
def sortN (names : List (Str × Nat)) : List (Str × Nat) := (sortT (names.map (·.1))).foldl (fun acc s => put1 acc s ((look1 names s).getD 0)) []
def leadsF (ms : List Mv) (acc : List ((Nat × Str) × Nat)) : List ((Nat × Str) × Nat) := ms.foldl (fun acc m => put1 (put1 acc (m.1, plusS m.2.1) m.2.2) (m.2.2, minusS m.2.1) m.1) acc
theorem k_ok {c : Str} {n : Nat} {b : Env → SRes} {x : Addr} {ds : List D} {d : D} (h : Sat { nx := fun e => outI0 x e[0]? = .ok d } (b (envI x c n ds))) : defK c n b x ds = .ok d := by
  unfold defK
  cases q : b (envI x c n ds) <;> rw [q] at h <;> first | exact h.elim | exact h
theorem setfS_eq {i : Nat} {c f : Str} {φ : Env → Res D} {env : Env} : setfS i c f φ env = rSetf i c f env[i]? (φ env) env := rfl
theorem look_fold (names : List (Str × Nat)) : ∀ (l : List Str) (acc : List (Str × Nat)) (s : Str), look1 (l.foldl (fun acc s => put1 acc s ((look1 names s).getD 0)) acc) s = if s ∈ l then some ((look1 names s).getD 0) else look1 acc s
  | [], acc, s => by simp
  | t :: l, acc, s => by
    rw [List.foldl_cons, look_fold names l]
    by_cases c : s ∈ l
    · rw [if_pos c, if_pos (List.mem_cons_of_mem _ c)]
    · rw [if_neg c, look_put]
      by_cases c2 : s = t
      · rw [if_pos c2, if_pos (by rw [c2]; exact List.mem_cons_self ..), c2]
      · rw [if_neg c2, if_neg (fun h => (List.mem_cons.mp h).elim c2 c)]
theorem look_sortN (names : List (Str × Nat)) (s : Str) : look1 (sortN names) s = look1 names s := by
  unfold sortN
  rw [look_fold]
  have hm : s ∈ sortT (names.map (·.1)) ↔ s ∈ names.map (·.1) := (sortT_perm _).mem_iff
  by_cases c : s ∈ sortT (names.map (·.1))
  · rw [if_pos c]
    cases q : look1 names s with
    | none => exact absurd (hm.mp c) (look_none.mp q)
    | some a => rfl
  · rw [if_neg c, look_nil]
    exact (look_none.mpr fun h => c (hm.mpr h)).symm
theorem look_leads : ∀ (ms : List Mv) (acc : List ((Nat × Str) × Nat)) (k : Nat × Str) (v : Nat), (ms.Pairwise fun x y => ¬ (x.1 = y.1 ∧ x.2.1 = y.2.1)) → (ms.Pairwise fun x y => ¬ (x.2.2 = y.2.2 ∧ x.2.1 = y.2.1)) →
    (look1 (leadsF ms acc) k = some v ↔ (∃ m ∈ ms, (k = (m.1, plusS m.2.1) ∧ v = m.2.2) ∨ (k = (m.2.2, minusS m.2.1) ∧ v = m.1)) ∨ ((∀ m ∈ ms, k ≠ (m.1, plusS m.2.1) ∧ k ≠ (m.2.2, minusS m.2.1)) ∧ look1 acc k = some v))
  | [], acc, k, v, _, _ => by simp [leadsF]
  | m :: ms, acc, k, v, h1, h2 => by
    obtain ⟨a1, a2⟩ := List.pairwise_cons.mp h1
    obtain ⟨b1, b2⟩ := List.pairwise_cons.mp h2
    have e : leadsF (m :: ms) acc = leadsF ms (put1 (put1 acc (m.1, plusS m.2.1) m.2.2) (m.2.2, minusS m.2.1) m.1) := rfl
    rw [e, look_leads ms _ k v a2 b2, look_put, look_put]
    constructor
    · rintro (⟨y, hy, h⟩ | ⟨hn, h⟩)
      · exact .inl ⟨y, List.mem_cons_of_mem _ hy, h⟩
      · by_cases c1 : k = (m.2.2, minusS m.2.1)
        · rw [if_pos c1] at h
          exact .inl ⟨m, List.mem_cons_self .., .inr ⟨c1, (Option.some.inj h).symm⟩⟩
        · rw [if_neg c1] at h
          by_cases c2 : k = (m.1, plusS m.2.1)
          · rw [if_pos c2] at h
            exact .inl ⟨m, List.mem_cons_self .., .inl ⟨c2, (Option.some.inj h).symm⟩⟩
          · rw [if_neg c2] at h
            refine .inr ⟨fun y hy => ?_, h⟩
            rcases List.mem_cons.mp hy with rfl | hy
            · exact ⟨c2, c1⟩
            · exact hn y hy
    · rintro (⟨y, hy, h⟩ | ⟨hn, h⟩)
      · rcases List.mem_cons.mp hy with rfl | hy
        · refine .inr ⟨fun z hz => ?_, ?_⟩
          · rcases h with ⟨e1, _⟩ | ⟨e1, _⟩
            · refine ⟨fun e2 => ?_, fun e2 => ?_⟩
              · rw [e1] at e2
                obtain ⟨q1, q2⟩ := Prod.mk.inj e2
                exact a1 z hz ⟨q1, plus_inj q2⟩
              · rw [e1] at e2
                exact plus_minus _ _ (Prod.mk.inj e2).2
            · refine ⟨fun e2 => ?_, fun e2 => ?_⟩
              · rw [e1] at e2
                exact plus_minus _ _ (Prod.mk.inj e2).2.symm
              · rw [e1] at e2
                obtain ⟨q1, q2⟩ := Prod.mk.inj e2
                exact b1 z hz ⟨q1, minus_inj q2⟩
          · rcases h with ⟨e1, e2⟩ | ⟨e1, e2⟩
            · rw [if_neg (fun e3 => plus_minus _ _ (by rw [e1] at e3; exact (Prod.mk.inj e3).2)), if_pos e1, e2]
            · rw [if_pos e1, e2]
        · exact .inl ⟨y, hy, h⟩
      · refine .inr ⟨fun z hz => hn z (List.mem_cons_of_mem _ hz), ?_⟩
        obtain ⟨n1, n2⟩ := hn m (List.mem_cons_self ..)
        rw [if_neg n2, if_neg n1]
        exact h
theorem look_leads_of {l : List ((Nat × Str) × Nat)} {n : Nat} {ps : List Str} (h : LeaOk n ps l) (k : Nat × Str) : look1 (leadsF (mvL l) []) k = look1 l k := by
  have hm := mvL_ok h
  refine Option.ext fun v => ?_
  rw [look_leads _ _ _ _ hm.fwd hm.bwd]
  constructor
  · rintro (⟨⟨a, q, b⟩, hmm, ⟨rfl, rfl⟩ | ⟨rfl, rfl⟩⟩ | ⟨_, h⟩)
    · exact (mv_look h).mp hmm
    · exact (h.pair _ _ _).mp ((mv_look h).mp hmm)
    · cases h
  · intro hv
    have := look_mem hv
    obtain ⟨_, _, q, _, e⟩ := h.lea _ this
    obtain ⟨a, s⟩ := k
    rcases e with e | e
    · have e : s = plusS q := e
      subst e
      exact .inl ⟨(a, q, v), (mv_look h).mpr hv, .inl ⟨rfl, rfl⟩⟩
    · have e : s = minusS q := e
      subst e
      exact .inl ⟨(v, q, a), (mv_look h).mpr ((h.pair _ _ _).mpr hv), .inr ⟨rfl, rfl⟩⟩
theorem init_ok (n : Nat) (names : List (Str × Nat)) (ps : List Str) (ms : List Mv) (hn : ∀ p ∈ names, nameB p.1 = true ∧ p.2 < n) (hnd : (names.map (·.1)).Nodup) (hnl : names.length < 64) (hp : ∀ p ∈ ps, nameB p = true) (hm : MvOk n ps ms) (hl : ms.length ≤ 10000) (x : Addr) :
    m_Store___init__ x [.int (n : Int), .dic 0 (namD names), .lst (mvD ms)] = .ok (insD n (sortN names) (leadsF ms [])) := by
  refine k_ok ?_
  unfold b_Store___init__
  have hc := check_store_ok n names ps ms hn hnd hp hm hl
  have env : envI x "Store" 9 [.int (n : Int), .dic 0 (namD names), .lst (mvD ms)] = [.ow (.sel x "Store" []), .sh (.int (n : Int)), .sh (.dic 0 (namD names)), .sh (.lst (mvD ms)), .no, .no, .no, .no, .no] := rfl
  rw [env]
  have s0 : ([] : List (Str × D)).length < 100 := by decide
  have s1 : ∀ a : Str × D, [a].length < 100 := fun _ => by simp
  have s2 : ∀ a b : Str × D, [a, b].length < 100 := fun _ _ => by simp
  have pg1 : ∀ d, putG [] "content_count" d = [(("content_count" : Str), d)] := fun _ => rfl
  have pg2 : ∀ a d, putG [(("content_count" : Str), a)] "start_contents" d = [(("content_count" : Str), a), ("start_contents", d)] := fun a d => by
    show (if ("content_count" : Str) = "start_contents" then _ else _) = _
    rw [if_neg (by decide +kernel)]; rfl
  have pg3 : ∀ a b d, putG [(("content_count" : Str), a), ("start_contents", b)] "leads" d = [(("content_count" : Str), a), ("start_contents", b), ("leads", d)] := fun a b d => by
    show (if ("content_count" : Str) = "leads" then _ else _ :: (if ("start_contents" : Str) = "leads" then _ else _)) = _
    rw [if_neg (by decide +kernel), if_neg (by decide +kernel)]; rfl
  rw [seq_eq]
  simp only [dropS_eq, aE_eq, consA_eq, nilA_eq, getP_eq, gz_, gs_, rGet_ok, rC_ok, r1_ok, hc, rDrop_ok, rSeq_nx]
  rw [seq_eq]
  simp only [setfS_eq, getP_eq, gz_, gs_, rGet_ok, rSetf_ok, if_pos s0, pg1, rSeq_nx, sz_]
  -- the names, sorted
  have lcd : lcDE [8] (gnG 8) (getP 2) yesT (aE strF (consA (getP 8) nilA)) [.ow (.sel x "Store" [("content_count", .int (n : Int))]), .sh (.int (n : Int)), .sh (.dic 0 (namD names)), .sh (.lst (mvD ms)), .no, .no, .no, .no, .no] = .ok (.lst (txts (names.map (·.1)))) := by
    have hk : ((getP 2) [.ow (.sel x "Store" [("content_count", .int (n : Int))]), .sh (.int (n : Int)), .sh (.dic 0 (namD names)), .sh (.lst (mvD ms)), .no, .no, .no, .no, .no]).bind keysD = .ok (txts (names.map (·.1))) := by
      show Res.ok ((namD names).map (·.1)) = _
      unfold namD txts
      rw [List.map_map, List.map_map]; rfl
    unfold lcDE
    rw [hk]
    refine (lcE_map (mapS id) rfl (by rw [txts_len, List.length_map]; exact le_line (by omega)) fun d hd => ?_).trans (by rw [map_txts, List.map_id])
    obtain ⟨s, _, rfl⟩ := List.mem_map.mp hd
    refine ⟨_, rfl, ?_⟩
    simp_arith [wipeE, List.foldl_cons, List.foldl_nil]
    rfl
  have hso : sortedF [.lst (txts (names.map (·.1)))] = .ok (.lst (txts (sortT (names.map (·.1))))) := sorted_txts (by rw [List.length_map]; exact hnl)
  have dgo : ∀ (l : List Str) (acc : List (Str × Nat)), (∀ s ∈ l, (look1 names s).isSome = true) → acc.length + l.length ≤ 1000 → dcompL (gnG 8) (getP 8) (op2 getD (getP 2) (getP 8)) [.ow (.sel x "Store" [("content_count", .int (n : Int))]), .sh (.int (n : Int)), .sh (.dic 0 (namD names)), .sh (.lst (mvD ms)), .no, .no, .no, .no, .no] (txts l) (namD acc) = .ok (.dic 0 (namD (l.foldl (fun acc s => put1 acc s ((look1 names s).getD 0)) acc))) := fun l => by
    induction l with
    | nil => exact fun acc _ _ => rfl
    | cons s l ih =>
      intro acc h hlen
      rw [List.length_cons] at hlen
      obtain ⟨a, ha⟩ := Option.isSome_iff_exists.mp (h s (List.mem_cons_self ..))
      have gl : getD (.dic 0 (namD names)) (.str s) = .ok (.int (a : Int)) := getD_fit (fit_n s) (by rw [lookD_n, ha]; rfl)
      have hlt : (namD acc).length < sizeLine := by
        rw [namD_len]
        exact Nat.lt_of_lt_of_le (show acc.length < 1000000 by omega) (le_line (Nat.le_refl _))
      have ih := ih (put1 acc s a) (fun t ht => h t (List.mem_cons_of_mem _ ht)) (by have := put_len (l := acc) (key := s) (v := a); omega)
      show dcompL _ _ _ _ (.str s :: txts l) _ = _
      unfold dcompL
      simp only [gnG_eq, getP_eq, op2_eq, gz_, gs_, sz_, ss_, rGet_ok, r2_ok, gl, fit_n, hlt, and_self, if_true, setD_n]
      rw [List.foldl_cons, ha]
      exact ih
  have dce : dcE [8] (gnG 8) (iE (aE sortedF (consA (lcDE [8] (gnG 8) (getP 2) yesT (aE strF (consA (getP 8) nilA))) nilA))) (getP 8) (op2 getD (getP 2) (getP 8)) [.ow (.sel x "Store" [("content_count", .int (n : Int))]), .sh (.int (n : Int)), .sh (.dic 0 (namD names)), .sh (.lst (mvD ms)), .no, .no, .no, .no, .no] = .ok (.dic 0 (namD (sortN names))) := by
    unfold dcE
    rw [show (iE (aE sortedF (consA (lcDE [8] (gnG 8) (getP 2) yesT (aE strF (consA (getP 8) nilA))) nilA))) [.ow (.sel x "Store" [("content_count", .int (n : Int))]), .sh (.int (n : Int)), .sh (.dic 0 (namD names)), .sh (.lst (mvD ms)), .no, .no, .no, .no, .no] = .ok (txts (sortT (names.map (·.1)))) by simp_arith [lcd, hso]]
    refine dgo _ [] (fun s hs => ?_) ?_
    · cases q : look1 names s with
      | none => exact absurd ((sortT_perm _).mem_iff.mp hs) (look_none.mp q)
      | some a => rfl
    · rw [(sortT_perm _).length_eq, List.length_map, List.length_nil]; omega
  rw [seq_eq]
  simp only [setfS_eq, dce, gz_, rSetf_ok, if_pos (s1 _), pg2, rSeq_nx, sz_]
  rw [seq_eq]
  simp only [ownS_eq, cE_eq, rOwn_ok, rSeq_nx, sz_, ss_]
  rw [seq_eq]
  refine Sat.rseq ?_
  have go : ∀ (l : List Mv) (acc : List ((Nat × Str) × Nat)) (y z w : Sl), (∀ m ∈ l, m ∈ ms) → acc.length + 2 * l.length ≤ 100000 → Sat { nx := fun e => ∃ y z w, e = [.ow (.sel x "Store" [("content_count", .int (n : Int)), ("start_contents", .dic 0 (namD (sortN names)))]), .sh (.int (n : Int)), .sh (.dic 0 (namD names)), .sh (.lst (mvD ms)), .ow (.dic 1 (leaD (leadsF l acc))), y, z, w, .no] }
      (forL (tupG 3 (consG (gnG 5) (consG (gnG 6) (consG (gnG 7) nilG)))) (seqS (putS 4 (aE tupD (consA (getP 5) (consA (op2 addD (cE (.str "+")) (getP 6)) nilA))) (getP 7))
  (putS 4 (aE tupD (consA (getP 7) (consA (op2 addD (cE (.str "-")) (getP 6)) nilA))) (getP 5))) (mvD l) [.ow (.sel x "Store" [("content_count", .int (n : Int)), ("start_contents", .dic 0 (namD (sortN names)))]), .sh (.int (n : Int)), .sh (.dic 0 (namD names)), .sh (.lst (mvD ms)), .ow (.dic 1 (leaD acc)), y, z, w, .no]) := fun l => by
    induction l with
    | nil => exact fun acc y z w _ _ => ⟨y, z, w, rfl⟩
    | cons m l ih =>
      intro acc y z w h hlen
      rw [List.length_cons] at hlen
      obtain ⟨a, q, b⟩ := m
      obtain ⟨_, _, hq⟩ := hm.rng _ (h _ (List.mem_cons_self ..))
      have hq : q ∈ ps := hq
      obtain ⟨p1, p2⟩ := plus_ok hp hq
      have t2 : ∀ a b : D, tupD [a, b] = .ok (.tup [a, b]) := fun a b => tup_ok (le_line (show 2 ≤ 1000000 by decide))
      have a1 := put_len (l := acc) (key := (a, plusS q)) (v := b)
      have a2 := put_len (l := put1 acc (a, plusS q) b) (key := (b, minusS q)) (v := a)
      have l1 : (leaD acc).length < sizeLine := by
        rw [leaD_len]
        exact Nat.lt_of_lt_of_le (show acc.length < 1000000 by omega) (le_line (Nat.le_refl _))
      have l2 : (leaD (put1 acc (a, plusS q) b)).length < sizeLine := by
        rw [leaD_len]
        exact Nat.lt_of_lt_of_le (show (put1 acc (a, plusS q) b).length < 1000000 by omega) (le_line (Nat.le_refl _))
      have := ih (put1 (put1 acc (a, plusS q) b) (b, minusS q) a) (.sh (.int (a : Int))) (.sh (.str q)) (.sh (.int (b : Int))) (fun m hm => h m (List.mem_cons_of_mem _ hm)) (by omega)
      show Sat _ (flowL _ _)
      simp_arith [p1, p2, t2, leK_of, fit_l, l1, true_and, setD_l, l2]
      exact this
  unfold VL.forS
  simp_arith []
  refine (go ms [] .no .no .no (fun _ h => h) (by rw [List.length_nil]; omega)).mono (fun e h => ?_) (fun _ h => h.elim) (fun _ h => h.elim) (fun _ h => h.elim) (fun _ _ _ h => h.elim) (fun _ h => h.elim)
  obtain ⟨y, z, w, rfl⟩ := h
  rw [thn_nx]
  simp_arith [setfS_eq, rSetf_ok, if_pos (s2 _ _), pg3]
  show (if x = x then _ else _) = _
  rw [if_pos rfl]; rfl

end
section
theorem fldIE_eq {c f : Str} {φ : Env → Res D} {env : Env} : fldIE c f φ env = r1 (fldI c f) (φ env) := rfl
theorem ins_fld (n : Nat) (N : List (Str × Nat)) (L : List ((Nat × Str) × Nat)) : fldI "Store" "content_count" (insD n N L) = .ok (.int (n : Int)) ∧ fldI "Store" "start_contents" (insD n N L) = .ok (.dic 0 (namD N)) ∧ fldI "Store" "leads" (insD n N L) = .ok (.dic 1 (leaD L)) := by
  have a1 : (("start_contents" : Str) == "content_count") = false := by decide +kernel
  have a2 : (("leads" : Str) == "content_count") = false := by decide +kernel
  have a3 : (("leads" : Str) == "start_contents") = false := by decide +kernel
  refine ⟨?_, ?_, ?_⟩
  · unfold insD
    rw [fldI_ins, List.lookup_cons_self]
  · unfold insD
    rw [fldI_ins, List.lookup_cons, a1, List.lookup_cons_self]
  · unfold insD
    rw [fldI_ins, List.lookup_cons, a2, List.lookup_cons, a3, List.lookup_cons_self]
theorem ins_meth (n : Nat) (N : List (Str × Nat)) (L : List ((Nat × Str) × Nat)) (m : Str) (h1 : (m == ("content_count" : Str)) = false) (h2 : (m == ("start_contents" : Str)) = false) (h3 : (m == ("leads" : Str)) = false) : isIns "Store" m (insD n N L) = true := by
  show (decide (("Store" : Str) = "Store") && (List.lookup m [(("content_count" : Str), D.int (n : Int)), ("start_contents", .dic 0 (namD N)), ("leads", .dic 1 (leaD L))]).isNone) = true
  rw [List.lookup_cons, h1, List.lookup_cons, h2, List.lookup_cons, h3, decide_eq_true rfl]; rfl

end
section
theorem methE_ok {c m : Str} {F : List D → Res D} {φ : Env → Res D} {φs : Env → Res (List D)} {env : Env} {d : D} {ds : List D} (h1 : φ env = .ok d) (h2 : isIns c m d = true) (h3 : φs env = .ok ds) : methE c m F φ φs env = F (d :: ds) := by
  unfold methE
  rw [h1]
  show (if isIns c m d = true then (φs env).bind fun ds => F (d :: ds) else .bad) = _
  rw [if_pos h2, h3]; rfl
theorem walk_congr {l l' : List ((Nat × Str) × Nat)} (h : ∀ k, look1 l k = look1 l' k) : ∀ (r : List Str) (a : Option Nat), walkF l a r = walkF l' a r
  | [], _ => rfl
  | t :: r, a => by
    show walkF l (a.bind fun x => look1 l (x, t)) r = walkF l' (a.bind fun x => look1 l' (x, t)) r
    have : (fun x => look1 l (x, t)) = fun x => look1 l' (x, t) := by funext x; exact h (x, t)
    rw [this]
    exact walk_congr h r _
end
section
theorem check_starts_ok (n : Nat) (N : List (Str × Nat)) (L : List ((Nat × Str) × Nat)) (s : Str) (t : List Str) (h : (look1 N s).isSome = true) : m_Store_check_starts [insD n N L, .lst [.tup (txts (s :: t))]] = .ok .non := by
  refine m_non ?_
  unfold b_Store_check_starts
  obtain ⟨_, f2, _⟩ := ins_fld n N L
  have g0 : seqGet (txts (s :: t)) 0 = .ok (.str s) := @txts_get (s :: t) 0 s rfl
  have nz : notInZ (.str s) (.dic 0 (namD N)) = .ok (.bl false) := by
    refine (notInZ_fit (fit_n s)).trans ?_
    rw [lookD_n, Option.isSome_map, h]; rfl
  generalize insD n N L = I at f2
  refine Sat.forS0 (fun env => ∃ x, env = [.sh I, .sh (.lst [.tup (txts (s :: t))]), x]) (ds := [.tup (txts (s :: t))]) rfl ⟨_, rfl⟩ ?_ ?_
  · rintro d hd env ⟨x, rfl⟩
    rw [List.mem_singleton.mp hd]
    refine ⟨_, rfl, ?_⟩
    simp_arith [fldIE_eq, f2, g0, nz]
    exact ⟨_, rfl⟩
  · rintro env ⟨x, rfl⟩
    trivial
theorem store_end_ok (n : Nat) (N : List (Str × Nat)) (L : List ((Nat × Str) × Nat)) (r : List Str) (hR : RunL r) (hc : m_check_run [.tup (txts r)] = .ok .non) (hr : ∃ s t, r = s :: t ∧ (look1 N s).isSome = true) : m_Store_end [insD n N L, .tup (txts r)] = .ok (oD (endF ⟨n, N, L⟩ r)) := by
  obtain ⟨s, t, rfl, hs⟩ := hr
  refine m_ok ?_
  unfold b_Store_end
  obtain ⟨a, ha⟩ := Option.isSome_iff_exists.mp hs
  have g0 : seqGet (txts (s :: t)) 0 = .ok (.str s) := @txts_get (s :: t) 0 s rfl
  have ee : endF ⟨n, N, L⟩ (s :: t) = walkF L (some a) t := by
    show walkF L (look1 N s) t = _
    rw [ha]
  rw [ee]
  obtain ⟨_, f2, f3⟩ := ins_fld n N L
  have cs := check_starts_ok n N L s t hs
  have im := ins_meth n N L "check_starts" (by decide +kernel) (by decide +kernel) (by decide +kernel)
  have gN : getD (.dic 0 (namD N)) (.str s) = .ok (.int (a : Int)) := getNm (S := ⟨n, N, L⟩) ha
  generalize insD n N L = I at f2 f3 cs im
  have env : env0 4 [I, .tup (txts (s :: t))] = [.sh I, .sh (.tup (txts (s :: t))), .no, .no] := rfl
  have l1 : lstD [.tup (txts (s :: t))] = .ok (.lst [.tup (txts (s :: t))]) := lst_ok (le_line (show 1 ≤ 1000000 by decide))
  have ms : methE "Store" "check_starts" m_Store_check_starts (getP 0) (consA (aE lstD (consA (getP 1) nilA)) nilA) [.sh I, .sh (.tup (txts (s :: t))), .no, .no] = .ok .non := by
    rw [methE_ok (d := I) (ds := [.lst [.tup (txts (s :: t))]]) rfl im (by simp_arith [l1])]
    exact cs
  rw [env, seq_eq]
  simp only [dropS_eq, aE_eq, consA_eq, nilA_eq, getP_eq, gz_, gs_, rGet_ok, rC_ok, r1_ok, hc, rDrop_ok, rSeq_nx]
  rw [seq_eq]
  simp only [dropS_eq, ms, rDrop_ok, rSeq_nx]
  rw [seq_eq]
  simp only [setS_eq, op2_eq, fldIE_eq, getP_eq, cE_eq, gz_, gs_, rGet_ok, r1_ok, r2_ok, f2, get_tup, g0, gN, rSet_ok, rSeq_nx, sz_, ss_]
  rw [seq_eq]
  refine Sat.rseq ?_
  unfold VL.forS
  simp_arith []
  rw [show (1 : Int) = ((1 : Nat) : Int) from rfl, cutD_from]
  show Sat _ (forL _ _ ((txts (s :: t)).drop 1) _)
  have ed : (txts (s :: t)).drop 1 = txts t := rfl
  rw [ed]
  have go : ∀ (m : List Str) (b : Nat) (x : Sl), walkF L (some a) t = walkF L (some b) m → Sat { nx := fun e => Sat { rt := fun x => x = oD (walkF L (some a) t) } (retS (getP 2) e), rt := fun x => x = oD (walkF L (some a) t) }
      (forL (gnG 3) (seqS (ifS (tE (op2 notInZ (aE tupD (consA (getP 2) (consA (getP 3) nilA))) (fldIE "Store" "leads" (getP 0)))) (retS (cE .non)) nxS) (setS 2 (op2 getD (fldIE "Store" "leads" (getP 0)) (aE tupD (consA (getP 2) (consA (getP 3) nilA)))))) (txts m) [.sh I, .sh (.tup (txts (s :: t))), .sh (.int (b : Int)), x]) := by
    intro m
    induction m with
    | nil =>
      intro b x h
      change Sat _ (SRes.nx _)
      simp_arith []
      rw [h]; rfl
    | cons u m ih =>
      intro b x h
      show Sat _ (flowL _ _)
      have t2 : ∀ a b : D, tupD [a, b] = .ok (.tup [a, b]) := fun a b => tup_ok (le_line (show 2 ≤ 1000000 by decide))
      have nz := notInZ_o L b u
      cases q : look1 L (b, u) with
      | none =>
        rw [q] at nz
        have e0 : walkF L (some a) t = none := by
          rw [h]
          show walkF L (look1 L (b, u)) m = none
          rw [q, walk_none]
        have nz' : notInZ (.tup [.int (b : Int), .str u]) (.dic 1 (leaD L)) = .ok (.bl true) := nz
        simp_arith [fldIE_eq, f3, t2, nz']
        show D.non = _
        rw [e0]; rfl
      | some c =>
        rw [q] at nz
        have nz' : notInZ (.tup [.int (b : Int), .str u]) (.dic 1 (leaD L)) = .ok (.bl false) := nz
        have gl : getD (.dic 1 (leaD L)) (.tup [.int (b : Int), .str u]) = .ok (.int (c : Int)) := getL (S := ⟨n, N, L⟩) q
        have := ih c (.sh (.str u)) (by
          rw [h]
          show walkF L (look1 L (b, u)) m = _
          rw [q])
        simp_arith [fldIE_eq, f3, t2, nz', gl]
        exact this
  exact (go t a .no rfl).mono (fun e h => h) (fun _ h => h) (fun _ h => h) (fun _ h => h) (fun _ _ _ h => h) (fun _ h => h)

end
section
def unF (N : List (Str × Nat)) (_ : Unit) (r : List Str) : Unit ⊕ Res D := match r with
  | s :: _ => if (look1 N s).isSome = true then .inl () else .inr (.exc "UnknownStart" [(("name" : Str), .str s)])
  | [] => .inl ()
def outU : Unit ⊕ Res D → Res D
  | .inl _ => .ok .non
  | .inr o => o
theorem check_starts_gen (n : Nat) (N : List (Str × Nat)) (L : List ((Nat × Str) × Nat)) (rs : List (List Str)) (h : ∀ r ∈ rs, r ≠ []) : m_Store_check_starts [insD n N L, .lst (rs.map fun r => .tup (txts r))] = outU (runL (unF N) () rs) := by
  refine m_out ?_
  unfold b_Store_check_starts
  obtain ⟨_, f2, _⟩ := ins_fld n N L
  generalize insD n N L = I at f2
  refine Sat.run rs (fun r => .tup (txts r)) (unF N) (fun _ env => ∃ x y, env = [.sh I, x, y]) () rfl ⟨_, _, rfl⟩ ?_ ?_
  · rintro _ r env hr ⟨x, y, rfl⟩
    refine ⟨_, rfl, ?_⟩
    obtain ⟨s, t, rfl⟩ := List.exists_cons_of_ne_nil (h r hr)
    have g0 : seqGet (txts (s :: t)) 0 = .ok (.str s) := @txts_get (s :: t) 0 s rfl
    have nz := notInZ_n N s
    have eu : unF N () (s :: t) = if (look1 N s).isSome = true then .inl () else .inr (.exc "UnknownStart" [(("name" : Str), .str s)]) := rfl
    rw [eu]
    cases q : (look1 N s).isSome with
    | true =>
      rw [q] at nz
      rw [if_pos rfl]
      simp_all_arith [f2, g0, nz]
      exact ⟨_, _, rfl⟩
    | false =>
      rw [q] at nz
      rw [if_neg Bool.false_ne_true]
      simp_all_arith [f2, g0, nz]
      exact ⟨rfl, rfl⟩
  · cases runL (unF N) () rs with
    | inl u => exact fun env _ => rfl
    | inr o => cases o with
      | ok d => rfl
      | exc c fs => exact fun _ => ⟨rfl, rfl⟩
      | bad => trivial

end
section
theorem consGG_nx {χ ρ : Env → List D → GRes} {env e : Env} {out o : List D} (h : χ env out = .nx e o) : consGG χ ρ env out = ρ e o := by
  unfold consGG
  rw [h]
theorem consGG_rt {χ ρ : Env → List D → GRes} {env : Env} {out o : List D} (h : χ env out = .rt o) : consGG χ ρ env out = .rt o := by
  unfold consGG
  rw [h]
theorem forG_at {γ : D → Env → Option Env} {ι : Env → Res (List D)} {χ : Env → List D → GRes} {env : Env} {out ds : List D} (h : ι env = .ok ds) : forG γ ι χ env out = forGL γ χ ds env out := by
  unfold forG
  rw [h]

end
section
def trailF (l : List ((Nat × Str) × Nat)) : Nat → List Str → List Nat
  | a, [] => [a]
  | a, u :: r => a :: match look1 l (a, u) with
    | some b => trailF l b r
    | none => []
def natsD (l : List Nat) : List D := l.map fun (n : Nat) => D.int (n : Int)
theorem natsD_len (l : List Nat) : (natsD l).length = l.length := List.length_map ..
theorem natsD_app (l m : List Nat) : natsD (l ++ m) = natsD l ++ natsD m := List.map_append
theorem trail_len (l : List ((Nat × Str) × Nat)) : ∀ (r : List Str) (a : Nat), 1 ≤ (trailF l a r).length ∧ (trailF l a r).length ≤ r.length + 1
  | [], a => ⟨Nat.le_refl _, Nat.le_refl _⟩
  | u :: r, a => by
    unfold trailF
    rw [List.length_cons, List.length_cons]
    cases q : look1 l (a, u) with
    | none => exact ⟨Nat.le_add_left .., by simp⟩
    | some b =>
      have := (trail_len l r b).2
      exact ⟨Nat.le_add_left .., by show (trailF l b r).length + 1 ≤ _; omega⟩
theorem trail_congr {l l' : List ((Nat × Str) × Nat)} (h : ∀ k, look1 l k = look1 l' k) : ∀ (r : List Str) (a : Nat), trailF l a r = trailF l' a r
  | [], _ => rfl
  | u :: r, a => by
    unfold trailF
    rw [h (a, u)]
    cases look1 l' (a, u) with
    | none => rfl
    | some b => exact congrArg (a :: ·) (trail_congr h r b)
theorem trail_end (l : List ((Nat × Str) × Nat)) : ∀ (r : List Str) (a : Nat), walkF l (some a) r = if (trailF l a r).length = r.length + 1 then (trailF l a r).getLast? else none
  | [], a => rfl
  | u :: r, a => by
    show walkF l (look1 l (a, u)) r = _
    unfold trailF
    cases q : look1 l (a, u) with
    | none =>
      rw [walk_none, if_neg (by simp)]
    | some b =>
      rw [trail_end l r b]
      show _ = if (a :: trailF l b r).length = (u :: r).length + 1 then (a :: trailF l b r).getLast? else none
      rw [List.length_cons, List.length_cons]
      have h1 := (trail_len l r b).1
      by_cases e : (trailF l b r).length = r.length + 1
      · rw [if_pos e, if_pos (by omega)]
        cases z : trailF l b r with
        | nil => rw [z] at h1; simp at h1
        | cons c t => rw [List.getLast?_cons_cons]
      · rw [if_neg e, if_neg (by omega)]
theorem walk_loop (n : Nat) (N : List (Str × Nat)) (L : List ((Nat × Str) × Nat)) (R : D) : ∀ (m : List Str) (b : Nat) (x : Sl) (out : List D), out.length + m.length ≤ 10000 →
    ∃ r, forGL (gnG 3) (consGG (ifRetG (tE (op2 notInZ (aE tupD (consA (getP 2) (consA (getP 3) nilA))) (fldIE "Store" "leads" (getP 0)))))
  (consGG (liftG (setS 2 (op2 getD (fldIE "Store" "leads" (getP 0)) (aE tupD (consA (getP 2) (consA (getP 3) nilA))))))
  (consGG (yldG (getP 2))
  nilGG))) (txts m) [.sh (insD n N L), .sh R, .sh (.int (b : Int)), x] (out ++ [.int (b : Int)]) = r ∧ outG r = .ok (.lst (out ++ natsD (trailF L b m))) ∧ (∀ e o, r = .nx e o → nilGG e o = r) ∧ (∀ e o, r ≠ .bk e o ∧ r ≠ .ct e o)
  | [], b, x, out, _ => ⟨_, rfl, rfl, fun e o h => h.symm, fun e o => ⟨(fun h => by cases h), (fun h => by cases h)⟩⟩
  | u :: m, b, x, out, h => by
    rw [List.length_cons] at h
    obtain ⟨_, _, f3⟩ := ins_fld n N L
    have t2 : ∀ a b : D, tupD [a, b] = .ok (.tup [a, b]) := fun a b => tup_ok (le_line (show 2 ≤ 1000000 by decide))
    have nz : notInZ (.tup [.int (b : Int), .str u]) (.dic 1 (leaD L)) = .ok (.bl (!(look1 L (b, u)).isSome)) := notInZ_o L b u
    have g1 : gnG 3 (.str u) [.sh (insD n N L), .sh R, .sh (.int (b : Int)), x] = some [.sh (insD n N L), .sh R, .sh (.int (b : Int)), .sh (.str u)] := rfl
    rw [show txts (u :: m) = .str u :: txts m from rfl]
    unfold forGL
    rw [g1]
    show ∃ r, flowG _ _ = r ∧ _
    cases q : look1 L (b, u) with
    | none =>
      rw [q] at nz
      have e1 : tE (op2 notInZ (aE tupD (consA (getP 2) (consA (getP 3) nilA))) (fldIE "Store" "leads" (getP 0))) [.sh (insD n N L), .sh R, .sh (.int (b : Int)), .sh (.str u)] = .ok true := by
        generalize insD n N L = I at *
        simp_arith [fldIE_eq, f3, t2, nz]
        rfl
      rw [consGG_rt (by unfold ifRetG; rw [e1])]
      refine ⟨_, rfl, ?_, (fun e o h => by cases h), fun e o => ⟨(fun h => by cases h), (fun h => by cases h)⟩⟩
      show Res.ok (D.lst (out ++ [D.int (b : Int)])) = _
      rw [show trailF L b (u :: m) = b :: (match look1 L (b, u) with | some b => trailF L b m | none => []) from rfl, q]
      rfl
    | some c =>
      rw [q] at nz
      have gl : getD (.dic 1 (leaD L)) (.tup [.int (b : Int), .str u]) = .ok (.int (c : Int)) := getL (S := ⟨n, N, L⟩) q
      have e1 : tE (op2 notInZ (aE tupD (consA (getP 2) (consA (getP 3) nilA))) (fldIE "Store" "leads" (getP 0))) [.sh (insD n N L), .sh R, .sh (.int (b : Int)), .sh (.str u)] = .ok false := by
        generalize insD n N L = I at *
        simp_arith [fldIE_eq, f3, t2, nz]
        rfl
      have e2 : liftG (setS 2 (op2 getD (fldIE "Store" "leads" (getP 0)) (aE tupD (consA (getP 2) (consA (getP 3) nilA))))) [.sh (insD n N L), .sh R, .sh (.int (b : Int)), .sh (.str u)] (out ++ [.int (b : Int)]) = .nx [.sh (insD n N L), .sh R, .sh (.int (c : Int)), .sh (.str u)] (out ++ [.int (b : Int)]) := by
        unfold liftG
        generalize insD n N L = I at *
        simp_arith [fldIE_eq, f3, t2, gl]
      have e3 : yldG (getP 2) [.sh (insD n N L), .sh R, .sh (.int (c : Int)), .sh (.str u)] (out ++ [.int (b : Int)]) = .nx [.sh (insD n N L), .sh R, .sh (.int (c : Int)), .sh (.str u)] ((out ++ [.int (b : Int)]) ++ [.int (c : Int)]) := by
        show (if (out ++ [D.int (b : Int)]).length < sizeLine then GRes.nx _ ((out ++ [D.int (b : Int)]) ++ [D.int (c : Int)]) else .bad) = _
        rw [if_pos (Nat.lt_of_lt_of_le (show (out ++ [D.int (b : Int)]).length < 10001 by rw [List.length_append, List.length_singleton]; omega) (le_line (by decide)))]
      rw [consGG_nx (show ifRetG _ _ _ = .nx _ _ by unfold ifRetG; rw [e1]), consGG_nx e2, consGG_nx e3]
      obtain ⟨r, h1, h2, h3, h4⟩ := walk_loop n N L R m c (.sh (.str u)) (out ++ [.int (b : Int)]) (by rw [List.length_append, List.length_singleton]; omega)
      refine ⟨r, h1, ?_, h3, h4⟩
      rw [h2, show trailF L b (u :: m) = b :: (match look1 L (b, u) with | some b => trailF L b m | none => []) from rfl, q, List.append_assoc]
      rfl
theorem store_walk_ok (n : Nat) (N : List (Str × Nat)) (L : List ((Nat × Str) × Nat)) {s : Str} {t : List Str} {a : Nat} (ha : look1 N s = some a) (hl : t.length ≤ 5000) : m_Store_walk [insD n N L, .tup (txts (s :: t))] = .ok (.lst (natsD (trailF L a t))) := by
  unfold m_Store_walk genM b_Store_walk
  have g0 : seqGet (txts (s :: t)) 0 = .ok (.str s) := @txts_get (s :: t) 0 s rfl
  have gN : getD (.dic 0 (namD N)) (.str s) = .ok (.int (a : Int)) := getNm (S := ⟨n, N, L⟩) ha
  have e1 : liftG (setS 2 (op2 getD (fldIE "Store" "start_contents" (getP 0)) (op2 getD (getP 1) (cE (.int 0))))) (env0 4 [insD n N L, .tup (txts (s :: t))]) [] = .nx [.sh (insD n N L), .sh (.tup (txts (s :: t))), .sh (.int (a : Int)), .no] [] := by
    obtain ⟨_, f2, _⟩ := ins_fld n N L
    unfold liftG
    generalize insD n N L = I at *
    simp_arith [fldIE_eq, f2, g0, gN]
  have e2 : yldG (getP 2) [.sh (insD n N L), .sh (.tup (txts (s :: t))), .sh (.int (a : Int)), .no] [] = .nx [.sh (insD n N L), .sh (.tup (txts (s :: t))), .sh (.int (a : Int)), .no] [.int (a : Int)] := by
    show (if 0 < sizeLine then GRes.nx _ [D.int (a : Int)] else .bad) = _
    rw [if_pos (by decide)]
  have e3 : iE (slE (getP 1) (someO (cE (.int 1))) noO) [.sh (insD n N L), .sh (.tup (txts (s :: t))), .sh (.int (a : Int)), .no] = .ok (txts t) := by
    generalize insD n N L = I at *
    simp_arith []
    rw [show (1 : Int) = ((1 : Nat) : Int) from rfl, cutD_from]
    rfl
  obtain ⟨r, h1, h2, h3, h4⟩ := walk_loop n N L (.tup (txts (s :: t))) t a .no [] (by simp; omega)
  rw [List.nil_append] at h1 h2
  rw [consGG_nx e1, consGG_nx e2]
  have h5 := (forG_at e3).trans h1
  unfold consGG
  unfold consGG at h5
  rw [h5]
  cases r with
  | nx e o => exact h2
  | rt o => exact h2
  | bk e o => exact ((h4 e o).1 rfl).elim
  | ct e o => exact ((h4 e o).2 rfl).elim
  | bad => cases h2

end
section
theorem seqGet_end (ds : List D) (d : D) : seqGet (ds ++ [d]) (-1) = .ok d := by
  unfold seqGet atI
  have : ixN (ds ++ [d]).length (-1) = some ds.length := by
    unfold ixN
    rw [if_neg (by decide), if_pos (by simp; omega)]
    simp
    omega
  rw [this]
  show (match (ds ++ [d])[ds.length]? with | some c => Res.ok c | none => .bad) = _
  rw [List.getElem?_append_right (Nat.le_refl _), Nat.sub_self]
  rfl
theorem law_trail_ok (S : Sto) {s : Str} {t : List Str} {a : Nat} (ha : look1 S.names s = some a) (hl : t.length ≤ 5000) : m__law_trail [stoD S, .tup (txts (s :: t))] = .ok (.lst (natsD (trailF S.leads a t))) := by
  refine m_ok ?_
  unfold b__law_trail
  have g0 : seqGet (txts (s :: t)) 0 = .ok (.str s) := @txts_get (s :: t) 0 s rfl
  have gN := getNm ha
  have g1 := getS1 S
  have g2 := getS2 S
  have gL := fun (b : Nat) (u : Str) (c : Nat) (h : look1 S.leads (b, u) = some c) => (getL h : getD (.dic 1 (leaD S.leads)) (.tup [.int (b : Int), .str u]) = .ok (.int (c : Int)))
  have nZ := fun (b : Nat) (u : Str) => (notInZ_o S.leads b u : notInZ (.tup [.int (b : Int), .str u]) (.dic 1 (leaD S.leads)) = .ok (.bl (!(look1 S.leads (b, u)).isSome)))
  generalize hSD : stoD S = SD at *
  generalize hLD : leaD S.leads = LD at *
  generalize hND : namD S.names = ND at *
  have l1 : lstD [.int (a : Int)] = .ok (.lst [.int (a : Int)]) := lst_ok (le_line (show 1 ≤ 1000000 by decide))
  have t2 : ∀ a b : D, tupD [a, b] = .ok (.tup [a, b]) := fun a b => tup_ok (le_line (show 2 ≤ 1000000 by decide))
  rw [seq_eq]
  simp_arith [ownS_eq, rOwn_ok, g0, gN, g1, l1]
  refine Sat.rseq ?_
  unfold VL.forS
  simp_arith []
  rw [show (1 : Int) = ((1 : Nat) : Int) from rfl, cutD_from]
  show Sat _ (forL _ _ ((txts (s :: t)).drop 1) _)
  have ed : (txts (s :: t)).drop 1 = txts t := rfl
  rw [ed]
  have go : ∀ (m : List Str) (pre : List Nat) (b : Nat) (x : Sl) (P : Post), pre.length + m.length ≤ 5000 → (∀ x' : Sl, P.nx [.sh SD, .sh (.tup (txts (s :: t))), .ow (.lst (natsD (pre ++ trailF S.leads b m))), x']) → P.rt (.lst (natsD (pre ++ trailF S.leads b m))) → Sat P
      (forL (gnG 3) (seqS (ifS (tE (op2 notInZ (aE tupD (consA (op2 getD (getB 2) (negE (cE (.int 1)))) (consA (getP 3) nilA))) (op2 getD (getP 0) (cE (.int 2))))) (giveS 2 (retS (getP 2))) nxS)
  (appS 2 (op2 getD (op2 getD (getP 0) (cE (.int 2))) (aE tupD (consA (op2 getD (getB 2) (negE (cE (.int 1)))) (consA (getP 3) nilA)))))) (txts m) [.sh SD, .sh (.tup (txts (s :: t))), .ow (.lst (natsD (pre ++ [b]))), x]) := by
    intro m
    induction m with
    | nil =>
      intro pre b x P h hn hr
      change Sat P (SRes.nx _)
      exact hn x
    | cons u m ih =>
      intro pre b x P h hn hr
      rw [List.length_cons] at h
      show Sat _ (flowL _ _)
      have nz := nZ b u
      have eg : seqGet (natsD (pre ++ [b])) (-1) = .ok (.int (b : Int)) := by
        rw [natsD_app]
        exact seqGet_end _ _
      have eu : trailF S.leads b (u :: m) = b :: match look1 S.leads (b, u) with | some c => trailF S.leads c m | none => [] := rfl
      cases q : look1 S.leads (b, u) with
      | none =>
        rw [q] at nz eu
        rw [eu] at hn hr
        have nz' : notInZ (.tup [.int (b : Int), .str u]) (.dic 1 LD) = .ok (.bl true) := nz
        simp_arith [g2, neg_int, eg, t2, nz']
        exact hr
      | some c =>
        rw [q] at nz eu
        have nz' : notInZ (.tup [.int (b : Int), .str u]) (.dic 1 LD) = .ok (.bl false) := nz
        have gl : getD (.dic 1 LD) (.tup [.int (b : Int), .str u]) = .ok (.int (c : Int)) := gL b u c q
        have hlt : (natsD (pre ++ [b])).length < sizeLine := Nat.lt_of_lt_of_le (show (natsD (pre ++ [b])).length < 10000 by rw [natsD_len, List.length_append, List.length_singleton]; omega) (le_line (by decide))
        have e3 : pre ++ trailF S.leads b (u :: m) = (pre ++ [b]) ++ trailF S.leads c m := by
          rw [eu, List.append_assoc]
          rfl
        rw [e3] at hn hr
        have fin := ih (pre ++ [b]) c (.sh (.str u)) P (by rw [List.length_append, List.length_singleton]; omega) hn hr
        rw [natsD_app (pre ++ [b]) [c]] at fin
        simp_arith [g2, neg_int, eg, t2, nz', gl, if_pos hlt]
        exact fin
  have fin := fun P => go t [] a .no P (by simpa using hl)
  rw [List.nil_append, List.nil_append] at fin
  refine fin _ (fun x' => ?_) ?_
  · simp_arith []
  · rfl

end
section
theorem run_chk {l : List Str} (h : RunL l) : m_check_run [.tup (txts l)] = .ok .non := by
  rw [check_run_gen l (fun s hs => Nat.le_trans (runL_item h s hs).1.2 (by decide)), if_pos (runB_iff.mpr h)]
theorem store_end_bad (n : Nat) (N : List (Str × Nat)) (L : List ((Nat × Str) × Nat)) (l : List Str) (hl : ∀ s ∈ l, s.length ≤ 1000000) (h : runB l = false) : m_Store_end [insD n N L, .tup (txts l)] = .exc "BadRun" [(("run" : Str), D.tup (txts l))] := by
  refine m_out ?_
  unfold b_Store_end
  have hc := check_run_gen l hl
  rw [h, if_neg Bool.false_ne_true] at hc
  generalize insD n N L = I at *
  simp_all_arith [hc]
  exact ⟨rfl, rfl⟩
theorem store_end_un (n : Nat) (N : List (Str × Nat)) (L : List ((Nat × Str) × Nat)) {s : Str} {t : List Str} (hR : RunL (s :: t)) (hs : look1 N s = none) : m_Store_end [insD n N L, .tup (txts (s :: t))] = .exc "UnknownStart" [(("name" : Str), .str s)] := by
  refine m_out ?_
  unfold b_Store_end
  have hc := run_chk hR
  have cs := check_starts_gen n N L [s :: t] (fun r hr => by rw [List.mem_singleton.mp hr]; exact fun e => by cases e)
  have eu : runL (unF N) () [s :: t] = .inr (.exc "UnknownStart" [(("name" : Str), .str s)]) := by
    have e1 : unF N () (s :: t) = if (look1 N s).isSome = true then .inl () else .inr (.exc "UnknownStart" [(("name" : Str), .str s)]) := rfl
    rw [runL, e1, hs, if_neg (by decide)]
  rw [eu] at cs
  have cs' : m_Store_check_starts [insD n N L, .lst [.tup (txts (s :: t))]] = .exc "UnknownStart" [(("name" : Str), .str s)] := cs
  have im := ins_meth n N L "check_starts" (by decide +kernel) (by decide +kernel) (by decide +kernel)
  have l1 : lstD [.tup (txts (s :: t))] = .ok (.lst [.tup (txts (s :: t))]) := lst_ok (le_line (show 1 ≤ 1000000 by decide))
  generalize insD n N L = I at *
  generalize txts (s :: t) = R at *
  simp_all_arith [hc, l1, im, cs']
  exact ⟨rfl, rfl⟩
theorem inZ_n (N : List (Str × Nat)) (s : Str) : inZ (.str s) (.dic 0 (namD N)) = .ok (.bl (look1 N s).isSome) := by
  refine (inZ_fit (fit_n s)).trans ?_
  rw [lookD_n, Option.isSome_map]
theorem contains_bad (n : Nat) (N : List (Str × Nat)) (L : List ((Nat × Str) × Nat)) (l : List Str) (hl : ∀ s ∈ l, s.length ≤ 1000000) (h : runB l = false) : m_Store___contains__ [insD n N L, .tup (txts l)] = .exc "BadRun" [(("run" : Str), D.tup (txts l))] := by
  refine m_out ?_
  unfold b_Store___contains__
  have hc := check_run_gen l hl
  rw [h, if_neg Bool.false_ne_true] at hc
  generalize insD n N L = I at *
  simp_all_arith [hc]
  exact ⟨rfl, rfl⟩
theorem contains_un (n : Nat) (N : List (Str × Nat)) (L : List ((Nat × Str) × Nat)) {s : Str} {t : List Str} (hR : RunL (s :: t)) (hs : look1 N s = none) : m_Store___contains__ [insD n N L, .tup (txts (s :: t))] = .ok (.bl false) := by
  refine m_ok ?_
  unfold b_Store___contains__
  have hc := run_chk hR
  have g0 : seqGet (txts (s :: t)) 0 = .ok (.str s) := @txts_get (s :: t) 0 s rfl
  have iz := inZ_n N s
  rw [hs] at iz
  have iz' : inZ (.str s) (.dic 0 (namD N)) = .ok (.bl false) := iz
  obtain ⟨_, f2, _⟩ := ins_fld n N L
  generalize insD n N L = I at *
  generalize txts (s :: t) = R at *
  simp_all_arith [hc, f2, g0, iz']
theorem contains_ok (n : Nat) (N : List (Str × Nat)) (L : List ((Nat × Str) × Nat)) {s : Str} {t : List Str} (hR : RunL (s :: t)) (hs : (look1 N s).isSome = true) : m_Store___contains__ [insD n N L, .tup (txts (s :: t))] = .ok (.bl (endF ⟨n, N, L⟩ (s :: t)).isSome) := by
  refine m_ok ?_
  unfold b_Store___contains__
  have hc := run_chk hR
  have g0 : seqGet (txts (s :: t)) 0 = .ok (.str s) := @txts_get (s :: t) 0 s rfl
  have iz := inZ_n N s
  rw [hs] at iz
  have he := store_end_ok n N L (s :: t) hR hc ⟨s, t, rfl, hs⟩
  have im := ins_meth n N L "end" (by decide +kernel) (by decide +kernel) (by decide +kernel)
  obtain ⟨_, f2, _⟩ := ins_fld n N L
  generalize endF ⟨n, N, L⟩ (s :: t) = e at *
  generalize insD n N L = I at *
  generalize txts (s :: t) = R at *
  simp_all_arith [hc, f2, g0, iz, im, he, notN_eq]
  cases e <;> rfl
theorem own_in (n : Nat) (N : List (Str × Nat)) (L : List ((Nat × Str) × Nat)) {neg : Bool} {F : List D → Res D} {φa φb : Env → Res D} {env : Env} {d : D} (ha : φa env = .ok d) (hb : φb env = .ok (insD n N L)) : ownInE "Store" neg F φa φb env = neqR neg (F [insD n N L, d]) := by
  unfold ownInE
  rw [ha]
  show ((φb env).bind fun e => if isInsC "Store" e = true then neqR neg (F [e, d]) else .bad) = _
  rw [hb]
  show (if isInsC "Store" (insD n N L) = true then neqR neg (F [insD n N L, d]) else .bad) = _
  exact if_pos (show decide (("Store" : Str) = "Store") = true from decide_eq_true rfl)

end
section
theorem isX_at {c : Str} {fs : List (Str × D)} (tbl : List (Str × Bool)) (b : Bool) (e : tbl.lookup c = some b) : isX tbl (.exn c fs) = .ok (.bl b) := by
  rw [isX_exn, e]
theorem refused_start12 (s : Str) (hs : okS s = true) : m__law_refused_start [.exn "UnknownStart" [(("name" : Str), D.str s)], .str s] = .ok (.bl true) := by
  refine m_ok ?_
  unfold b__law_refused_start
  have it : isT "str" (.str s) = .ok (.bl true) := rfl
  have h2 : fldX [("UnknownStart" : Str)] "name" (.exn "UnknownStart" [(("name" : Str), D.str s)]) = .ok (D.str s) := by
    rw [fldX_exn, List.lookup_cons_self, if_pos (by simp)]
  have eq := eqO_str hs hs
  have h1 : ∀ (tbl : List (Str × Bool)) (b : Bool), tbl.lookup ("UnknownStart" : Str) = some b → isX tbl (.exn "UnknownStart" [(("name" : Str), D.str s)]) = .ok (.bl b) := fun tbl b e => isX_at tbl b e
  simp_all_arith [h1 [(("BadStore" : Str), true), ("BadRun", true), ("UnknownStart", true)] true (by decide +kernel), h1 [(("BadStore" : Str), true), ("BadRun", true), ("UnknownStart", false)] false (by decide +kernel), h2, it, eq, decide_true]
theorem refused_run12 (l : List Str) (hl : ∀ s ∈ l, okS s = true) : m__law_refused_run [.exn "BadRun" [(("run" : Str), D.tup (txts l))], .tup (txts l)] = .ok (.bl true) := by
  refine m_ok ?_
  unfold b__law_refused_run
  have it : isT "tuple" (.tup (txts l)) = .ok (.bl true) := rfl
  have h2 : fldX [("BadRun" : Str)] "run" (.exn "BadRun" [(("run" : Str), D.tup (txts l))]) = .ok (D.tup (txts l)) := by
    rw [fldX_exn, List.lookup_cons_self, if_pos (by simp)]
  have eq := eqO_txts hl hl
  have h1 : ∀ (tbl : List (Str × Bool)) (b : Bool), tbl.lookup ("BadRun" : Str) = some b → isX tbl (.exn "BadRun" [(("run" : Str), D.tup (txts l))]) = .ok (.bl b) := fun tbl b e => isX_at tbl b e
  generalize D.tup (txts l) = R at *
  simp_all_arith [h1 [(("BadStore" : Str), true), ("BadRun", true), ("UnknownStart", true)] true (by decide +kernel), h1 [(("BadStore" : Str), true), ("BadRun", false), ("UnknownStart", true)] false (by decide +kernel), h2, it, eq, decide_true]
theorem bad12_ok (n : Nat) (N : List (Str × Nat)) (L : List ((Nat × Str) × Nat)) (l : List Str) (hl : ∀ s ∈ l, s.length ≤ 1000000) (ho : ∀ s ∈ l, okS s = true) (h : runB l = false) : m__law_bad [insD n N L, .tup (txts l)] = .ok (.bl true) := by
  refine m_ok ?_
  unfold b__law_bad
  have he := store_end_bad n N L l hl h
  have ct := contains_bad n N L l hl h
  have rr := refused_run12 l ho
  have im := ins_meth n N L "end" (by decide +kernel) (by decide +kernel) (by decide +kernel)
  have lk : List.lookup ("BadRun" : Str) [(("BadStore" : Str), false), ("BadRun", true), ("UnknownStart", false)] = some true := by decide +kernel
  have i1 : intF [.bl true] = .ok (.int 1) := rfl
  have oi : ∀ x2 x3 : Sl, ownInE "Store" false m_Store___contains__ (getP 1) (getP 0) [.sh (insD n N L), .sh (.tup (txts l)), x2, x3] = .exc "BadRun" [(("run" : Str), D.tup (txts l))] := fun x2 x3 => by
    rw [own_in n N L (d := .tup (txts l)) rfl rfl, ct]
    rfl
  generalize insD n N L = I at *
  generalize D.tup (txts l) = R at *
  have x1 : ∀ (c : Str) (fs : List (Str × D)) (r : Res (List D)), rC (.exc c fs) r = .exc c fs := fun _ _ _ => rfl
  have x2 : ∀ (f : List D → Res D) (c : Str) (fs : List (Str × D)), r1 f (.exc c fs) = .exc c fs := fun _ _ _ => rfl
  have x3 : ∀ (f : D → D → Res D) (d : D) (c : Str) (fs : List (Str × D)), r2 f (.ok d) (.exc c fs) = .exc c fs := fun _ _ _ _ => rfl
  have x4 : ∀ (i : Nat) (c : Str) (fs : List (Str × D)) (env : Env), rSet i (.exc c fs) env = .xc c fs env := fun _ _ _ _ => rfl
  simp_all_arith [im, he, lk, rr, i1, oi, x1, x2, x3, x4, Int.reduceAdd, decide_true]
theorem refused12_ok (n : Nat) (N : List (Str × Nat)) (L : List ((Nat × Str) × Nat)) {s : Str} {t : List Str} (hR : RunL (s :: t)) (hs : look1 N s = none) : m__law_refused [insD n N L, .tup (txts (s :: t))] = .ok (.bl true) := by
  refine m_ok ?_
  unfold b__law_refused
  have he := store_end_un n N L hR hs
  have ct := contains_un n N L hR hs
  have rr := refused_start12 s (hR.ok s (List.mem_cons_self ..))
  have g0 : seqGet (txts (s :: t)) 0 = .ok (.str s) := @txts_get (s :: t) 0 s rfl
  have im := ins_meth n N L "end" (by decide +kernel) (by decide +kernel) (by decide +kernel)
  have lk : List.lookup ("UnknownStart" : Str) [(("BadStore" : Str), false), ("BadRun", false), ("UnknownStart", true)] = some true := by decide +kernel
  have oi : ownInE "Store" false m_Store___contains__ (getP 1) (getP 0) (env0 3 [insD n N L, .tup (txts (s :: t))]) = .ok (.bl false) := by
    rw [own_in n N L (d := .tup (txts (s :: t))) rfl rfl, ct]
    rfl
  generalize insD n N L = I at *
  generalize txts (s :: t) = R at *
  rw [seq_eq, ifS_eq, tE_eq, oi]
  simp_all_arith [im, he, lk, g0, rr]

end
section
structure Same12 (S : Sto) (n : Nat) (N : List (Str × Nat)) (L : List ((Nat × Str) × Nat)) : Prop where
  nam : ∀ s, look1 N s = look1 S.names s
  lea : ∀ k, look1 L k = look1 S.leads k
theorem made12_ok (S : Sto) (ss ps : List Str) (hS : StoOk S ss ps) (hs3 : ∀ s ∈ ss, nameB s = true) (hp3 : ∀ s ∈ ps, nameB s = true) (hsl : ss.length < 64) : ∃ n N L, m__law_made [stoD S] = .ok (insD n N L) ∧ Same12 S n N L := by
  have nameOk : ∀ p ∈ S.names, nameB p.1 = true ∧ p.2 < S.size := fun p hp => by
    refine ⟨hs3 p.1 ((hS.nkey p.1).mp ?_), hS.nval p hp⟩
    rw [look_of_mem hS.nodup (k := p.1) (v := p.2) hp]; rfl
  have hnl : S.names.length < 64 := Nat.lt_of_le_of_lt (names_few hS.nodup fun s h => (hS.nkey s).mp h) hsl
  have mvs := law_moves_ok S ss ps hS hp3
  have mok := mvL_ok hS.lea
  have hmk : mkF m_Store___init__ [.int (S.size : Int), .dic 0 (namD S.names), .lst (mvD (mvL S.leads))] = .ok (insD S.size (sortN S.names) (leadsF (mvL S.leads) [])) :=
    mkF_ok (fun x => init_ok S.size S.names ps (mvL S.leads) nameOk hS.nodup hnl hp3 mok (Nat.le_trans (mvL_len _) hS.llen) x)
  refine ⟨S.size, sortN S.names, leadsF (mvL S.leads) [], m_ok ?_, fun s => look_sortN S.names s, look_leads_of hS.lea⟩
  unfold b__law_made
  have df : dictF [.dic 0 (namD S.names)] = .ok (.dic 0 (namD S.names)) := rfl
  have g0 := getS0 S
  have g1 := getS1 S
  generalize stoD S = SD at *
  simp_all_arith [g0, g1, df, mvs, hmk]
theorem asked12_ok (S : Sto) (n : Nat) (N : List (Str × Nat)) (L : List ((Nat × Str) × Nat)) (hS : Same12 S n N L) {s : Str} {t : List Str} (hR : RunL (s :: t)) (hl : t.length ≤ 2000) (hs : (look1 S.names s).isSome = true) : m__law_asked [insD n N L, stoD S, .tup (txts (s :: t))] = .ok (.bl true) := by
  obtain ⟨a, ha⟩ := Option.isSome_iff_exists.mp hs
  have haN : look1 N s = some a := by rw [hS.nam, ha]
  refine m_ok ?_
  unfold b__law_asked
  have tr := law_trail_ok S ha (show t.length ≤ 5000 by omega)
  have wk := store_walk_ok n N L haN (show t.length ≤ 5000 by omega)
  have hsN : (look1 N s).isSome = true := by rw [haN]; rfl
  have en := store_end_ok n N L (s :: t) hR (run_chk hR) ⟨s, t, rfl, hsN⟩
  have ct := contains_ok n N L hR hsN
  have ee : endF ⟨n, N, L⟩ (s :: t) = if (trailF S.leads a t).length = t.length + 1 then (trailF S.leads a t).getLast? else none := by
    show walkF L (look1 N s) t = _
    rw [haN, walk_congr hS.lea, trail_end]
  rw [ee] at en ct
  rw [trail_congr hS.lea] at wk
  have imE := ins_meth n N L "end" (by decide +kernel) (by decide +kernel) (by decide +kernel)
  have imW := ins_meth n N L "walk" (by decide +kernel) (by decide +kernel) (by decide +kernel)
  obtain ⟨tl1, tl2⟩ := trail_len S.leads t a
  generalize trailF S.leads a t = T at *
  have hlen : lenF [.tup (txts (s :: t))] = .ok (.int ((t.length + 1 : Nat) : Int)) := by
    rw [len_tup, txts_len, List.length_cons]
  have oi : ∀ (neg : Bool) (x1 x3 x4 x5 x6 x7 : Sl), ownInE "Store" neg m_Store___contains__ (getP 2) (getP 0) [.sh (insD n N L), x1, .sh (.tup (txts (s :: t))), x3, x4, x5, x6, x7] = neqR neg (.ok (.bl (if T.length = t.length + 1 then T.getLast? else none).isSome)) := fun neg x1 x3 x4 x5 x6 x7 => by
    rw [own_in n N L (d := .tup (txts (s :: t))) rfl rfl, ct]
  have ge : ∀ (x1 x3 x4 x5 x6 x7 : Sl), geE (methE "Store" "walk" m_Store_walk (getP 0) (consA (getP 2) nilA)) [.sh (insD n N L), x1, .sh (.tup (txts (s :: t))), x3, x4, x5, x6, x7] = .ok (.lst (natsD T)) := fun x1 x3 x4 x5 x6 x7 => by
    unfold geE
    rw [methE_ok (d := insD n N L) (ds := [.tup (txts (s :: t))]) rfl imW rfl, wk]
    rfl
  generalize insD n N L = I at *
  generalize stoD S = SD at *
  generalize hRD : D.tup (txts (s :: t)) = RD at *
  have env : env0 8 [I, SD, RD] = [.sh I, .sh SD, .sh RD, .no, .no, .no, .no, .no] := rfl
  rw [env]
  simp_all_arith [tr, ge, decide_true, Bool.not_true]
  refine Sat.rseq ?_
  let I0 : Nat → Env → Prop := fun i env => ∃ x, env = [.sh I, .sh SD, .sh RD, .sh (.lst (natsD T)), .sh (.lst (natsD T)), x, .no, .no]
  with_reducible refine Sat.forS I0 (ds := rangeD 0 T.length) ?_ ?_ ?_ ?_
  · simp_all_arith [natsD_len]
    exact range1_nat (by omega)
  · exact ⟨_, rfl⟩
  · rintro i d env hd ⟨x, rfl⟩
    obtain ⟨hi, rfl⟩ := rangeD_get hd
    refine ⟨_, rfl, ?_⟩
    have gi : seqGet (natsD T) (0 + (i : Int)) = .ok (.int ((T[i]'hi : Nat) : Int)) := by
      rw [Int.zero_add]
      refine seqGet_of ?_
      unfold natsD
      rw [List.getElem?_map, List.getElem?_eq_getElem hi]
      rfl
    have ii : ∀ z : Int, m__law_is_integer [.int z] = .ok (.bl true) := fun z => rfl
    simp_all_arith [gi, ii, decide_true, Bool.not_true]
    exact ⟨_, rfl⟩
  · rintro env ⟨x, rfl⟩
    have ii : ∀ z : Int, m__law_is_integer [.int z] = .ok (.bl true) := fun z => rfl
    by_cases c : T.length = t.length + 1
    · obtain ⟨T', z, rfl⟩ : ∃ T' z, T = T' ++ [z] := by
        rcases List.eq_nil_or_concat T with e | ⟨T', z, e⟩
        · rw [e] at tl1; simp at tl1
        · exact ⟨T', z, by rw [e, List.concat_eq_append]⟩
      rw [if_pos c, List.getLast?_append, List.getLast?_singleton] at en
      have en' : m_Store_end [I, RD] = .ok (.int (z : Int)) := en
      have eg : seqGet (natsD (T' ++ [z])) (-1) = .ok (.int (z : Int)) := by
        rw [natsD_app]
        exact seqGet_end _ _
      have oi' : ∀ (x1 x3 x4 x5 x6 x7 : Sl), ownInE "Store" false m_Store___contains__ (getP 2) (getP 0) [.sh I, x1, .sh RD, x3, x4, x5, x6, x7] = .ok (.bl true) := fun x1 x3 x4 x5 x6 x7 => by
        rw [oi, if_pos c, List.getLast?_append, List.getLast?_singleton]
        rfl
      have lt : decide (((natsD (T' ++ [z])).length : Int) < ((t.length + 1 : Nat) : Int)) = false := decide_eq_false (by rw [natsD_len]; omega)
      simp_all_arith [imE, en', hlen, lt, ii, neg_int, eg, decide_true, oi']
    · rw [if_neg c] at en
      have en' : m_Store_end [I, RD] = .ok .non := en
      have oi' : ∀ (x1 x3 x4 x5 x6 x7 : Sl), ownInE "Store" true m_Store___contains__ (getP 2) (getP 0) [.sh I, x1, .sh RD, x3, x4, x5, x6, x7] = .ok (.bl true) := fun x1 x3 x4 x5 x6 x7 => by
        rw [oi, if_neg c]
        rfl
      have lt : decide (((natsD T).length : Int) < ((t.length + 1 : Nat) : Int)) = true := decide_eq_true (by rw [natsD_len]; omega)
      simp_all_arith [imE, en', hlen, lt, oi']

end
section
theorem m_law_ok : ∀ ns : List Int, ns.length ≤ 63 → (∀ z ∈ ns, Builtin.Int.intBits z ≤ 1048576) → m_law [.scr ns] = .ok (.bl true) := by
  intro ns _ _
  refine m_ok ?_
  unfold b_law
  obtain ⟨n1, e1, a1, b1⟩ := many_ex ns 0 (by decide)
  obtain ⟨n2, e2, a2, b2⟩ := many_ex ns 1 (by decide)
  have e1' : m__law_many [.scr ns, .int 0] = .ok (.int (n1 : Int)) := e1
  have e2' : m__law_many [.scr ns, .int 1] = .ok (.int (n2 : Int)) := e2
  obtain ⟨ps, hp1, hp2, hp3⟩ := names_ex ns 1 n1 (by decide) (by omega)
  obtain ⟨ss, hs1, hs2, hs3⟩ := names_ex ns 2 n2 (by decide) (by omega)
  have hp1' : m__law_names [.scr ns, .int 1, .int (n1 : Int)] = .ok (.lst (txts ps)) := hp1
  have hs1' : m__law_names [.scr ns, .int 2, .int (n2 : Int)] = .ok (.lst (txts ss)) := hs1
  have hpn : ps ≠ [] := by intro h; rw [h] at hp2; simp at hp2; omega
  have hsn : ss ≠ [] := by intro h; rw [h] at hs2; simp at hs2; omega
  obtain ⟨S, hS1, hS⟩ := drawn_store_ex ns 3 (by decide) ss ps (by omega) (by omega) hp3
  have hS1' : m__law_drawn_store [.scr ns, .int 3, .lst (txts ss), .lst (txts ps)] = .ok (stoD S) := hS1
  obtain ⟨T, hT1, hT⟩ := drawn_store_ex ns 4 (by decide) ss ps (by omega) (by omega) hp3
  have hT1' : m__law_drawn_store [.scr ns, .int 4, .lst (txts ss), .lst (txts ps)] = .ok (stoD T) := hT1
  obtain ⟨r0, hr0, hR0, hl0, s, hs, t0, rfl, ht0⟩ := run_ex ns 5 0 9 (by decide) (by decide) (by decide) S ss ps hS hsn hpn (by omega) hs3 hp3
  have hr0' : m__law_run [.scr ns, .int 5, .int 0, stoD S, .lst (txts ps), .int 9] = .ok (.tup (txts (s :: t0))) := hr0
  obtain ⟨q0, hq0, hQ0, hm0, v, hv, u0, rfl, hu0⟩ := run_ex ns 6 0 9 (by decide) (by decide) (by decide) S ss ps hS hsn hpn (by omega) hs3 hp3
  have hq0' : m__law_run [.scr ns, .int 6, .int 0, stoD S, .lst (txts ps), .int 9] = .ok (.tup (txts (v :: u0))) := hq0
  rw [List.length_cons] at hl0 hm0
  have d02 : m__law_draw [.scr ns, .int 0, .int 2] = .ok (.int (dr ns 0 2)) := draw_nn ns 0 2 (by decide) (by decide)
  have p0 := Int.emod_nonneg (dr ns 0 2) (show (12 : Int) ≠ 0 by decide)
  have p1 := Int.emod_lt_of_pos (dr ns 0 2) (show (0 : Int) < 12 by decide)
  have hmul : mulD (.tup (txts t0)) (.int (dr ns 0 2 % 12)) = .ok (.tup (txts (List.replicate (dr ns 0 2 % 12).toNat t0).flatten)) := by
    have e : txts (List.replicate (dr ns 0 2 % 12).toNat t0).flatten = (List.replicate (dr ns 0 2 % 12).toNat (txts t0)).flatten := by
      unfold txts
      rw [List.map_flatten, List.map_replicate]
    rw [e]
    exact if_pos ⟨by omega, by omega, by rw [txts_len]; omega⟩
  have hlr : ((List.replicate (dr ns 0 2 % 12).toNat t0).flatten).length ≤ 12 * 9 := by
    rw [rep_len]
    exact Nat.mul_le_mul (by omega) (by omega)
  generalize hF : (List.replicate (dr ns 0 2 % 12).toNat t0).flatten = F at hmul hlr
  have hstep : ∀ u ∈ t0 ++ F, u ∈ stepsOf ps := fun u hu => by
    rcases List.mem_append.mp hu with h | h
    · exact ht0 u h
    · rw [← hF] at h
      obtain ⟨l', h3, h4⟩ := List.mem_flatten.mp h
      rw [(List.mem_replicate.mp h3).2] at h4
      exact ht0 u h4
  have cut1 : ∀ (s : Str) (r : List Str), cutD (txts (s :: r)) (some 1) none = txts r := fun s r => by
    rw [show (1 : Int) = ((1 : Nat) : Int) from rfl, cutD_from]
    rfl
  have cut0 : ∀ (s : Str) (r : List Str), cutD (txts (s :: r)) none (some 1) = txts [s] := fun s r => by
    rw [show (1 : Int) = ((1 : Nat) : Int) from rfl, cutD_to]
    rfl
  have addT : ∀ l m : List Str, l.length + m.length ≤ 10000 → addD (.tup (txts l)) (.tup (txts m)) = .ok (.tup (txts (l ++ m))) := fun l m h => by
    rw [txts_app]
    exact if_pos (by rw [txts_len, txts_len]; exact le_line (by omega))
  have hadd : addD (.tup (txts (s :: t0))) (.tup (txts F)) = .ok (.tup (txts (s :: (t0 ++ F)))) := addT _ _ (by rw [List.length_cons]; omega)
  have htl : (t0 ++ F).length ≤ 120 := by rw [List.length_append]; omega
  generalize t0 ++ F = t at hadd hstep htl
  have hR : RunL (s :: t) := ⟨s, t, rfl, hs3 s hs, fun u hu => steps_B hp3 (hstep u hu)⟩
  obtain ⟨nA, NA, LA, hmA, sA⟩ := made12_ok S ss ps hS hs3 hp3 (by omega)
  obtain ⟨nB, NB, LB, hmB, sB⟩ := made12_ok T ss ps hT hs3 hp3 (by omega)
  have nS : ∀ x ∈ ss, (look1 S.names x).isSome = true := fun x hx => (hS.nkey x).mpr hx
  have nT : ∀ x ∈ ss, (look1 T.names x).isSome = true := fun x hx => (hT.nkey x).mpr hx
  have as1 := asked12_ok S nA NA LA sA hR (by omega) (nS s hs)
  have as2 := asked12_ok T nB NB LB sB hR (by omega) (nT s hs)
  have as3 := asked12_ok T nB NB LB sB hQ0 (by omega) (nT v hv)
  have as4 := asked12_ok S nA NA LA sA hQ0 (by omega) (nS v hv)
  -- the unnamed start
  have hfew : S.names.length ≤ 8 := Nat.le_trans (names_few hS.nodup fun s h => (hS.nkey s).mp h) (by omega)
  obtain ⟨o, ho, hoB, hoN⟩ := unnamed_n S.names hfew
  have hos : o ∉ ss := fun h => by
    have := nS o h
    rw [hoN] at this
    cases this
  have hoT : look1 T.names o = none := by
    cases q : look1 T.names o with
    | none => rfl
    | some x => exact (hos ((hT.nkey o).mp (by rw [q]; rfl))).elim
  have hO : RunL (o :: t) := ⟨o, t, rfl, hoB, fun u hu => steps_B hp3 (hstep u hu)⟩
  have hO1 : RunL [o] := ⟨o, [], rfl, hoB, fun u hu => by cases hu⟩
  have rf1 := refused12_ok nA NA LA hO (by rw [sA.nam]; exact hoN)
  have rf2 := refused12_ok nB NB LB hO1 (by rw [sB.nam]; exact hoT)
  have okA : okS "a" = true := by decide +kernel
  have okP : okS "+A" = true := by decide +kernel
  have badA : stepB "a" = false := by decide +kernel
  have badP : stepB "+A" = false := by decide +kernel
  have sok : ∀ u ∈ t, okS u = true ∧ u.length ≤ 40 := fun u hu => (runL_item hR u (List.mem_cons_of_mem _ hu)).1
  have son : ∀ x ∈ [s, o], okS x = true ∧ x.length ≤ 40 := fun x hx => by
    rcases List.mem_cons.mp hx with e | hx
    · rw [e]; exact (runL_item hR s (List.mem_cons_self ..)).1
    · rw [List.mem_singleton.mp hx]; exact (runL_item hO o (List.mem_cons_self ..)).1
  have bd1 : m__law_bad [insD nA NA LA, .tup (txts ((o :: t) ++ [("a" : Str)]))] = .ok (.bl true) := by
    have q : ∀ x ∈ (o :: t) ++ [("a" : Str)], okS x = true ∧ x.length ≤ 40 := fun x hx => by
      rcases List.mem_append.mp hx with hx | hx
      · rcases List.mem_cons.mp hx with e | hx
        · rw [e]; exact son o (by simp)
        · exact sok x hx
      · rw [List.mem_singleton.mp hx]; exact ⟨okA, by decide +kernel⟩
    refine bad12_ok nA NA LA _ (fun x hx => Nat.le_trans (q x hx).2 (by decide)) (fun x hx => (q x hx).1) ?_
    show (nameB o && (t ++ [("a" : Str)]).all stepB) = false
    rw [List.all_append, List.all_cons, badA, Bool.false_and, Bool.and_false, Bool.and_false]
  have bd2 : m__law_bad [insD nB NB LB, .tup (txts (([s] ++ [("+A" : Str)]) ++ t))] = .ok (.bl true) := by
    have q : ∀ x ∈ ([s] ++ [("+A" : Str)]) ++ t, okS x = true ∧ x.length ≤ 40 := fun x hx => by
      rcases List.mem_append.mp hx with hx | hx
      · rcases List.mem_append.mp hx with hx | hx
        · rw [List.mem_singleton.mp hx]; exact son s (by simp)
        · rw [List.mem_singleton.mp hx]; exact ⟨okP, by decide +kernel⟩
      · exact sok x hx
    refine bad12_ok nB NB LB _ (fun x hx => Nat.le_trans (q x hx).2 (by decide)) (fun x hx => (q x hx).1) ?_
    show (nameB s && (("+A" : Str) :: t).all stepB) = false
    rw [List.all_cons, badP, Bool.false_and, Bool.and_false]
  have t1 : ∀ d : D, tupD [d] = .ok (.tup [d]) := fun d => tup_ok (le_line (show 1 ≤ 1000000 by decide))
  have l2 : ∀ x y : D, lstD [x, y] = .ok (.lst [x, y]) := fun x y => lst_ok (le_line (show 2 ≤ 1000000 by decide))
  have g0 : ∀ x y : D, seqGet [x, y] 0 = .ok x := fun x y => @seqGet_of [x, y] 0 x rfl
  have g1 : ∀ x y : D, seqGet [x, y] 1 = .ok y := fun x y => @seqGet_of [x, y] 1 y rfl
  have gS := getS1 S
  have aO : addD (.tup [D.str o]) (.tup (txts t)) = .ok (.tup (txts (o :: t))) := addT [o] t (by rw [List.length_singleton]; omega)
  have aA : addD (.tup (txts (o :: t))) (.tup [D.str "a"]) = .ok (.tup (txts ((o :: t) ++ [("a" : Str)]))) := addT (o :: t) [("a" : Str)] (by rw [List.length_cons, List.length_singleton]; omega)
  have aP : addD (.tup (txts [s])) (.tup [D.str "+A"]) = .ok (.tup (txts ([s] ++ [("+A" : Str)]))) := addT [s] [("+A" : Str)] (by rw [List.length_singleton, List.length_singleton]; decide)
  have aQ : addD (.tup (txts ([s] ++ [("+A" : Str)]))) (.tup (txts t)) = .ok (.tup (txts (([s] ++ [("+A" : Str)]) ++ t))) := addT ([s] ++ [("+A" : Str)]) t (by rw [List.length_append, List.length_singleton, List.length_singleton]; omega)
  have r2' : range1 [.int 2] = .ok (rangeD 0 2) := range1_ok (by omega)
  have c1 := cut1 s t0
  have c2 := cut1 s t
  have c3 := cut0 s t
  have c4 := cut0 o t
  clear hr0 hq0 hS1 hT1 hp1 hs1 e1 e2
  generalize (o :: t) ++ [("a" : Str)] = OA at *
  generalize ([s] ++ [("+A" : Str)]) ++ t = SP at *
  generalize [s] ++ [("+A" : Str)] = SA at *
  generalize o :: t = OT at *
  generalize s :: t = ST at *
  generalize s :: t0 = ST0 at *
  generalize v :: u0 = VU at *
  generalize [o] = O1 at *
  generalize [s] = S1 at *
  generalize insD nA NA LA = IA at *
  generalize insD nB NB LB = IB at *
  generalize stoD S = SD at *
  generalize stoD T = TD at *
  generalize D.dic 0 (namD S.names) = ND at *
  simp_all_arith [Int.reduceLT, e1', hp1', e2', hs1', hS1', hT1', hr0', d02, mod_int (show (0 : Int) < 12 by decide), c1, hmul, hadd, hq0', hmA, hmB, l2]
  refine Sat.rseq (Sat.forS0 (fun env => ∃ x, env = [.sh (.scr ns), .sh (.lst (txts ps)), .sh (.lst (txts ss)), .sh SD, .sh TD, .sh (.tup (txts ST)), .sh (.tup (txts VU)), .sh (.lst [IA, IB]), x, .no]) (ds := rangeD 0 2) ?_ ⟨_, rfl⟩ ?_ ?_)
  · simp_all_arith [r2']
  · rintro d hd env ⟨x, rfl⟩
    refine ⟨_, rfl, ?_⟩
    simp_all_arith [g0, g1, as1, as2, as3, as4]
    exact ⟨_, rfl⟩
  · rintro env ⟨x, rfl⟩
    simp_all_arith [gS, ho, t1, c2, aO, g0, g1, aA, bd1, c3, aP, aQ, bd2, rf1, c4, rf2, as1]

end
end VL
namespace VL
open PySem L2
structure Blt (mg : Str → Option Value) : Prop where
  int : mg "int" = none
  len : mg "len" = none
  range : mg "range" = none
  list : mg "list" = none
  str : mg "str" = none
  sorted : mg "sorted" = none
  dict : mg "dict" = none
  isinstance : mg "isinstance" = none
  ValueError : mg "ValueError" = none
  bool : mg "bool" = none
  tuple : mg "tuple" = none
section
variable {P : Program} {w : World} {K : PySem.W.Frag} {mg : Str → Option Value} {base : Heap}
abbrev N__law_draw : List Str := ["_law_script", "_law_k", "_law_j", "_law_cell", "_law_first", "_law_second", "_law_rest", "_law_turn"]
theorem sc__law_draw : FnScope N__law_draw ["_law_script", "_law_k", "_law_j"] (defScope s__law_draw) := ⟨rfl, rfl, rfl, by decide +kernel, rfl, by decide +kernel, by decide +kernel⟩
set_option maxHeartbeats 4000000 in
theorem v__law_draw (B : Blt mg) (R : Raw K mg "_law_draw" s__law_draw ["_law_script", "_law_k", "_law_j"]) : DefOk P w K mg base "_law_draw" 1 ["_law_script", "_law_k", "_law_j"] 3 m__law_draw := by
  have nd := sc__law_draw.nd
  refine def_v N__law_draw b__law_draw R sc__law_draw rfl rfl (fun f cdv A outer s H E hr tk po => ?_)
  exact (vb_cons (vs_if (vt_cmp (fla := true) (flb := true) (op_eqD hr.units) (nomark _) of_eq (ve_v 0) (ve_lst va_nil)) (vb_one (vs_ret ve_int)) vb_nil)
      (vb_cons (vs_set 3 nd (ve_ty (fla := true) call_int1 cf_int B.int (by decide +kernel) (va_cons (ve_ix (flb := true) (ru1 hr) (ve_v 0) (ve_op (fla := true) (flb := true) op_mod of_mod (ve_ty (fla := true) call_int1 cf_int B.int (by decide +kernel) (va_cons (ve_v 1) va_nil)) (ve_bi (fla := true) call_len cf_len B.len PySem.boot_len (va_cons (ve_v 0) va_nil)))) va_nil)))
      (vb_cons (vs_if (vt_w (vw_and (vt_cmp (fla := true) (flb := true) op_lt (nomark _) of_lt (ve_v 1) (ve_bi (fla := true) call_len cf_len B.len PySem.boot_len (va_cons (ve_v 0) va_nil))) (vw_and1 (vt_cmp (fla := true) (flb := true) op_ge (nomark _) of_ge (ve_v 3) (ve_op (fla := true) (flb := true) op_pow of_pow ve_int ve_int))))) (vb_cons (vs_set 6 nd (ve_v 3))
      (vb_cons (vs_for po rfl (vi_range1 (fl := true) B.range (va_cons (ve_v 2) va_nil)) (vg_n 7 nd) (vb_one (vs_set 6 nd (ve_op (fla := true) (flb := true) op_fdiv of_fdiv (ve_v 6) ve_int))))
      (vb_one (vs_if (vt_cmp (fla := true) (flb := true) op_gt (nomark _) of_gt (ve_v 6) ve_int) (vb_one (vs_ret (ve_op (fla := true) (flb := true) op_mod of_mod (ve_ty (fla := true) call_int1 cf_int B.int (by decide +kernel) (va_cons (ve_v 6) va_nil)) ve_int))) vb_nil)))) vb_nil)
      (vb_cons (vs_set 4 nd (ve_op (fla := true) (flb := true) op_mod of_mod (ve_ty (fla := true) call_int1 cf_int B.int (by decide +kernel) (va_cons (ve_op op_addA of_add (ve_op op_addA of_add (ve_op op_addA of_add (ve_op (flb := true) op_mulA of_mul (ve_op (fla := true) (flb := true) op_mod of_mod (ve_ty (fla := true) call_int1 cf_int B.int (by decide +kernel) (va_cons (ve_v 3) va_nil)) ve_int) ve_int) (ve_op (flb := true) op_mulA of_mul (ve_v 1) ve_int)) (ve_op (flb := true) op_mulA of_mul (ve_v 2) ve_int)) ve_int) va_nil)) ve_int))
      (vb_cons (vs_set 5 nd (ve_op (fla := true) (flb := true) op_mod of_mod (ve_ty (fla := true) call_int1 cf_int B.int (by decide +kernel) (va_cons (ve_op op_addA of_add (ve_op op_addA of_add (ve_op op_addA of_add (ve_op op_addA of_add (ve_op (flb := true) op_mulA of_mul (ve_op (fla := true) (flb := true) op_mod of_mod (ve_ty (fla := true) call_int1 cf_int B.int (by decide +kernel) (va_cons (ve_v 4) va_nil)) ve_int) ve_int) (ve_op (flb := true) op_mulA of_mul (ve_op (fla := true) (flb := true) op_fdiv of_fdiv (ve_v 4) ve_int) ve_int)) (ve_op (flb := true) op_mulA of_mul (ve_v 2) ve_int)) (ve_op (flb := true) op_mulA of_mul (ve_v 1) ve_int)) ve_int) va_nil)) ve_int))
      (vb_one (vs_ret (ve_op (fla := true) (flb := true) op_mod of_mod (ve_ty (fla := true) call_int1 cf_int B.int (by decide +kernel) (va_cons (ve_op (fla := true) (flb := true) op_fdiv of_fdiv (ve_v 5) ve_int) va_nil)) ve_int))))))))
abbrev N__law_names : List Str := ["_law_script", "_law_k", "_law_many_here", "_law_letters", "_law_mode", "_law_base", "_law_size", "_law_place", "_law_names_here", "_law_at", "_law_shift", "_law_name"]
theorem sc__law_names : FnScope N__law_names ["_law_script", "_law_k", "_law_many_here"] (defScope s__law_names) := ⟨rfl, rfl, rfl, by decide +kernel, rfl, by decide +kernel, by decide +kernel⟩
set_option maxHeartbeats 4000000 in
theorem v__law_names (B : Blt mg) (R : Raw K mg "_law_names" s__law_names ["_law_script", "_law_k", "_law_many_here"]) (d__law_draw : DefOk P w K mg base "_law_draw" 1 ["_law_script", "_law_k", "_law_j"] 3 m__law_draw) : DefOk P w K mg base "_law_names" 2 ["_law_script", "_law_k", "_law_many_here"] 3 m__law_names := by
  have nd := sc__law_names.nd
  refine def_v N__law_names b__law_names R sc__law_names rfl rfl (fun f cdv A outer s H E hr tk po => ?_)
  exact (vb_cons (vs_set 3 nd ve_str)
      (vb_cons (vs_set 4 nd (ve_op (fla := true) (flb := true) op_mod of_mod (ve_def d__law_draw tk (hr.mono (by decide)) (va_cons (ve_v 0) (va_cons (ve_v 1) (va_cons ve_int va_nil))) rfl (la_cons (la_cons (la_cons la_nil)))) ve_int))
      (vb_cons (vs_set 5 nd (ve_op op_addA of_add ve_str (ve_join (fla := true) (flb := true) ve_str (ve_new (vf_lc (own := [("_law_at", 9)]) rfl nd (vi_range1 (fl := true) B.range (va_cons ve_int va_nil)) (blkOk_by (N := N__law_names) (sc := defScope s__law_names) (by decide +kernel)) (fun _ _ _ _ _ => (vgc_n 9 (by decide) nd)) (fun _ _ _ _ _ => vts_nil) (fun _ _ _ _ _ => (ve_ix (flb := true) (ru1 hr) (ve_v 3) (ve_op (fla := true) (flb := true) op_mod of_mod (ve_def d__law_draw tkW0 (hr.mono (by decide)) (va_cons (ve_v 0) (va_cons (ve_v 1) (va_cons (ve_op op_addA of_add ve_int (ve_v 9)) va_nil))) rfl (la_cons (la_cons (la_cons la_nil)))) ve_int))))))))
      (vb_cons (vs_set 6 nd (ve_op op_addA of_add ve_int (ve_op (fla := true) (flb := true) op_mod of_mod (ve_def d__law_draw tk (hr.mono (by decide)) (va_cons (ve_v 0) (va_cons (ve_v 1) (va_cons ve_int va_nil))) rfl (la_cons (la_cons (la_cons la_nil)))) ve_int)))
      (vb_cons (vs_set 7 nd (ve_op (fla := true) (flb := true) op_mod of_mod (ve_def d__law_draw tk (hr.mono (by decide)) (va_cons (ve_v 0) (va_cons (ve_v 1) (va_cons ve_int va_nil))) rfl (la_cons (la_cons (la_cons la_nil)))) (ve_v 6)))
      (vb_cons (vs_own 8 nd (vf_lst va_nil))
      (vb_cons (vs_for po rfl (vi_range1 (fl := true) B.range (va_cons (ve_v 2) va_nil)) (vg_n 9 nd) (vb_cons (vs_set 10 nd (ve_def d__law_draw tk (hr.mono (by decide)) (va_cons (ve_v 0) (va_cons (ve_v 1) (va_cons (ve_op op_addA of_add ve_int (ve_v 9)) va_nil))) rfl (la_cons (la_cons (la_cons la_nil)))))
      (vb_cons (vs_set 11 nd (ve_op op_addA of_add (ve_ix (flb := true) (ru1 hr) (ve_v 3) (ve_op (fla := true) (flb := true) op_mod of_mod (ve_v 10) ve_int)) (ve_sl (ve_v 5) (vo_some (fl := true) ve_int) (vo_some (fl := true) (ve_op op_addA of_add ve_int (ve_op (fla := true) (flb := true) op_mod of_mod (ve_op (fla := true) (flb := true) op_fdiv of_fdiv (ve_v 10) ve_int) ve_int))))))
      (vb_cons (vs_if (vt_cmp (fla := true) (flb := true) (op_eqD hr.units) (nomark _) of_eq (ve_v 4) ve_int) (vb_one (vs_set 11 nd (ve_ix (flb := true) (ru1 hr) ve_str (ve_v 9)))) vb_nil)
      (vb_cons (vs_if (vt_cmp (fla := true) (flb := true) (op_eqD hr.units) (nomark _) of_eq (ve_v 4) ve_int) (vb_one (vs_set 11 nd (ve_op op_addA of_add (ve_op op_addA of_add (ve_sl (ve_v 5) vo_none (vo_some (fl := true) (ve_v 7))) (ve_ix (flb := true) (ru1 hr) (ve_v 3) (ve_op (fla := true) (flb := true) op_mod of_mod (ve_ty (fla := true) call_int1 cf_int B.int (by decide +kernel) (va_cons (ve_op op_addA of_add (ve_v 10) (ve_v 9)) va_nil)) ve_int))) (ve_sl (ve_v 5) (vo_some (fl := true) (ve_op op_addA of_add (ve_v 7) ve_int)) (vo_some (fl := true) (ve_v 6)))))) vb_nil)
      (vb_one (vs_app 8 (ve_v 11))))))))
      (vb_one (vs_give 8 (vs_ret (ve_v 8)))))))))))
abbrev N__law_store : List Str := ["_law_script", "_law_k", "_law_starts", "_law_patches", "_law_size", "_law_gaps", "_law_leads", "_law_at", "_law_names_here", "_law_draw_here", "_law_there", "_law_back"]
theorem sc__law_store : FnScope N__law_store ["_law_script", "_law_k", "_law_starts", "_law_patches"] (defScope s__law_store) := ⟨rfl, rfl, rfl, by decide +kernel, rfl, by decide +kernel, by decide +kernel⟩
set_option maxHeartbeats 4000000 in
theorem v__law_store (B : Blt mg) (R : Raw K mg "_law_store" s__law_store ["_law_script", "_law_k", "_law_starts", "_law_patches"]) (d__law_draw : DefOk P w K mg base "_law_draw" 1 ["_law_script", "_law_k", "_law_j"] 3 m__law_draw) : DefOk P w K mg base "_law_store" 2 ["_law_script", "_law_k", "_law_starts", "_law_patches"] 4 m__law_store := by
  have nd := sc__law_store.nd
  refine def_v N__law_store b__law_store R sc__law_store rfl rfl (fun f cdv A outer s H E hr tk po => ?_)
  exact (vb_cons (vs_set 4 nd (ve_op op_addA of_add ve_int (ve_op (fla := true) (flb := true) op_mod of_mod (ve_def d__law_draw tk (hr.mono (by decide)) (va_cons (ve_v 0) (va_cons (ve_v 1) (va_cons ve_int va_nil))) rfl (la_cons (la_cons (la_cons la_nil)))) ve_int)))
      (vb_cons (vs_set 5 nd (ve_op (fla := true) (flb := true) op_mod of_mod (ve_def d__law_draw tk (hr.mono (by decide)) (va_cons (ve_v 0) (va_cons (ve_v 1) (va_cons ve_int va_nil))) rfl (la_cons (la_cons (la_cons la_nil)))) ve_int))
      (vb_cons (vs_own 6 nd vf_dic1)
      (vb_cons (vs_for po rfl (vi_range1 (fl := true) B.range (va_cons (ve_op (flb := true) op_mulA of_mul ve_int (ve_bi (fla := true) call_len cf_len B.len PySem.boot_len (va_cons (ve_v 3) va_nil))) va_nil)) (vg_n 7 nd) (vb_cons (vs_set 9 nd (ve_def d__law_draw tk (hr.mono (by decide)) (va_cons (ve_v 0) (va_cons (ve_v 1) (va_cons (ve_op op_addA of_add ve_int (ve_v 7)) va_nil))) rfl (la_cons (la_cons (la_cons la_nil)))))
      (vb_cons (vs_set 10 nd (ve_tup (va_cons (ve_op (fla := true) (flb := true) op_mod of_mod (ve_v 7) ve_int) (va_cons (ve_op op_addA of_add ve_str (ve_ix (flb := true) (ru1 hr) (ve_v 3) (ve_op (fla := true) (flb := true) op_fdiv of_fdiv (ve_v 7) ve_int))) va_nil))))
      (vb_cons (vs_set 11 nd (ve_tup (va_cons (ve_op (fla := true) (flb := true) op_mod of_mod (ve_v 9) (ve_v 4)) (va_cons (ve_op op_addA of_add ve_str (ve_ix (flb := true) (ru1 hr) (ve_v 3) (ve_op (fla := true) (flb := true) op_fdiv of_fdiv (ve_v 7) ve_int))) va_nil))))
      (vb_one (vs_if (vt_w (vw_and (vt_cmp (fla := true) (flb := true) op_lt (nomark _) of_lt (ve_op (fla := true) (flb := true) op_mod of_mod (ve_v 7) ve_int) (ve_v 4)) (vw_and (vt_cmp (fla := true) (flb := true) op_ge (nomark _) of_ge (ve_op (fla := true) (flb := true) op_mod of_mod (ve_op (fla := true) (flb := true) op_fdiv of_fdiv (ve_v 9) ve_int) ve_int) (ve_v 5)) (vw_and (vt_cmp (fla := true) (flb := false) (op_notInX (ru65 hr)) (by rfl) of_notInX (ve_v 10) (ve_b 6)) (vw_and1 (vt_cmp (fla := true) (flb := false) (op_notInX (ru65 hr)) (by rfl) of_notInX (ve_v 11) (ve_b 6))))))) (vb_cons (vs_put 6 (fla := true) (ru1 hr) (ve_v 10) (ve_op (fla := true) (flb := true) op_mod of_mod (ve_v 9) (ve_v 4)))
      (vb_one (vs_put 6 (fla := true) (ru1 hr) (ve_v 11) (ve_op (fla := true) (flb := true) op_mod of_mod (ve_v 7) ve_int)))) vb_nil))))))
      (vb_cons (vs_own 8 nd vf_dic0)
      (vb_cons (vs_for po rfl (vi_range1 (fl := true) B.range (va_cons (ve_bi (fla := true) call_len cf_len B.len PySem.boot_len (va_cons (ve_v 2) va_nil)) va_nil)) (vg_n 7 nd) (vb_one (vs_put 8 (fla := true) (ru1 hr) (ve_ix (flb := true) (ru1 hr) (ve_v 2) (ve_v 7)) (ve_op (fla := true) (flb := true) op_mod of_mod (ve_def d__law_draw tk (hr.mono (by decide)) (va_cons (ve_v 0) (va_cons (ve_v 1) (va_cons (ve_op op_addA of_add ve_int (ve_v 7)) va_nil))) rfl (la_cons (la_cons (la_cons la_nil)))) (ve_v 4)))))
      (vb_one (vs_give 8 (vs_give 6 (vs_ret (ve_lst (va_cons (ve_v 4) (va_cons (ve_v 8) (va_cons (ve_v 6) va_nil))))))))))))))
abbrev N__law_big_store : List Str := ["_law_script", "_law_k", "_law_starts", "_law_patches", "_law_size", "_law_leads", "_law_at", "_law_names_here", "_law_shift", "_law_cut", "_law_source", "_law_target"]
theorem sc__law_big_store : FnScope N__law_big_store ["_law_script", "_law_k", "_law_starts", "_law_patches"] (defScope s__law_big_store) := ⟨rfl, rfl, rfl, by decide +kernel, rfl, by decide +kernel, by decide +kernel⟩
set_option maxHeartbeats 4000000 in
theorem v__law_big_store (B : Blt mg) (R : Raw K mg "_law_big_store" s__law_big_store ["_law_script", "_law_k", "_law_starts", "_law_patches"]) (d__law_draw : DefOk P w K mg base "_law_draw" 1 ["_law_script", "_law_k", "_law_j"] 3 m__law_draw) : DefOk P w K mg base "_law_big_store" 2 ["_law_script", "_law_k", "_law_starts", "_law_patches"] 4 m__law_big_store := by
  have nd := sc__law_big_store.nd
  refine def_v N__law_big_store b__law_big_store R sc__law_big_store rfl rfl (fun f cdv A outer s H E hr tk po => ?_)
  exact (vb_cons (vs_set 4 nd (ve_op op_addA of_add ve_int (ve_op (fla := true) (flb := true) op_mod of_mod (ve_def d__law_draw tk (hr.mono (by decide)) (va_cons (ve_v 0) (va_cons (ve_v 1) (va_cons ve_int va_nil))) rfl (la_cons (la_cons (la_cons la_nil)))) ve_int)))
      (vb_cons (vs_own 5 nd vf_dic1)
      (vb_cons (vs_for po rfl (vi_range1 (fl := true) B.range (va_cons (ve_bi (fla := true) call_len cf_len B.len PySem.boot_len (va_cons (ve_v 3) va_nil)) va_nil)) (vg_n 6 nd) (vb_cons (vs_set 8 nd (ve_op (fla := true) (flb := true) op_mod of_mod (ve_def d__law_draw tk (hr.mono (by decide)) (va_cons (ve_v 0) (va_cons (ve_v 1) (va_cons (ve_op op_addA of_add ve_int (ve_v 6)) va_nil))) rfl (la_cons (la_cons (la_cons la_nil)))) (ve_v 4)))
      (vb_cons (vs_set 9 nd (ve_op op_addA of_add ve_int (ve_op (fla := true) (flb := true) op_mod of_mod (ve_def d__law_draw tk (hr.mono (by decide)) (va_cons (ve_v 0) (va_cons (ve_v 1) (va_cons (ve_op op_addA of_add ve_int (ve_v 6)) va_nil))) rfl (la_cons (la_cons (la_cons la_nil)))) (ve_v 4))))
      (vb_one (vs_for po rfl (vi_range1 (fl := true) B.range (va_cons (ve_v 9) va_nil)) (vg_n 10 nd) (vb_cons (vs_set 11 nd (ve_op (fla := true) (flb := true) op_mod of_mod (ve_ty (fla := true) call_int1 cf_int B.int (by decide +kernel) (va_cons (ve_op op_addA of_add (ve_v 10) (ve_v 8)) va_nil)) (ve_v 4)))
      (vb_one (vs_if (vt_w (vw_and (vt_cmp (fla := true) (flb := false) (op_notInX (ru65 hr)) (by rfl) of_notInX (ve_tup (va_cons (ve_v 10) (va_cons (ve_op op_addA of_add ve_str (ve_ix (flb := true) (ru1 hr) (ve_v 3) (ve_v 6))) va_nil))) (ve_b 5)) (vw_and1 (vt_cmp (fla := true) (flb := false) (op_notInX (ru65 hr)) (by rfl) of_notInX (ve_tup (va_cons (ve_v 11) (va_cons (ve_op op_addA of_add ve_str (ve_ix (flb := true) (ru1 hr) (ve_v 3) (ve_v 6))) va_nil))) (ve_b 5))))) (vb_cons (vs_put 5 (fla := true) (ru1 hr) (ve_tup (va_cons (ve_v 10) (va_cons (ve_op op_addA of_add ve_str (ve_ix (flb := true) (ru1 hr) (ve_v 3) (ve_v 6))) va_nil))) (ve_v 11))
      (vb_one (vs_put 5 (fla := true) (ru1 hr) (ve_tup (va_cons (ve_v 11) (va_cons (ve_op op_addA of_add ve_str (ve_ix (flb := true) (ru1 hr) (ve_v 3) (ve_v 6))) va_nil))) (ve_v 10)))) vb_nil))))))))
      (vb_cons (vs_own 7 nd vf_dic0)
      (vb_cons (vs_for po rfl (vi_range1 (fl := true) B.range (va_cons (ve_bi (fla := true) call_len cf_len B.len PySem.boot_len (va_cons (ve_v 2) va_nil)) va_nil)) (vg_n 6 nd) (vb_one (vs_put 7 (fla := true) (ru1 hr) (ve_ix (flb := true) (ru1 hr) (ve_v 2) (ve_v 6)) (ve_op (fla := true) (flb := true) op_mod of_mod (ve_def d__law_draw tk (hr.mono (by decide)) (va_cons (ve_v 0) (va_cons (ve_v 1) (va_cons (ve_op op_addA of_add ve_int (ve_v 6)) va_nil))) rfl (la_cons (la_cons (la_cons la_nil)))) (ve_v 4)))))
      (vb_one (vs_give 7 (vs_give 5 (vs_ret (ve_lst (va_cons (ve_v 4) (va_cons (ve_v 7) (va_cons (ve_v 5) va_nil)))))))))))))
abbrev N__law_drawn_store : List Str := ["_law_script", "_law_k", "_law_starts", "_law_patches"]
theorem sc__law_drawn_store : FnScope N__law_drawn_store ["_law_script", "_law_k", "_law_starts", "_law_patches"] (defScope s__law_drawn_store) := ⟨rfl, rfl, rfl, by decide +kernel, rfl, by decide +kernel, by decide +kernel⟩
set_option maxHeartbeats 4000000 in
theorem v__law_drawn_store (B : Blt mg) (R : Raw K mg "_law_drawn_store" s__law_drawn_store ["_law_script", "_law_k", "_law_starts", "_law_patches"]) (d__law_draw : DefOk P w K mg base "_law_draw" 1 ["_law_script", "_law_k", "_law_j"] 3 m__law_draw) (d__law_big_store : DefOk P w K mg base "_law_big_store" 2 ["_law_script", "_law_k", "_law_starts", "_law_patches"] 4 m__law_big_store) (d__law_store : DefOk P w K mg base "_law_store" 2 ["_law_script", "_law_k", "_law_starts", "_law_patches"] 4 m__law_store) : DefOk P w K mg base "_law_drawn_store" 3 ["_law_script", "_law_k", "_law_starts", "_law_patches"] 4 m__law_drawn_store := by
  have nd := sc__law_drawn_store.nd
  refine def_v N__law_drawn_store b__law_drawn_store R sc__law_drawn_store rfl rfl (fun f cdv A outer s H E hr tk po => ?_)
  exact (vb_cons (vs_if (vt_cmp (fla := true) (flb := true) (op_eqD hr.units) (nomark _) of_eq (ve_op (fla := true) (flb := true) op_mod of_mod (ve_def d__law_draw tk (hr.mono (by decide)) (va_cons (ve_v 0) (va_cons ve_int (va_cons ve_int va_nil))) rfl (la_cons (la_cons (la_cons la_nil)))) ve_int) ve_int) (vb_one (vs_ret (ve_def d__law_big_store tk (hr.mono (by decide)) (va_cons (ve_v 0) (va_cons (ve_v 1) (va_cons (ve_v 2) (va_cons (ve_v 3) va_nil)))) rfl (la_cons (la_cons (la_cons (la_cons la_nil))))))) vb_nil)
      (vb_one (vs_ret (ve_def d__law_store tk (hr.mono (by decide)) (va_cons (ve_v 0) (va_cons (ve_v 1) (va_cons (ve_v 2) (va_cons (ve_v 3) va_nil)))) rfl (la_cons (la_cons (la_cons (la_cons la_nil))))))))
abbrev N__law_run : List Str := ["_law_script", "_law_k", "_law_j", "_law_store_here", "_law_patches", "_law_most", "_law_names_here", "_law_steps", "_law_run_here", "_law_at", "_law_turn", "_law_draw_here", "_law_step", "_law_options", "_law_patch", "_law_one"]
theorem sc__law_run : FnScope N__law_run ["_law_script", "_law_k", "_law_j", "_law_store_here", "_law_patches", "_law_most"] (defScope s__law_run) := ⟨rfl, rfl, rfl, by decide +kernel, rfl, by decide +kernel, by decide +kernel⟩
set_option maxHeartbeats 4000000 in
theorem v__law_run (B : Blt mg) (R : Raw K mg "_law_run" s__law_run ["_law_script", "_law_k", "_law_j", "_law_store_here", "_law_patches", "_law_most"]) (d__law_draw : DefOk P w K mg base "_law_draw" 1 ["_law_script", "_law_k", "_law_j"] 3 m__law_draw) : DefOk P w K mg base "_law_run" 2 ["_law_script", "_law_k", "_law_j", "_law_store_here", "_law_patches", "_law_most"] 6 m__law_run := by
  have nd := sc__law_run.nd
  refine def_v N__law_run b__law_run R sc__law_run rfl rfl (fun f cdv A outer s H E hr tk po => ?_)
  exact (vb_cons (vs_set 6 nd (ve_ty (cr_listX rfl) cf_listX B.list (by decide +kernel) (va_cons (ve_ix (flb := true) (ru1 hr) (ve_v 3) ve_int) va_nil)))
      (vb_cons (vs_set 7 nd (ve_op op_addA of_add (ve_new (vf_lc (own := [("_law_patch", 14)]) rfl nd (vi_seq (ve_v 4)) (blkOk_by (N := N__law_run) (sc := defScope s__law_run) (by decide +kernel)) (fun _ _ _ _ _ => (vgc_n 14 (by decide) nd)) (fun _ _ _ _ _ => vts_nil) (fun _ _ _ _ _ => (ve_op op_addA of_add ve_str (ve_v 14))))) (ve_new (vf_lc (own := [("_law_patch", 14)]) rfl nd (vi_seq (ve_v 4)) (blkOk_by (N := N__law_run) (sc := defScope s__law_run) (by decide +kernel)) (fun _ _ _ _ _ => (vgc_n 14 (by decide) nd)) (fun _ _ _ _ _ => vts_nil) (fun _ _ _ _ _ => (ve_op op_addA of_add ve_str (ve_v 14)))))))
      (vb_cons (vs_set 8 nd (ve_tup (va_cons (ve_ix (flb := true) (ru1 hr) (ve_v 6) (ve_op (fla := true) (flb := true) op_mod of_mod (ve_def d__law_draw tk (hr.mono (by decide)) (va_cons (ve_v 0) (va_cons (ve_v 1) (va_cons (ve_v 2) va_nil))) rfl (la_cons (la_cons (la_cons la_nil)))) (ve_bi (fla := true) call_len cf_len B.len PySem.boot_len (va_cons (ve_v 6) va_nil)))) va_nil)))
      (vb_cons (vs_set 9 nd (ve_ix (flb := true) (ru1 hr) (ve_ix (flb := true) (ru1 hr) (ve_v 3) ve_int) (ve_ix (flb := true) (ru1 hr) (ve_v 8) ve_int)))
      (vb_cons (vs_for po rfl (vi_range1 (fl := true) B.range (va_cons (ve_op (fla := true) (flb := true) op_mod of_mod (ve_def d__law_draw tk (hr.mono (by decide)) (va_cons (ve_v 0) (va_cons (ve_v 1) (va_cons (ve_op op_addA of_add (ve_v 2) ve_int) va_nil))) rfl (la_cons (la_cons (la_cons la_nil)))) (ve_op op_addA of_add (ve_v 5) ve_int)) va_nil)) (vg_n 10 nd) (vb_cons (vs_set 11 nd (ve_def d__law_draw tk (hr.mono (by decide)) (va_cons (ve_v 0) (va_cons (ve_v 1) (va_cons (ve_op op_addA of_add (ve_op op_addA of_add (ve_v 2) ve_int) (ve_v 10)) va_nil))) rfl (la_cons (la_cons (la_cons la_nil)))))
      (vb_cons (vs_set 12 nd (ve_ix (flb := true) (ru1 hr) (ve_v 7) (ve_op (fla := true) (flb := true) op_mod of_mod (ve_v 11) (ve_bi (fla := true) call_len cf_len B.len PySem.boot_len (va_cons (ve_v 7) va_nil)))))
      (vb_cons (vs_lcSet 13 (own := [("_law_one", 15)]) rfl nd (vi_seq (ve_v 7)) (blkOk_by (N := N__law_run) (sc := defScope s__law_run) (by decide +kernel)) (fun _ _ _ _ _ => (vgc_n 15 (by decide) nd)) (fun _ _ _ _ _ => (vts_one (vt_cmp (fla := true) (flb := true) (op_inZ (ru65 hr)) (by rfl) of_inZ (ve_tup (va_cons (ve_v 9) (va_cons (ve_v 15) va_nil))) (ve_ix (flb := true) (ru1 hr) (ve_v 3) ve_int)))) (fun _ _ _ _ _ => (ve_v 15)))
      (vb_cons (vs_if (vt_w (vw_and (vt_cmp (fla := true) (flb := true) op_gt (nomark _) of_gt (ve_op (fla := true) (flb := true) op_mod of_mod (ve_op (fla := true) (flb := true) op_fdiv of_fdiv (ve_v 11) ve_int) ve_int) ve_int) (vw_and1 (vt_cmp (fla := true) (flb := true) (op_neD hr.units) (nomark _) of_ne (ve_v 13) (ve_lst va_nil))))) (vb_one (vs_set 12 nd (ve_ix (flb := true) (ru1 hr) (ve_v 13) (ve_op (fla := true) (flb := true) op_mod of_mod (ve_op (fla := true) (flb := true) op_fdiv of_fdiv (ve_v 11) ve_int) (ve_bi (fla := true) call_len cf_len B.len PySem.boot_len (va_cons (ve_v 13) va_nil)))))) vb_nil)
      (vb_cons (vs_set 8 nd (ve_op op_addA of_add (ve_v 8) (ve_tup (va_cons (ve_v 12) va_nil))))
      (vb_one (vs_set 9 nd (ve_get1 (flb := true) (ru1 hr) (ve_ix (flb := true) (ru1 hr) (ve_v 3) ve_int) (ve_tup (va_cons (ve_v 9) (va_cons (ve_v 12) va_nil))))))))))))
      (vb_one (vs_ret (ve_v 8))))))))
abbrev N__law_many : List Str := ["_law_script", "_law_j"]
theorem sc__law_many : FnScope N__law_many ["_law_script", "_law_j"] (defScope s__law_many) := ⟨rfl, rfl, rfl, by decide +kernel, rfl, by decide +kernel, by decide +kernel⟩
set_option maxHeartbeats 4000000 in
theorem v__law_many (B : Blt mg) (R : Raw K mg "_law_many" s__law_many ["_law_script", "_law_j"]) (d__law_draw : DefOk P w K mg base "_law_draw" 1 ["_law_script", "_law_k", "_law_j"] 3 m__law_draw) : DefOk P w K mg base "_law_many" 2 ["_law_script", "_law_j"] 2 m__law_many := by
  have nd := sc__law_many.nd
  refine def_v N__law_many b__law_many R sc__law_many rfl rfl (fun f cdv A outer s H E hr tk po => ?_)
  exact (vb_one (vs_ret (ve_ix (flb := true) (ru1 hr) (ve_lst (va_cons ve_int (va_cons ve_int (va_cons ve_int (va_cons ve_int (va_cons ve_int (va_cons ve_int (va_cons ve_int (va_cons ve_int va_nil))))))))) (ve_op (fla := true) (flb := true) op_mod of_mod (ve_def d__law_draw tk (hr.mono (by decide)) (va_cons (ve_v 0) (va_cons ve_int (va_cons (ve_v 1) va_nil))) rfl (la_cons (la_cons (la_cons la_nil)))) ve_int))))
abbrev N_is_name : List Str := ["text", "char"]
theorem sc_is_name : FnScope N_is_name ["text"] (defScope s_is_name) := ⟨rfl, rfl, rfl, by decide +kernel, rfl, by decide +kernel, by decide +kernel⟩
set_option maxHeartbeats 4000000 in
theorem v_is_name (B : Blt mg) (R : Raw K mg "is_name" s_is_name ["text"]) {t_LONGEST_NAME : Tok} (C_LONGEST_NAME : mg "LONGEST_NAME" = some (.int 12 t_LONGEST_NAME)) {t_LETTERS : Tok} (C_LETTERS : mg "LETTERS" = some (.str "abcdefghijklmnopqrstuvwxyz" t_LETTERS)) {t_DIGITS : Tok} (C_DIGITS : mg "DIGITS" = some (.str "0123456789" t_DIGITS)) : DefOk P w K mg base "is_name" 1 ["text"] 1 m_is_name := by
  have nd := sc_is_name.nd
  refine def_v N_is_name b_is_name R sc_is_name rfl rfl (fun f cdv A outer s H E hr tk po => ?_)
  exact (vb_cons (vs_if (vt_w (vw_or (vt_not (vt_chain (fla := true) (flb := true) (flc := true) op_le of_le op_le of_le ve_int (ve_bi (fla := true) call_len cf_len B.len PySem.boot_len (va_cons (ve_v 0) va_nil)) (ve_gInt C_LONGEST_NAME))) (vw_or1 (vt_cmp (fla := true) (flb := true) (op_notInA (ru65 hr)) (by rfl) of_notIn (ve_ix (flb := true) (ru1 hr) (ve_v 0) ve_int) (ve_gStr C_LETTERS))))) (vb_one (vs_ret ve_bl)) vb_nil)
      (vb_cons (vs_for po rfl (vi_seq (ve_v 0)) (vg_n 1 nd) (vb_one (vs_if (vt_w (vw_and (vt_cmp (fla := true) (flb := true) (op_notInA (ru65 hr)) (by rfl) of_notIn (ve_v 1) (ve_gStr C_LETTERS)) (vw_and1 (vt_cmp (fla := true) (flb := true) (op_notInA (ru65 hr)) (by rfl) of_notIn (ve_v 1) (ve_gStr C_DIGITS))))) (vb_one (vs_ret ve_bl)) vb_nil)))
      (vb_one (vs_ret ve_bl))))
abbrev N_check_store : List Str := ["contents", "starts", "moves", "name", "taken", "source", "patch", "target"]
theorem sc_check_store : FnScope N_check_store ["contents", "starts", "moves"] (defScope s_check_store) := ⟨rfl, rfl, rfl, by decide +kernel, rfl, by decide +kernel, by decide +kernel⟩
set_option maxHeartbeats 4000000 in
theorem v_check_store (B : Blt mg) (R : Raw K mg "check_store" s_check_store ["contents", "starts", "moves"]) (Z_BadStore : ExZ K mg "BadStore") (d_is_name : DefOk P w K mg base "is_name" 1 ["text"] 1 m_is_name) : DefOk P w K mg base "check_store" 2 ["contents", "starts", "moves"] 3 m_check_store := by
  have nd := sc_check_store.nd
  refine def_v N_check_store b_check_store R sc_check_store rfl rfl (fun f cdv A outer s H E hr tk po => ?_)
  exact (vb_cons (vs_forDX tk po rfl (vd_v 1) (vg_n 3 nd) (fun W tk => (vb_one (vs_if (vt_w (vw_or (vt_not (vt_val (fl := true) (ve_def d_is_name tk (hr.mono (by decide)) (va_cons (ve_v 3) va_nil) rfl (la_cons la_nil)))) (vw_or1 (vt_not (vt_chain (fla := true) (flb := true) (flc := true) op_le of_le op_lt of_lt ve_int (ve_ix (flb := true) (ru1 hr) (ve_v 1) (ve_v 3)) (ve_v 0)))))) (vb_one (vs_raiseZ rfl tk Z_BadStore)) vb_nil))))
      (vb_cons (vs_own 4 nd vf_dic1)
      (vb_one (vs_for po rfl (vi_seq (ve_v 2)) (vg_tup rfl (vgs_cons (vg_n 5 nd) (vgs_cons (vg_n 6 nd) (vgs_cons (vg_n 7 nd) vgs_nil)))) (vb_cons (vs_if (vt_w (vw_or (vt_not (vt_val (fl := true) (ve_def d_is_name tk (hr.mono (by decide)) (va_cons (ve_v 6) va_nil) rfl (la_cons la_nil)))) (vw_or (vt_not (vt_chain (fla := true) (flb := true) (flc := true) op_le of_le op_lt of_lt ve_int (ve_v 5) (ve_v 0))) (vw_or1 (vt_not (vt_chain (fla := true) (flb := true) (flc := true) op_le of_le op_lt of_lt ve_int (ve_v 7) (ve_v 0))))))) (vb_one (vs_raiseZ rfl tk Z_BadStore)) vb_nil)
      (vb_cons (vs_if (vt_w (vw_or (vt_cmp (fla := true) (flb := false) (op_inX (ru65 hr)) (by rfl) of_inX (ve_tup (va_cons (ve_v 5) (va_cons (ve_op op_addA of_add ve_str (ve_v 6)) va_nil))) (ve_b 4)) (vw_or1 (vt_cmp (fla := true) (flb := false) (op_inX (ru65 hr)) (by rfl) of_inX (ve_tup (va_cons (ve_v 7) (va_cons (ve_op op_addA of_add ve_str (ve_v 6)) va_nil))) (ve_b 4))))) (vb_one (vs_raiseZ rfl tk Z_BadStore)) vb_nil)
      (vb_cons (vs_put 4 (fla := true) (ru1 hr) (ve_tup (va_cons (ve_v 5) (va_cons (ve_op op_addA of_add ve_str (ve_v 6)) va_nil))) ve_bl)
      (vb_one (vs_put 4 (fla := true) (ru1 hr) (ve_tup (va_cons (ve_v 7) (va_cons (ve_op op_addA of_add ve_str (ve_v 6)) va_nil))) ve_bl)))))))))
abbrev N_Store___init__ : List Str := ["self", "contents", "starts", "moves", "leads", "source", "patch", "target", "name"]
theorem sc_Store___init__ : FnScope N_Store___init__ ["self", "contents", "starts", "moves"] (defScope s_Store___init__) := ⟨rfl, rfl, rfl, by decide +kernel, rfl, by decide +kernel, by decide +kernel⟩
set_option maxHeartbeats 4000000 in
theorem v_Store___init__ (B : Blt mg) (R : RawK K mg "Store" "Store.__init__" s_Store___init__ ["self", "contents", "starts", "moves"]) (CL_Store : ClsOk K mg "Store" ["content_count", "start_contents", "leads"]) (d_check_store : DefOk P w K mg base "check_store" 2 ["contents", "starts", "moves"] 3 m_check_store) : InitOk P w K mg base "Store" 3 ["self", "contents", "starts", "moves"] 4 m_Store___init__ := by
  have nd := sc_Store___init__.nd
  refine init_v "self" ["contents", "starts", "moves", "leads", "source", "patch", "target", "name"] b_Store___init__ R sc_Store___init__ rfl rfl (fun f cdv A outer s H E hr tk po => ?_)
  exact (vb_cons (vs_expr (fl := true) (ve_def d_check_store tk (hr.mono (by decide)) (va_cons (ve_v 1) (va_cons (ve_v 2) (va_cons (ve_v 3) va_nil))) rfl (la_cons (la_cons (la_cons la_nil)))))
      (vb_cons (vs_setf 0 CL_Store (ve_v 1))
      (vb_cons (vs_setf 0 CL_Store (ve_new (vf_dc (own := [("name", 8)]) rfl nd (vi_seq (ve_new (vf_sorted (fla := true) B.sorted (va_cons (ve_new (vf_lcD (own := [("name", 8)]) rfl nd (vd_v 2) (blkOk_by (N := N_Store___init__) (sc := defScope s_Store___init__) (by decide +kernel)) (fun _ _ _ _ _ => (vgc_n 8 (by decide) nd)) (fun _ _ _ _ _ => vts_nil) (fun _ _ _ _ _ => (ve_ty (fla := true) SkE.call_str_str cf_str B.str (by decide +kernel) (va_cons (ve_v 8) va_nil))))) va_nil)))) (blkOk_by (N := N_Store___init__) (sc := defScope s_Store___init__) (by decide +kernel)) (fun _ _ _ _ _ => (vgc_n 8 (by decide) nd)) (fun _ _ _ _ _ => (ve_v 8)) (fun _ _ _ _ _ => (ve_ix (flb := true) (ru1 hr) (ve_v 2) (ve_v 8))))))
      (vb_cons (vs_own 4 nd vf_dic1)
      (vb_cons (vs_for po rfl (vi_seq (ve_v 3)) (vg_tup rfl (vgs_cons (vg_n 5 nd) (vgs_cons (vg_n 6 nd) (vgs_cons (vg_n 7 nd) vgs_nil)))) (vb_cons (vs_put 4 (fla := true) (ru1 hr) (ve_tup (va_cons (ve_v 5) (va_cons (ve_op op_addA of_add ve_str (ve_v 6)) va_nil))) (ve_v 7))
      (vb_one (vs_put 4 (fla := true) (ru1 hr) (ve_tup (va_cons (ve_v 7) (va_cons (ve_op op_addA of_add ve_str (ve_v 6)) va_nil))) (ve_v 5)))))
      (vb_one (vs_give 4 (vs_setf 0 CL_Store (ve_v 4)))))))))
abbrev N__law_moves : List Str := ["_law_store_here", "_law_moves_here", "_law_there"]
theorem sc__law_moves : FnScope N__law_moves ["_law_store_here"] (defScope s__law_moves) := ⟨rfl, rfl, rfl, by decide +kernel, rfl, by decide +kernel, by decide +kernel⟩
set_option maxHeartbeats 4000000 in
theorem v__law_moves (B : Blt mg) (R : Raw K mg "_law_moves" s__law_moves ["_law_store_here"]) : DefOk P w K mg base "_law_moves" 1 ["_law_store_here"] 1 m__law_moves := by
  have nd := sc__law_moves.nd
  refine def_v N__law_moves b__law_moves R sc__law_moves rfl rfl (fun f cdv A outer s H E hr tk po => ?_)
  exact (vb_cons (vs_own 1 nd (vf_lst va_nil))
      (vb_cons (vs_forD po rfl (vd_ix 0) (vg_n 2 nd) (vb_one (vs_if (vt_cmp (fla := true) (flb := true) (op_eqD hr.units) (nomark _) of_eq (ve_ix (flb := true) (ru1 hr) (ve_ix (flb := true) (ru1 hr) (ve_v 2) ve_int) ve_int) ve_str) (vb_one (vs_app 1 (ve_tup (va_cons (ve_ix (flb := true) (ru1 hr) (ve_v 2) ve_int) (va_cons (ve_sl (ve_ix (flb := true) (ru1 hr) (ve_v 2) ve_int) (vo_some (fl := true) ve_int) vo_none) (va_cons (ve_ix (flb := true) (ru1 hr) (ve_ix (flb := true) (ru1 hr) (ve_v 0) ve_int) (ve_v 2)) va_nil)))))) vb_nil)))
      (vb_one (vs_give 1 (vs_ret (ve_v 1))))))
abbrev N__law_made : List Str := ["_law_store_here"]
theorem sc__law_made : FnScope N__law_made ["_law_store_here"] (defScope s__law_made) := ⟨rfl, rfl, rfl, by decide +kernel, rfl, by decide +kernel, by decide +kernel⟩
set_option maxHeartbeats 4000000 in
theorem v__law_made (B : Blt mg) (R : Raw K mg "_law_made" s__law_made ["_law_store_here"]) (d__law_moves : DefOk P w K mg base "_law_moves" 1 ["_law_store_here"] 1 m__law_moves) (I_Store : InitOk P w K mg base "Store" 3 ["self", "contents", "starts", "moves"] 4 m_Store___init__) : DefOk P w K mg base "_law_made" 5 ["_law_store_here"] 1 m__law_made := by
  have nd := sc__law_made.nd
  refine def_v N__law_made b__law_made R sc__law_made rfl rfl (fun f cdv A outer s H E hr tk po => ?_)
  exact (vb_one (vs_ret (ve_make I_Store tk (hr.mono (by decide)) (va_cons (ve_ix (flb := true) (ru1 hr) (ve_v 0) ve_int) (va_cons (ve_ty call_dictD cf_dict B.dict (by decide +kernel) (va_cons (ve_ix (flb := true) (ru1 hr) (ve_v 0) ve_int) va_nil)) (va_cons (ve_def d__law_moves tk (hr.mono (by decide)) (va_cons (ve_v 0) va_nil) rfl (la_cons la_nil)) va_nil))) (fun env ds h => congrArg (· + 1) ((la_cons (la_cons (la_cons la_nil))) env ds h)))))
abbrev N_is_step : List Str := ["text"]
theorem sc_is_step : FnScope N_is_step ["text"] (defScope s_is_step) := ⟨rfl, rfl, rfl, by decide +kernel, rfl, by decide +kernel, by decide +kernel⟩
set_option maxHeartbeats 4000000 in
theorem v_is_step (B : Blt mg) (R : Raw K mg "is_step" s_is_step ["text"]) (d_is_name : DefOk P w K mg base "is_name" 1 ["text"] 1 m_is_name) : DefOk P w K mg base "is_step" 2 ["text"] 1 m_is_step := by
  have nd := sc_is_step.nd
  refine def_v N_is_step b_is_step R sc_is_step rfl rfl (fun f cdv A outer s H E hr tk po => ?_)
  exact (vb_one (vs_ret (ve_and (fla := true) (ve_cmp (fla := true) (flb := true) (op_inA (ru65 hr)) (by rfl) of_in (ve_sl (ve_v 0) vo_none (vo_some (fl := true) ve_int)) (ve_tup (va_cons ve_str (va_cons ve_str va_nil)))) (ve_one (ve_def d_is_name tk (hr.mono (by decide)) (va_cons (ve_sl (ve_v 0) (vo_some (fl := true) ve_int) vo_none) va_nil) rfl (la_cons la_nil))))))
abbrev N_check_run : List Str := ["run", "step"]
theorem sc_check_run : FnScope N_check_run ["run"] (defScope s_check_run) := ⟨rfl, rfl, rfl, by decide +kernel, rfl, by decide +kernel, by decide +kernel⟩
set_option maxHeartbeats 4000000 in
theorem v_check_run (B : Blt mg) (R : Raw K mg "check_run" s_check_run ["run"]) (E_BadRun : ExI P w K mg base "BadRun" ["run"]) (d_is_name : DefOk P w K mg base "is_name" 1 ["text"] 1 m_is_name) (d_is_step : DefOk P w K mg base "is_step" 2 ["text"] 1 m_is_step) : DefOk P w K mg base "check_run" 3 ["run"] 1 m_check_run := by
  have nd := sc_check_run.nd
  refine def_v N_check_run b_check_run R sc_check_run rfl rfl (fun f cdv A outer s H E hr tk po => ?_)
  exact (vb_cons (vs_if (vt_w (vw_or (vt_cmp (fla := true) (flb := true) (op_eqD hr.units) (nomark _) of_eq (ve_bi (fla := true) call_len cf_len B.len PySem.boot_len (va_cons (ve_v 0) va_nil)) ve_int) (vw_or1 (vt_not (vt_val (fl := true) (ve_def d_is_name tk (hr.mono (by decide)) (va_cons (ve_ix (flb := true) (ru1 hr) (ve_v 0) ve_int) va_nil) rfl (la_cons la_nil))))))) (vb_one (vs_raise rfl tk (hr.mono (by decide)) E_BadRun (va_cons (ve_v 0) va_nil) (by decide))) vb_nil)
      (vb_one (vs_for po rfl (vi_seq (ve_sl (ve_v 0) (vo_some (fl := true) ve_int) vo_none)) (vg_n 1 nd) (vb_one (vs_if (vt_not (vt_val (fl := true) (ve_def d_is_step tk (hr.mono (by decide)) (va_cons (ve_v 1) va_nil) rfl (la_cons la_nil)))) (vb_one (vs_raise rfl tk (hr.mono (by decide)) E_BadRun (va_cons (ve_v 0) va_nil) (by decide))) vb_nil)))))
abbrev N_Store_check_starts : List Str := ["self", "runs", "run"]
theorem sc_Store_check_starts : FnScope N_Store_check_starts ["self", "runs"] (defScope s_Store_check_starts) := ⟨rfl, rfl, rfl, by decide +kernel, rfl, by decide +kernel, by decide +kernel⟩
set_option maxHeartbeats 4000000 in
theorem v_Store_check_starts (B : Blt mg) (R : RawM K mg "Store" "check_starts" "Store.check_starts" s_Store_check_starts ["self", "runs"]) (CL_Store : ClsOk K mg "Store" ["content_count", "start_contents", "leads"]) (E_UnknownStart : ExI P w K mg base "UnknownStart" ["name"]) : MethOk P w K mg base "Store" "check_starts" 3 ["self", "runs"] 2 m_Store_check_starts := by
  have nd := sc_Store_check_starts.nd
  refine meth_v N_Store_check_starts b_Store_check_starts R sc_Store_check_starts rfl rfl (fun f cdv A outer s H E hr tk po => ?_)
  exact (vb_one (vs_for po rfl (vi_seq (ve_v 1)) (vg_n 2 nd) (vb_one (vs_if (vt_cmp (fla := true) (flb := true) (op_notInZ (ru65 hr)) (by rfl) of_notInZ (ve_ix (flb := true) (ru1 hr) (ve_v 2) ve_int) (ve_fld CL_Store (ve_v 0))) (vb_one (vs_raise rfl tk (hr.mono (by decide)) E_UnknownStart (va_cons (ve_ix (flb := true) (ru1 hr) (ve_v 2) ve_int) va_nil) (by decide))) vb_nil))))
abbrev N_Store_end : List Str := ["self", "run", "at", "step"]
theorem sc_Store_end : FnScope N_Store_end ["self", "run"] (defScope s_Store_end) := ⟨rfl, rfl, rfl, by decide +kernel, rfl, by decide +kernel, by decide +kernel⟩
set_option maxHeartbeats 4000000 in
theorem v_Store_end (B : Blt mg) (R : RawM K mg "Store" "end" "Store.end" s_Store_end ["self", "run"]) (CL_Store : ClsOk K mg "Store" ["content_count", "start_contents", "leads"]) (d_check_run : DefOk P w K mg base "check_run" 3 ["run"] 1 m_check_run) (M_Store_check_starts : MethOk P w K mg base "Store" "check_starts" 3 ["self", "runs"] 2 m_Store_check_starts) : MethOk P w K mg base "Store" "end" 4 ["self", "run"] 2 m_Store_end := by
  have nd := sc_Store_end.nd
  refine meth_v N_Store_end b_Store_end R sc_Store_end rfl rfl (fun f cdv A outer s H E hr tk po => ?_)
  exact (vb_cons (vs_expr (fl := true) (ve_def d_check_run tk (hr.mono (by decide)) (va_cons (ve_v 1) va_nil) rfl (la_cons la_nil)))
      (vb_cons (vs_expr (fl := true) (ve_meth M_Store_check_starts tk (hr.mono (by decide)) (ve_v 0) (va_cons (ve_lst (va_cons (ve_v 1) va_nil)) va_nil) rfl (fun env ds h => congrArg (· + 1) ((la_cons la_nil) env ds h))))
      (vb_cons (vs_set 2 nd (ve_ix (flb := true) (ru1 hr) (ve_fld CL_Store (ve_v 0)) (ve_ix (flb := true) (ru1 hr) (ve_v 1) ve_int)))
      (vb_cons (vs_for po rfl (vi_seq (ve_sl (ve_v 1) (vo_some (fl := true) ve_int) vo_none)) (vg_n 3 nd) (vb_cons (vs_if (vt_cmp (fla := true) (flb := true) (op_notInZ (ru65 hr)) (by rfl) of_notInZ (ve_tup (va_cons (ve_v 2) (va_cons (ve_v 3) va_nil))) (ve_fld CL_Store (ve_v 0))) (vb_one (vs_ret ve_non)) vb_nil)
      (vb_one (vs_set 2 nd (ve_ix (flb := true) (ru1 hr) (ve_fld CL_Store (ve_v 0)) (ve_tup (va_cons (ve_v 2) (va_cons (ve_v 3) va_nil))))))))
      (vb_one (vs_ret (ve_v 2)))))))
abbrev N_Store___contains__ : List Str := ["self", "run"]
theorem sc_Store___contains__ : FnScope N_Store___contains__ ["self", "run"] (defScope s_Store___contains__) := ⟨rfl, rfl, rfl, by decide +kernel, rfl, by decide +kernel, by decide +kernel⟩
set_option maxHeartbeats 4000000 in
theorem v_Store___contains__ (B : Blt mg) (R : RawM K mg "Store" "__contains__" "Store.__contains__" s_Store___contains__ ["self", "run"]) (CL_Store : ClsOk K mg "Store" ["content_count", "start_contents", "leads"]) (d_check_run : DefOk P w K mg base "check_run" 3 ["run"] 1 m_check_run) (M_Store_end : MethOk P w K mg base "Store" "end" 4 ["self", "run"] 2 m_Store_end) : MethOk P w K mg base "Store" "__contains__" 5 ["self", "run"] 2 m_Store___contains__ := by
  have nd := sc_Store___contains__.nd
  refine meth_v N_Store___contains__ b_Store___contains__ R sc_Store___contains__ rfl rfl (fun f cdv A outer s H E hr tk po => ?_)
  exact (vb_cons (vs_expr (fl := true) (ve_def d_check_run tk (hr.mono (by decide)) (va_cons (ve_v 1) va_nil) rfl (la_cons la_nil)))
      (vb_one (vs_ret (ve_and (fla := true) (ve_cmp (fla := true) (flb := true) (op_inZ (ru65 hr)) (by rfl) of_inZ (ve_ix (flb := true) (ru1 hr) (ve_v 1) ve_int) (ve_fld CL_Store (ve_v 0))) (ve_one (ve_cmp (fla := true) (flb := true) op_notN (nomark _) of_notN (ve_meth M_Store_end tk (hr.mono (by decide)) (ve_v 0) (va_cons (ve_v 1) va_nil) rfl (fun env ds h => congrArg (· + 1) ((la_cons la_nil) env ds h))) ve_non))))))
abbrev N__law_refused_start : List Str := ["_law_e", "_law_name"]
theorem sc__law_refused_start : FnScope N__law_refused_start ["_law_e", "_law_name"] (defScope s__law_refused_start) := ⟨rfl, rfl, rfl, by decide +kernel, rfl, by decide +kernel, by decide +kernel⟩
set_option maxHeartbeats 4000000 in
theorem v__law_refused_start (B : Blt mg) (R : Raw K mg "_law_refused_start" s__law_refused_start ["_law_e", "_law_name"]) (xo : XObj K) {A_PatchError : Addr} (g_PatchError : mg "PatchError" = some (.ref A_PatchError)) (I_PatchError : ∀ n b, ([("BadStore", true), ("BadRun", true), ("UnknownStart", true)] : List (Str × Bool)).lookup n = some b → ∃ C, XCls K mg n C ∧ PySem.W.kitOne K (.ref C) (.ref A_PatchError) = some b) (I_ValueError : ∀ n b, ([("BadStore", true), ("BadRun", true), ("UnknownStart", true)] : List (Str × Bool)).lookup n = some b → ∃ C, XCls K mg n C ∧ PySem.W.kitOne K (.ref C) (.type "ValueError") = some b) {A_BadRun : Addr} (g_BadRun : mg "BadRun" = some (.ref A_BadRun)) {A_BadFact : Addr} (g_BadFact : mg "BadFact" = some (.ref A_BadFact)) {A_BadStore : Addr} (g_BadStore : mg "BadStore" = some (.ref A_BadStore)) {A_NoStore : Addr} (g_NoStore : mg "NoStore" = some (.ref A_NoStore)) {A_NotForced : Addr} (g_NotForced : mg "NotForced" = some (.ref A_NotForced)) {A_BadLine : Addr} (g_BadLine : mg "BadLine" = some (.ref A_BadLine)) {A_NoFact : Addr} (g_NoFact : mg "NoFact" = some (.ref A_NoFact)) (J_BadRun_BadFact_BadStore_NoStore_NotForced_BadLine_NoFact : ∀ n b, ([("BadStore", true), ("BadRun", true), ("UnknownStart", false)] : List (Str × Bool)).lookup n = some b → ∃ C, XCls K mg n C ∧ PySem.W.kitAny K (.ref C) [.ref A_BadRun, .ref A_BadFact, .ref A_BadStore, .ref A_NoStore, .ref A_NotForced, .ref A_BadLine, .ref A_NoFact] = some b) (K_name : ∀ n, (["UnknownStart"] : List Str).contains n = true → ∃ C, XCls K mg n C ∧ PySem.W.findIn K (.ref C) "name" = some none) : DefOkC P w K mg base "_law_refused_start" 1 ["_law_e", "_law_name"] 2 m__law_refused_start := by
  have nd := sc__law_refused_start.nd
  refine def_vC N__law_refused_start b__law_refused_start R sc__law_refused_start rfl rfl (fun f cdv A outer s H E p hr tk => ?_)
  exact (vb_cons (vs_if (vt_w (vw_or (vt_not (vt_val (fl := true) (ve_isX (fla := true) (tbl := [("BadStore", true), ("BadRun", true), ("UnknownStart", true)]) xo (ve_v 0) (vc_own g_PatchError) I_PatchError B.isinstance))) (vw_or1 (vt_not (vt_val (fl := true) (ve_isX (fla := true) (tbl := [("BadStore", true), ("BadRun", true), ("UnknownStart", true)]) xo (ve_v 0) (vc_blt B.ValueError (by decide +kernel)) I_ValueError B.isinstance)))))) (vb_one (vs_ret ve_bl)) vb_nil)
      (vb_cons (vs_if (vt_val (fl := true) (ve_isXT (fla := true) (tbl := [("BadStore", true), ("BadRun", true), ("UnknownStart", false)]) xo (ve_v 0) (vcs_cons (vc_own g_BadRun) (vcs_cons (vc_own g_BadFact) (vcs_cons (vc_own g_BadStore) (vcs_cons (vc_own g_NoStore) (vcs_cons (vc_own g_NotForced) (vcs_cons (vc_own g_BadLine) (vcs_cons (vc_own g_NoFact) vcs_nil))))))) J_BadRun_BadFact_BadStore_NoStore_NotForced_BadLine_NoFact (Nat.le_of_ble_eq_true rfl) B.isinstance)) (vb_one (vs_ret ve_bl)) vb_nil)
      (vb_one (vs_ret (ve_and (fla := true) (ve_isT (T := "str") (fla := true) (ve_xF (cs := ["UnknownStart"]) (ve_v 0) K_name) B.isinstance B.str (by decide +kernel)) (ve_one (ve_cmp (fla := true) (flb := true) (op_eqD (rhu hr)) (nomark _) of_eq (ve_xF (cs := ["UnknownStart"]) (ve_v 0) K_name) (ve_v 1))))))))
abbrev N__law_refused : List Str := ["_law_made_here", "_law_run_here", "_law_e"]
theorem sc__law_refused : FnScope N__law_refused ["_law_made_here", "_law_run_here"] (defScope s__law_refused) := ⟨rfl, rfl, rfl, by decide +kernel, rfl, by decide +kernel, by decide +kernel⟩
set_option maxHeartbeats 4000000 in
theorem v__law_refused (B : Blt mg) (R : Raw K mg "_law_refused" s__law_refused ["_law_made_here", "_law_run_here"]) {A_UnknownStart : Addr} (g_UnknownStart : mg "UnknownStart" = some (.ref A_UnknownStart)) (H_UnknownStart : ∀ c b, ([("BadStore", false), ("BadRun", false), ("UnknownStart", true)] : List (Str × Bool)).lookup c = some b → ∃ C, mg c = some C ∧ PySem.W.exmOne K C (.ref A_UnknownStart) = some b) (c__law_refused_start : DefOkC P w K mg base "_law_refused_start" 1 ["_law_e", "_law_name"] 2 m__law_refused_start) (M_Store___contains__ : MethOk P w K mg base "Store" "__contains__" 5 ["self", "run"] 2 m_Store___contains__) (M_Store_end : MethOk P w K mg base "Store" "end" 4 ["self", "run"] 2 m_Store_end) : DefOk P w K mg base "_law_refused" 6 ["_law_made_here", "_law_run_here"] 2 m__law_refused := by
  have nd := sc__law_refused.nd
  refine def_v N__law_refused b__law_refused R sc__law_refused rfl rfl (fun f cdv A outer s H E hr tk po => ?_)
  exact (vb_cons (vs_if (vt_ownIn (neg := false) M_Store___contains__ tk (hr.mono (by decide)) (ve_v 1) (ve_v 0) (by rfl)) (vb_one (vs_ret ve_bl)) vb_nil)
      (vb_cons (vs_tryN tk rfl rfl nd (fun W pn xe tk po => (vb_one (vs_expr (fl := true) (ve_meth M_Store_end tk (hr.mono (by decide)) (ve_v 0) (va_cons (ve_v 1) va_nil) rfl (fun env ds h => congrArg (· + 1) ((la_cons la_nil) env ds h)))))) (.named (cat := [("BadStore", false), ("BadRun", false), ("UnknownStart", true)]) (i := 2) ⟨rfl, by decide, Or.inl g_UnknownStart⟩ H_UnknownStart rfl rfl (fun a pn => (vb_one (vs_ret (ve_defC c__law_refused_start tkW0 ((rhm hr (some (.ref a))).mono (by decide)) (va_cons (ve_v 2) (va_cons (ve_ix (flb := true) (rh1 (rhm hr (some (.ref a)))) (ve_v 1) ve_int) va_nil)) rfl (la_cons (la_cons la_nil)))))) .nil))
      (vb_one (vs_ret ve_bl))))
abbrev N__law_trail : List Str := ["_law_store_here", "_law_run_here", "_law_trail_here", "_law_step"]
theorem sc__law_trail : FnScope N__law_trail ["_law_store_here", "_law_run_here"] (defScope s__law_trail) := ⟨rfl, rfl, rfl, by decide +kernel, rfl, by decide +kernel, by decide +kernel⟩
set_option maxHeartbeats 4000000 in
theorem v__law_trail (B : Blt mg) (R : Raw K mg "_law_trail" s__law_trail ["_law_store_here", "_law_run_here"]) : DefOk P w K mg base "_law_trail" 1 ["_law_store_here", "_law_run_here"] 2 m__law_trail := by
  have nd := sc__law_trail.nd
  refine def_v N__law_trail b__law_trail R sc__law_trail rfl rfl (fun f cdv A outer s H E hr tk po => ?_)
  exact (vb_cons (vs_own 2 nd (vf_lst (va_cons (ve_ix (flb := true) (ru1 hr) (ve_ix (flb := true) (ru1 hr) (ve_v 0) ve_int) (ve_ix (flb := true) (ru1 hr) (ve_v 1) ve_int)) va_nil)))
      (vb_cons (vs_for po rfl (vi_seq (ve_sl (ve_v 1) (vo_some (fl := true) ve_int) vo_none)) (vg_n 3 nd) (vb_cons (vs_if (vt_cmp (fla := true) (flb := true) (op_notInZ (ru65 hr)) (by rfl) of_notInZ (ve_tup (va_cons (ve_ixo 2 (flb := true) (ru1 hr) (ve_neg (fla := true) ve_int)) (va_cons (ve_v 3) va_nil))) (ve_ix (flb := true) (ru1 hr) (ve_v 0) ve_int)) (vb_one (vs_give 2 (vs_ret (ve_v 2)))) vb_nil)
      (vb_one (vs_app 2 (ve_ix (flb := true) (ru1 hr) (ve_ix (flb := true) (ru1 hr) (ve_v 0) ve_int) (ve_tup (va_cons (ve_ixo 2 (flb := true) (ru1 hr) (ve_neg (fla := true) ve_int)) (va_cons (ve_v 3) va_nil))))))))
      (vb_one (vs_give 2 (vs_ret (ve_v 2))))))
abbrev N__law_is_integer : List Str := ["_law_value"]
theorem sc__law_is_integer : FnScope N__law_is_integer ["_law_value"] (defScope s__law_is_integer) := ⟨rfl, rfl, rfl, by decide +kernel, rfl, by decide +kernel, by decide +kernel⟩
set_option maxHeartbeats 4000000 in
theorem v__law_is_integer (B : Blt mg) (R : Raw K mg "_law_is_integer" s__law_is_integer ["_law_value"]) : DefOk P w K mg base "_law_is_integer" 1 ["_law_value"] 1 m__law_is_integer := by
  have nd := sc__law_is_integer.nd
  refine def_v N__law_is_integer b__law_is_integer R sc__law_is_integer rfl rfl (fun f cdv A outer s H E hr tk po => ?_)
  exact (vb_one (vs_ret (ve_and (fla := true) (ve_isT (T := "int") (fla := true) (ve_v 0) B.isinstance B.int (by decide +kernel)) (ve_one (ve_not (fla := true) (ve_isT (T := "bool") (fla := true) (ve_v 0) B.isinstance B.bool (by decide +kernel)))))))
abbrev N_Store_walk : List Str := ["self", "run", "at", "step"]
theorem sc_Store_walk : GScope N_Store_walk ["self", "run"] (defScope s_Store_walk) := ⟨rfl, rfl, rfl, by decide +kernel, rfl, by decide +kernel, by decide +kernel⟩
set_option maxHeartbeats 4000000 in
theorem v_Store_walk (B : Blt mg) (R : RawM K mg "Store" "walk" "Store.walk" s_Store_walk ["self", "run"]) (CL_Store : ClsOk K mg "Store" ["content_count", "start_contents", "leads"]) : MethOkY P w K mg base "Store" "walk" 1 ["self", "run"] 2 m_Store_walk := by
  have nd := sc_Store_walk.nd
  refine meth_y N_Store_walk b_Store_walk R sc_Store_walk (by decide +kernel) rfl rfl (fun f cd A outer s H pn hr => ?_)
  exact (vbg_cons (vg_s (vs_set 2 nd (ve_ix (flb := true) (ru1 hr) (ve_fld CL_Store (ve_v 0)) (ve_ix (flb := true) (ru1 hr) (ve_v 1) ve_int))))
      (vbg_cons (vg_yield (ve_v 2))
      (vbg_cons (vg_for rfl (vi_seq (ve_sl (ve_v 1) (vo_some (fl := true) ve_int) vo_none)) (vg_n 3 nd) (vbg_cons (vg_ifRet (vt_cmp (fla := true) (flb := true) (op_notInZ (ru65 hr)) (by rfl) of_notInZ (ve_tup (va_cons (ve_v 2) (va_cons (ve_v 3) va_nil))) (ve_fld CL_Store (ve_v 0))))
      (vbg_cons (vg_s (vs_set 2 nd (ve_ix (flb := true) (ru1 hr) (ve_fld CL_Store (ve_v 0)) (ve_tup (va_cons (ve_v 2) (va_cons (ve_v 3) va_nil))))))
      (vbg_cons (vg_yield (ve_v 2))
      vbg_nil))))
      vbg_nil)))
abbrev N__law_asked : List Str := ["_law_made_here", "_law_store_here", "_law_run_here", "_law_trail_here", "_law_told", "_law_at", "_law_end", "_law_content"]
theorem sc__law_asked : FnScope N__law_asked ["_law_made_here", "_law_store_here", "_law_run_here"] (defScope s__law_asked) := ⟨rfl, rfl, rfl, by decide +kernel, rfl, by decide +kernel, by decide +kernel⟩
set_option maxHeartbeats 4000000 in
theorem v__law_asked (B : Blt mg) (R : Raw K mg "_law_asked" s__law_asked ["_law_made_here", "_law_store_here", "_law_run_here"]) (d__law_trail : DefOk P w K mg base "_law_trail" 1 ["_law_store_here", "_law_run_here"] 2 m__law_trail) (d__law_is_integer : DefOk P w K mg base "_law_is_integer" 1 ["_law_value"] 1 m__law_is_integer) (M_Store_walk : MethOkY P w K mg base "Store" "walk" 1 ["self", "run"] 2 m_Store_walk) (M_Store_end : MethOk P w K mg base "Store" "end" 4 ["self", "run"] 2 m_Store_end) (M_Store___contains__ : MethOk P w K mg base "Store" "__contains__" 5 ["self", "run"] 2 m_Store___contains__) : DefOk P w K mg base "_law_asked" 6 ["_law_made_here", "_law_store_here", "_law_run_here"] 3 m__law_asked := by
  have nd := sc__law_asked.nd
  refine def_v N__law_asked b__law_asked R sc__law_asked rfl rfl (fun f cdv A outer s H E hr tk po => ?_)
  exact (vb_cons (vs_set 3 nd (ve_def d__law_trail tk (hr.mono (by decide)) (va_cons (ve_v 1) (va_cons (ve_v 2) va_nil)) rfl (la_cons (la_cons la_nil))))
      (vb_cons (vs_gcSet 4 (own := [("_law_content", 7)]) nd (vy_meth M_Store_walk (hr.mono (by decide)) (ve_v 0) (va_cons (ve_v 2) va_nil) rfl (fun env ds h => congrArg (· + 1) ((la_cons la_nil) env ds h))) (blkOk_by (N := N__law_asked) (sc := defScope s__law_asked) (by decide +kernel)) (hr.mono (by decide)))
      (vb_cons (vs_if (vt_cmp (fla := true) (flb := true) (op_neD hr.units) (nomark _) of_ne (ve_bi (fla := true) call_len cf_len B.len PySem.boot_len (va_cons (ve_v 4) va_nil)) (ve_bi (fla := true) call_len cf_len B.len PySem.boot_len (va_cons (ve_v 3) va_nil))) (vb_one (vs_ret ve_bl)) vb_nil)
      (vb_cons (vs_for po rfl (vi_range1 (fl := true) B.range (va_cons (ve_bi (fla := true) call_len cf_len B.len PySem.boot_len (va_cons (ve_v 3) va_nil)) va_nil)) (vg_n 5 nd) (vb_one (vs_if (vt_w (vw_or (vt_not (vt_val (fl := true) (ve_def d__law_is_integer tk (hr.mono (by decide)) (va_cons (ve_ix (flb := true) (ru1 hr) (ve_v 4) (ve_v 5)) va_nil) rfl (la_cons la_nil)))) (vw_or1 (vt_cmp (fla := true) (flb := true) (op_neD hr.units) (nomark _) of_ne (ve_ix (flb := true) (ru1 hr) (ve_v 4) (ve_v 5)) (ve_ix (flb := true) (ru1 hr) (ve_v 3) (ve_v 5)))))) (vb_one (vs_ret ve_bl)) vb_nil)))
      (vb_cons (vs_set 6 nd (ve_meth M_Store_end tk (hr.mono (by decide)) (ve_v 0) (va_cons (ve_v 2) va_nil) rfl (fun env ds h => congrArg (· + 1) ((la_cons la_nil) env ds h))))
      (vb_cons (vs_if (vt_cmp (fla := true) (flb := true) op_lt (nomark _) of_lt (ve_bi (fla := true) call_len cf_len B.len PySem.boot_len (va_cons (ve_v 3) va_nil)) (ve_bi (fla := true) call_len cf_len B.len PySem.boot_len (va_cons (ve_v 2) va_nil))) (vb_one (vs_ret (ve_and (fla := true) (ve_cmp (fla := true) (flb := true) op_isN (nomark _) of_isN (ve_v 6) ve_non) (ve_one (ve_ownIn (neg := true) M_Store___contains__ tk (hr.mono (by decide)) (ve_v 2) (ve_v 0) (by rfl)))))) vb_nil)
      (vb_one (vs_ret (ve_and (fla := true) (ve_def d__law_is_integer tk (hr.mono (by decide)) (va_cons (ve_v 6) va_nil) rfl (la_cons la_nil)) (ve_and (fla := true) (ve_cmp (fla := true) (flb := true) (op_eqD hr.units) (nomark _) of_eq (ve_v 6) (ve_ix (flb := true) (ru1 hr) (ve_v 3) (ve_neg (fla := true) ve_int))) (ve_one (ve_ownIn (neg := false) M_Store___contains__ tk (hr.mono (by decide)) (ve_v 2) (ve_v 0) (by rfl)))))))))))))
abbrev N__law_unnamed : List Str := ["_law_names_here", "_law_name"]
theorem sc__law_unnamed : FnScope N__law_unnamed ["_law_names_here"] (defScope s__law_unnamed) := ⟨rfl, rfl, rfl, by decide +kernel, rfl, by decide +kernel, by decide +kernel⟩
set_option maxHeartbeats 4000000 in
theorem v__law_unnamed (B : Blt mg) (R : Raw K mg "_law_unnamed" s__law_unnamed ["_law_names_here"]) : DefOk P w K mg base "_law_unnamed" 1 ["_law_names_here"] 1 m__law_unnamed := by
  have nd := sc__law_unnamed.nd
  refine def_v N__law_unnamed b__law_unnamed R sc__law_unnamed rfl rfl (fun f cdv A outer s H E hr tk po => ?_)
  exact (vb_one (vs_ret (ve_ix (flb := true) (ru1 hr) (ve_new (vf_lc (own := [("_law_name", 1)]) rfl nd (vi_seq (ve_lst (va_cons ve_str (va_cons ve_str (va_cons ve_str (va_cons ve_str (va_cons ve_str (va_cons ve_str (va_cons ve_str (va_cons ve_str (va_cons ve_str va_nil))))))))))) (blkOk_by (N := N__law_unnamed) (sc := defScope s__law_unnamed) (by decide +kernel)) (fun _ _ _ _ _ => (vgc_n 1 (by decide) nd)) (fun _ _ _ _ _ => (vts_one (vt_cmp (fla := true) (flb := true) (op_notInZ (ru65 hr)) (by rfl) of_notInZ (ve_v 1) (ve_v 0)))) (fun _ _ _ _ _ => (ve_v 1)))) ve_int)))
abbrev N__law_refused_run : List Str := ["_law_e", "_law_run_here"]
theorem sc__law_refused_run : FnScope N__law_refused_run ["_law_e", "_law_run_here"] (defScope s__law_refused_run) := ⟨rfl, rfl, rfl, by decide +kernel, rfl, by decide +kernel, by decide +kernel⟩
set_option maxHeartbeats 4000000 in
theorem v__law_refused_run (B : Blt mg) (R : Raw K mg "_law_refused_run" s__law_refused_run ["_law_e", "_law_run_here"]) (xo : XObj K) {A_PatchError : Addr} (g_PatchError : mg "PatchError" = some (.ref A_PatchError)) (I_PatchError : ∀ n b, ([("BadStore", true), ("BadRun", true), ("UnknownStart", true)] : List (Str × Bool)).lookup n = some b → ∃ C, XCls K mg n C ∧ PySem.W.kitOne K (.ref C) (.ref A_PatchError) = some b) (I_ValueError : ∀ n b, ([("BadStore", true), ("BadRun", true), ("UnknownStart", true)] : List (Str × Bool)).lookup n = some b → ∃ C, XCls K mg n C ∧ PySem.W.kitOne K (.ref C) (.type "ValueError") = some b) {A_BadFact : Addr} (g_BadFact : mg "BadFact" = some (.ref A_BadFact)) {A_BadStore : Addr} (g_BadStore : mg "BadStore" = some (.ref A_BadStore)) {A_UnknownStart : Addr} (g_UnknownStart : mg "UnknownStart" = some (.ref A_UnknownStart)) {A_NoStore : Addr} (g_NoStore : mg "NoStore" = some (.ref A_NoStore)) {A_NotForced : Addr} (g_NotForced : mg "NotForced" = some (.ref A_NotForced)) {A_BadLine : Addr} (g_BadLine : mg "BadLine" = some (.ref A_BadLine)) {A_NoFact : Addr} (g_NoFact : mg "NoFact" = some (.ref A_NoFact)) (J_BadFact_BadStore_UnknownStart_NoStore_NotForced_BadLine_NoFact : ∀ n b, ([("BadStore", true), ("BadRun", false), ("UnknownStart", true)] : List (Str × Bool)).lookup n = some b → ∃ C, XCls K mg n C ∧ PySem.W.kitAny K (.ref C) [.ref A_BadFact, .ref A_BadStore, .ref A_UnknownStart, .ref A_NoStore, .ref A_NotForced, .ref A_BadLine, .ref A_NoFact] = some b) (K_run : ∀ n, (["BadRun"] : List Str).contains n = true → ∃ C, XCls K mg n C ∧ PySem.W.findIn K (.ref C) "run" = some none) : DefOkC P w K mg base "_law_refused_run" 1 ["_law_e", "_law_run_here"] 2 m__law_refused_run := by
  have nd := sc__law_refused_run.nd
  refine def_vC N__law_refused_run b__law_refused_run R sc__law_refused_run rfl rfl (fun f cdv A outer s H E p hr tk => ?_)
  exact (vb_cons (vs_if (vt_w (vw_or (vt_not (vt_val (fl := true) (ve_isX (fla := true) (tbl := [("BadStore", true), ("BadRun", true), ("UnknownStart", true)]) xo (ve_v 0) (vc_own g_PatchError) I_PatchError B.isinstance))) (vw_or1 (vt_not (vt_val (fl := true) (ve_isX (fla := true) (tbl := [("BadStore", true), ("BadRun", true), ("UnknownStart", true)]) xo (ve_v 0) (vc_blt B.ValueError (by decide +kernel)) I_ValueError B.isinstance)))))) (vb_one (vs_ret ve_bl)) vb_nil)
      (vb_cons (vs_if (vt_val (fl := true) (ve_isXT (fla := true) (tbl := [("BadStore", true), ("BadRun", false), ("UnknownStart", true)]) xo (ve_v 0) (vcs_cons (vc_own g_BadFact) (vcs_cons (vc_own g_BadStore) (vcs_cons (vc_own g_UnknownStart) (vcs_cons (vc_own g_NoStore) (vcs_cons (vc_own g_NotForced) (vcs_cons (vc_own g_BadLine) (vcs_cons (vc_own g_NoFact) vcs_nil))))))) J_BadFact_BadStore_UnknownStart_NoStore_NotForced_BadLine_NoFact (Nat.le_of_ble_eq_true rfl) B.isinstance)) (vb_one (vs_ret ve_bl)) vb_nil)
      (vb_one (vs_ret (ve_and (fla := true) (ve_isT (T := "tuple") (fla := true) (ve_xF (cs := ["BadRun"]) (ve_v 0) K_run) B.isinstance B.tuple (by decide +kernel)) (ve_one (ve_cmp (fla := true) (flb := true) (op_eqD (rhu hr)) (nomark _) of_eq (ve_xF (cs := ["BadRun"]) (ve_v 0) K_run) (ve_v 1))))))))
abbrev N__law_bad : List Str := ["_law_made_here", "_law_run_here", "_law_refused_here", "_law_e"]
theorem sc__law_bad : FnScope N__law_bad ["_law_made_here", "_law_run_here"] (defScope s__law_bad) := ⟨rfl, rfl, rfl, by decide +kernel, rfl, by decide +kernel, by decide +kernel⟩
set_option maxHeartbeats 4000000 in
theorem v__law_bad (B : Blt mg) (R : Raw K mg "_law_bad" s__law_bad ["_law_made_here", "_law_run_here"]) {A_BadRun : Addr} (g_BadRun : mg "BadRun" = some (.ref A_BadRun)) (H_BadRun : ∀ c b, ([("BadStore", false), ("BadRun", true), ("UnknownStart", false)] : List (Str × Bool)).lookup c = some b → ∃ C, mg c = some C ∧ PySem.W.exmOne K C (.ref A_BadRun) = some b) (c__law_refused_run : DefOkC P w K mg base "_law_refused_run" 1 ["_law_e", "_law_run_here"] 2 m__law_refused_run) (M_Store_end : MethOk P w K mg base "Store" "end" 4 ["self", "run"] 2 m_Store_end) (M_Store___contains__ : MethOk P w K mg base "Store" "__contains__" 5 ["self", "run"] 2 m_Store___contains__) : DefOk P w K mg base "_law_bad" 6 ["_law_made_here", "_law_run_here"] 2 m__law_bad := by
  have nd := sc__law_bad.nd
  refine def_v N__law_bad b__law_bad R sc__law_bad rfl rfl (fun f cdv A outer s H E hr tk po => ?_)
  exact (vb_cons (vs_set 2 nd ve_int)
      (vb_cons (vs_tryN tk rfl rfl nd (fun W pn xe tk po => (vb_one (vs_expr (fl := true) (ve_meth M_Store_end tk (hr.mono (by decide)) (ve_v 0) (va_cons (ve_v 1) va_nil) rfl (fun env ds h => congrArg (· + 1) ((la_cons la_nil) env ds h)))))) (.named (cat := [("BadStore", false), ("BadRun", true), ("UnknownStart", false)]) (i := 3) ⟨rfl, by decide, Or.inl g_BadRun⟩ H_BadRun rfl rfl (fun a pn => (vb_one (vs_set 2 nd (ve_op op_addA of_add (ve_v 2) (ve_ty (fla := true) call_int1 cf_int B.int (by decide +kernel) (va_cons (ve_defC c__law_refused_run tkW0 ((rhm hr (some (.ref a))).mono (by decide)) (va_cons (ve_v 3) (va_cons (ve_v 1) va_nil)) rfl (la_cons (la_cons la_nil))) va_nil)))))) .nil))
      (vb_cons (vs_tryN tk rfl rfl nd (fun W pn xe tk po => (vb_one (vs_set 2 nd (ve_op op_addA of_add (ve_v 2) (ve_op (flb := true) op_mulA of_mul ve_int (ve_ty (fla := true) call_int1 cf_int B.int (by decide +kernel) (va_cons (ve_ownIn (neg := false) M_Store___contains__ tk (hr.mono (by decide)) (ve_v 1) (ve_v 0) (by rfl)) va_nil))))))) (.named (cat := [("BadStore", false), ("BadRun", true), ("UnknownStart", false)]) (i := 3) ⟨rfl, by decide, Or.inl g_BadRun⟩ H_BadRun rfl rfl (fun a pn => (vb_one (vs_set 2 nd (ve_op op_addA of_add (ve_v 2) (ve_ty (fla := true) call_int1 cf_int B.int (by decide +kernel) (va_cons (ve_defC c__law_refused_run tkW0 ((rhm hr (some (.ref a))).mono (by decide)) (va_cons (ve_v 3) (va_cons (ve_v 1) va_nil)) rfl (la_cons (la_cons la_nil))) va_nil)))))) .nil))
      (vb_one (vs_ret (ve_cmp (fla := true) (flb := true) (op_eqD hr.units) (nomark _) of_eq (ve_v 2) ve_int))))))
abbrev N_law : List Str := ["_law_script", "_law_patches", "_law_starts", "_law_first", "_law_second", "_law_run_here", "_law_other", "_law_made_here", "_law_turn", "_law_odd"]
theorem sc_law : FnScope N_law ["_law_script"] (defScope s_law) := ⟨rfl, rfl, rfl, by decide +kernel, rfl, by decide +kernel, by decide +kernel⟩
set_option maxHeartbeats 4000000 in
theorem v_law (B : Blt mg) (R : Raw K mg "law" s_law ["_law_script"]) (d__law_names : DefOk P w K mg base "_law_names" 2 ["_law_script", "_law_k", "_law_many_here"] 3 m__law_names) (d__law_many : DefOk P w K mg base "_law_many" 2 ["_law_script", "_law_j"] 2 m__law_many) (d__law_drawn_store : DefOk P w K mg base "_law_drawn_store" 3 ["_law_script", "_law_k", "_law_starts", "_law_patches"] 4 m__law_drawn_store) (d__law_run : DefOk P w K mg base "_law_run" 2 ["_law_script", "_law_k", "_law_j", "_law_store_here", "_law_patches", "_law_most"] 6 m__law_run) (d__law_draw : DefOk P w K mg base "_law_draw" 1 ["_law_script", "_law_k", "_law_j"] 3 m__law_draw) (d__law_made : DefOk P w K mg base "_law_made" 5 ["_law_store_here"] 1 m__law_made) (d__law_asked : DefOk P w K mg base "_law_asked" 6 ["_law_made_here", "_law_store_here", "_law_run_here"] 3 m__law_asked) (d__law_unnamed : DefOk P w K mg base "_law_unnamed" 1 ["_law_names_here"] 1 m__law_unnamed) (d__law_bad : DefOk P w K mg base "_law_bad" 6 ["_law_made_here", "_law_run_here"] 2 m__law_bad) (d__law_refused : DefOk P w K mg base "_law_refused" 6 ["_law_made_here", "_law_run_here"] 2 m__law_refused) : DefOk P w K mg base "law" 7 ["_law_script"] 1 m_law := by
  have nd := sc_law.nd
  refine def_v N_law b_law R sc_law rfl rfl (fun f cdv A outer s H E hr tk po => ?_)
  exact (vb_cons (vs_set 1 nd (ve_def d__law_names tk (hr.mono (by decide)) (va_cons (ve_v 0) (va_cons ve_int (va_cons (ve_def d__law_many tk (hr.mono (by decide)) (va_cons (ve_v 0) (va_cons ve_int va_nil)) rfl (la_cons (la_cons la_nil))) va_nil))) rfl (la_cons (la_cons (la_cons la_nil)))))
      (vb_cons (vs_set 2 nd (ve_def d__law_names tk (hr.mono (by decide)) (va_cons (ve_v 0) (va_cons ve_int (va_cons (ve_def d__law_many tk (hr.mono (by decide)) (va_cons (ve_v 0) (va_cons ve_int va_nil)) rfl (la_cons (la_cons la_nil))) va_nil))) rfl (la_cons (la_cons (la_cons la_nil)))))
      (vb_cons (vs_set 3 nd (ve_def d__law_drawn_store tk (hr.mono (by decide)) (va_cons (ve_v 0) (va_cons ve_int (va_cons (ve_v 2) (va_cons (ve_v 1) va_nil)))) rfl (la_cons (la_cons (la_cons (la_cons la_nil))))))
      (vb_cons (vs_set 4 nd (ve_def d__law_drawn_store tk (hr.mono (by decide)) (va_cons (ve_v 0) (va_cons ve_int (va_cons (ve_v 2) (va_cons (ve_v 1) va_nil)))) rfl (la_cons (la_cons (la_cons (la_cons la_nil))))))
      (vb_cons (vs_set 5 nd (ve_def d__law_run tk (hr.mono (by decide)) (va_cons (ve_v 0) (va_cons ve_int (va_cons ve_int (va_cons (ve_v 3) (va_cons (ve_v 1) (va_cons ve_int va_nil)))))) rfl (la_cons (la_cons (la_cons (la_cons (la_cons (la_cons la_nil))))))))
      (vb_cons (vs_set 5 nd (ve_op op_addA of_add (ve_v 5) (ve_op (flb := true) op_mulA of_mul (ve_sl (ve_v 5) (vo_some (fl := true) ve_int) vo_none) (ve_op (fla := true) (flb := true) op_mod of_mod (ve_def d__law_draw tk (hr.mono (by decide)) (va_cons (ve_v 0) (va_cons ve_int (va_cons ve_int va_nil))) rfl (la_cons (la_cons (la_cons la_nil)))) ve_int))))
      (vb_cons (vs_set 6 nd (ve_def d__law_run tk (hr.mono (by decide)) (va_cons (ve_v 0) (va_cons ve_int (va_cons ve_int (va_cons (ve_v 3) (va_cons (ve_v 1) (va_cons ve_int va_nil)))))) rfl (la_cons (la_cons (la_cons (la_cons (la_cons (la_cons la_nil))))))))
      (vb_cons (vs_set 7 nd (ve_lst (va_cons (ve_def d__law_made tk (hr.mono (by decide)) (va_cons (ve_v 3) va_nil) rfl (la_cons la_nil)) (va_cons (ve_def d__law_made tk (hr.mono (by decide)) (va_cons (ve_v 4) va_nil) rfl (la_cons la_nil)) va_nil))))
      (vb_cons (vs_for po rfl (vi_range1 (fl := true) B.range (va_cons ve_int va_nil)) (vg_n 8 nd) (vb_cons (vs_if (vt_w (vw_or (vt_not (vt_val (fl := true) (ve_def d__law_asked tk (hr.mono (by decide)) (va_cons (ve_ix (flb := true) (ru1 hr) (ve_v 7) ve_int) (va_cons (ve_v 3) (va_cons (ve_v 5) va_nil))) rfl (la_cons (la_cons (la_cons la_nil)))))) (vw_or1 (vt_not (vt_val (fl := true) (ve_def d__law_asked tk (hr.mono (by decide)) (va_cons (ve_ix (flb := true) (ru1 hr) (ve_v 7) ve_int) (va_cons (ve_v 4) (va_cons (ve_v 5) va_nil))) rfl (la_cons (la_cons (la_cons la_nil))))))))) (vb_one (vs_ret ve_bl)) vb_nil)
      (vb_one (vs_if (vt_w (vw_or (vt_not (vt_val (fl := true) (ve_def d__law_asked tk (hr.mono (by decide)) (va_cons (ve_ix (flb := true) (ru1 hr) (ve_v 7) ve_int) (va_cons (ve_v 4) (va_cons (ve_v 6) va_nil))) rfl (la_cons (la_cons (la_cons la_nil)))))) (vw_or1 (vt_not (vt_val (fl := true) (ve_def d__law_asked tk (hr.mono (by decide)) (va_cons (ve_ix (flb := true) (ru1 hr) (ve_v 7) ve_int) (va_cons (ve_v 3) (va_cons (ve_v 6) va_nil))) rfl (la_cons (la_cons (la_cons la_nil))))))))) (vb_one (vs_ret ve_bl)) vb_nil))))
      (vb_cons (vs_set 9 nd (ve_op op_addA of_add (ve_tup (va_cons (ve_def d__law_unnamed tk (hr.mono (by decide)) (va_cons (ve_ix (flb := true) (ru1 hr) (ve_v 3) ve_int) va_nil) rfl (la_cons la_nil)) va_nil)) (ve_sl (ve_v 5) (vo_some (fl := true) ve_int) vo_none)))
      (vb_cons (vs_if (vt_w (vw_or (vt_not (vt_val (fl := true) (ve_def d__law_bad tk (hr.mono (by decide)) (va_cons (ve_ix (flb := true) (ru1 hr) (ve_v 7) ve_int) (va_cons (ve_op op_addA of_add (ve_v 9) (ve_tup (va_cons ve_str va_nil))) va_nil)) rfl (la_cons (la_cons la_nil))))) (vw_or1 (vt_not (vt_val (fl := true) (ve_def d__law_bad tk (hr.mono (by decide)) (va_cons (ve_ix (flb := true) (ru1 hr) (ve_v 7) ve_int) (va_cons (ve_op op_addA of_add (ve_op op_addA of_add (ve_sl (ve_v 5) vo_none (vo_some (fl := true) ve_int)) (ve_tup (va_cons ve_str va_nil))) (ve_sl (ve_v 5) (vo_some (fl := true) ve_int) vo_none)) va_nil)) rfl (la_cons (la_cons la_nil)))))))) (vb_one (vs_ret ve_bl)) vb_nil)
      (vb_one (vs_ret (ve_and (fla := true) (ve_def d__law_refused tk (hr.mono (by decide)) (va_cons (ve_ix (flb := true) (ru1 hr) (ve_v 7) ve_int) (va_cons (ve_v 9) va_nil)) rfl (la_cons (la_cons la_nil))) (ve_and (fla := true) (ve_def d__law_refused tk (hr.mono (by decide)) (va_cons (ve_ix (flb := true) (ru1 hr) (ve_v 7) ve_int) (va_cons (ve_sl (ve_v 9) vo_none (vo_some (fl := true) ve_int)) va_nil)) rfl (la_cons (la_cons la_nil))) (ve_one (ve_def d__law_asked tk (hr.mono (by decide)) (va_cons (ve_ix (flb := true) (ru1 hr) (ve_v 7) ve_int) (va_cons (ve_v 3) (va_cons (ve_v 5) va_nil))) rfl (la_cons (la_cons (la_cons la_nil))))))))))))))))))))
end
theorem all_of {l : PySem.W.OpenLaw} {w : World} {K : PySem.W.Frag} {h : Heap} {mg : Str → Option Value} {fa : Addr} (X : K.In h) (G : h.Ns mainGlobals mg) (hfa : mg "law" = some (.ref fa)) (T : SaysT tops w.params K) :
    ∃ fd : FuncData, (∀ (s : Shared) (v : Value), BindsTo s fd ⟨[v], []⟩ [("_law_script", v)]) ∧ ∀ base : Heap, K.In base → base.Ns mainGlobals mg → FnOk l.prog w K mg base (L2N.CX l.prog w) 7 fa fd ["_law_script"] (spEnd K) := by
  obtain ⟨oc0, od0, sl0, kV0, dc0, pm0, an0, cd0, ct0, l0, c0, k0⟩ : FnAt K (gA K "_law_draw") "_law_draw" "_law_draw" s__law_draw := T.defn 0 (d := ⟨fun K => (gA K "_law_draw"), "_law_draw", "_law_draw", s__law_draw⟩) rfl
  obtain ⟨oc1, od1, sl1, kV1, dc1, pm1, an1, cd1, ct1, l1, c1, k1⟩ : FnAt K (gA K "_law_names") "_law_names" "_law_names" s__law_names := T.defn 1 (d := ⟨fun K => (gA K "_law_names"), "_law_names", "_law_names", s__law_names⟩) rfl
  obtain ⟨oc2, od2, sl2, kV2, dc2, pm2, an2, cd2, ct2, l2, c2, k2⟩ : FnAt K (gA K "_law_store") "_law_store" "_law_store" s__law_store := T.defn 2 (d := ⟨fun K => (gA K "_law_store"), "_law_store", "_law_store", s__law_store⟩) rfl
  obtain ⟨oc3, od3, sl3, kV3, dc3, pm3, an3, cd3, ct3, l3, c3, k3⟩ : FnAt K (gA K "_law_big_store") "_law_big_store" "_law_big_store" s__law_big_store := T.defn 3 (d := ⟨fun K => (gA K "_law_big_store"), "_law_big_store", "_law_big_store", s__law_big_store⟩) rfl
  obtain ⟨oc4, od4, sl4, kV4, dc4, pm4, an4, cd4, ct4, l4, c4, k4⟩ : FnAt K (gA K "_law_drawn_store") "_law_drawn_store" "_law_drawn_store" s__law_drawn_store := T.defn 4 (d := ⟨fun K => (gA K "_law_drawn_store"), "_law_drawn_store", "_law_drawn_store", s__law_drawn_store⟩) rfl
  obtain ⟨oc5, od5, sl5, kV5, dc5, pm5, an5, cd5, ct5, l5, c5, k5⟩ : FnAt K (gA K "_law_run") "_law_run" "_law_run" s__law_run := T.defn 5 (d := ⟨fun K => (gA K "_law_run"), "_law_run", "_law_run", s__law_run⟩) rfl
  obtain ⟨oc6, od6, sl6, kV6, dc6, pm6, an6, cd6, ct6, l6, c6, k6⟩ : FnAt K (gA K "_law_many") "_law_many" "_law_many" s__law_many := T.defn 6 (d := ⟨fun K => (gA K "_law_many"), "_law_many", "_law_many", s__law_many⟩) rfl
  obtain ⟨oc7, od7, sl7, kV7, dc7, pm7, an7, cd7, ct7, l7, c7, k7⟩ : FnAt K (gA K "is_name") "is_name" "is_name" s_is_name := T.defn 7 (d := ⟨fun K => (gA K "is_name"), "is_name", "is_name", s_is_name⟩) rfl
  obtain ⟨oc8, od8, sl8, kV8, dc8, pm8, an8, cd8, ct8, l8, c8, k8⟩ : FnAt K (gA K "check_store") "check_store" "check_store" s_check_store := T.defn 8 (d := ⟨fun K => (gA K "check_store"), "check_store", "check_store", s_check_store⟩) rfl
  obtain ⟨oc9, od9, sl9, kV9, dc9, pm9, an9, cd9, ct9, l9, c9, k9⟩ : FnAt K (mA K (gA K "Store") "__init__") "__init__" "Store.__init__" s_Store___init__ := T.defn 9 (d := ⟨fun K => (mA K (gA K "Store") "__init__"), "__init__", "Store.__init__", s_Store___init__⟩) rfl
  obtain ⟨oc10, od10, sl10, kV10, dc10, pm10, an10, cd10, ct10, l10, c10, k10⟩ : FnAt K (gA K "_law_moves") "_law_moves" "_law_moves" s__law_moves := T.defn 10 (d := ⟨fun K => (gA K "_law_moves"), "_law_moves", "_law_moves", s__law_moves⟩) rfl
  obtain ⟨oc11, od11, sl11, kV11, dc11, pm11, an11, cd11, ct11, l11, c11, k11⟩ : FnAt K (gA K "_law_made") "_law_made" "_law_made" s__law_made := T.defn 11 (d := ⟨fun K => (gA K "_law_made"), "_law_made", "_law_made", s__law_made⟩) rfl
  obtain ⟨oc12, od12, sl12, kV12, dc12, pm12, an12, cd12, ct12, l12, c12, k12⟩ : FnAt K (gA K "is_step") "is_step" "is_step" s_is_step := T.defn 12 (d := ⟨fun K => (gA K "is_step"), "is_step", "is_step", s_is_step⟩) rfl
  obtain ⟨oc13, od13, sl13, kV13, dc13, pm13, an13, cd13, ct13, l13, c13, k13⟩ : FnAt K (gA K "check_run") "check_run" "check_run" s_check_run := T.defn 13 (d := ⟨fun K => (gA K "check_run"), "check_run", "check_run", s_check_run⟩) rfl
  obtain ⟨oc14, od14, sl14, kV14, dc14, pm14, an14, cd14, ct14, l14, c14, k14⟩ : FnAt K (mA K (gA K "Store") "check_starts") "check_starts" "Store.check_starts" s_Store_check_starts := T.defn 14 (d := ⟨fun K => (mA K (gA K "Store") "check_starts"), "check_starts", "Store.check_starts", s_Store_check_starts⟩) rfl
  obtain ⟨oc15, od15, sl15, kV15, dc15, pm15, an15, cd15, ct15, l15, c15, k15⟩ : FnAt K (mA K (gA K "Store") "end") "end" "Store.end" s_Store_end := T.defn 15 (d := ⟨fun K => (mA K (gA K "Store") "end"), "end", "Store.end", s_Store_end⟩) rfl
  obtain ⟨oc16, od16, sl16, kV16, dc16, pm16, an16, cd16, ct16, l16, c16, k16⟩ : FnAt K (mA K (gA K "Store") "__contains__") "__contains__" "Store.__contains__" s_Store___contains__ := T.defn 16 (d := ⟨fun K => (mA K (gA K "Store") "__contains__"), "__contains__", "Store.__contains__", s_Store___contains__⟩) rfl
  obtain ⟨oc17, od17, sl17, kV17, dc17, pm17, an17, cd17, ct17, l17, c17, k17⟩ : FnAt K (gA K "_law_refused_start") "_law_refused_start" "_law_refused_start" s__law_refused_start := T.defn 17 (d := ⟨fun K => (gA K "_law_refused_start"), "_law_refused_start", "_law_refused_start", s__law_refused_start⟩) rfl
  obtain ⟨oc18, od18, sl18, kV18, dc18, pm18, an18, cd18, ct18, l18, c18, k18⟩ : FnAt K (gA K "_law_refused") "_law_refused" "_law_refused" s__law_refused := T.defn 18 (d := ⟨fun K => (gA K "_law_refused"), "_law_refused", "_law_refused", s__law_refused⟩) rfl
  obtain ⟨oc19, od19, sl19, kV19, dc19, pm19, an19, cd19, ct19, l19, c19, k19⟩ : FnAt K (gA K "_law_trail") "_law_trail" "_law_trail" s__law_trail := T.defn 19 (d := ⟨fun K => (gA K "_law_trail"), "_law_trail", "_law_trail", s__law_trail⟩) rfl
  obtain ⟨oc20, od20, sl20, kV20, dc20, pm20, an20, cd20, ct20, l20, c20, k20⟩ : FnAt K (gA K "_law_is_integer") "_law_is_integer" "_law_is_integer" s__law_is_integer := T.defn 20 (d := ⟨fun K => (gA K "_law_is_integer"), "_law_is_integer", "_law_is_integer", s__law_is_integer⟩) rfl
  obtain ⟨oc21, od21, sl21, kV21, dc21, pm21, an21, cd21, ct21, l21, c21, k21⟩ : FnAt K (mA K (gA K "Store") "walk") "walk" "Store.walk" s_Store_walk := T.defn 21 (d := ⟨fun K => (mA K (gA K "Store") "walk"), "walk", "Store.walk", s_Store_walk⟩) rfl
  obtain ⟨oc22, od22, sl22, kV22, dc22, pm22, an22, cd22, ct22, l22, c22, k22⟩ : FnAt K (gA K "_law_asked") "_law_asked" "_law_asked" s__law_asked := T.defn 22 (d := ⟨fun K => (gA K "_law_asked"), "_law_asked", "_law_asked", s__law_asked⟩) rfl
  obtain ⟨oc23, od23, sl23, kV23, dc23, pm23, an23, cd23, ct23, l23, c23, k23⟩ : FnAt K (gA K "_law_unnamed") "_law_unnamed" "_law_unnamed" s__law_unnamed := T.defn 23 (d := ⟨fun K => (gA K "_law_unnamed"), "_law_unnamed", "_law_unnamed", s__law_unnamed⟩) rfl
  obtain ⟨oc24, od24, sl24, kV24, dc24, pm24, an24, cd24, ct24, l24, c24, k24⟩ : FnAt K (gA K "_law_refused_run") "_law_refused_run" "_law_refused_run" s__law_refused_run := T.defn 24 (d := ⟨fun K => (gA K "_law_refused_run"), "_law_refused_run", "_law_refused_run", s__law_refused_run⟩) rfl
  obtain ⟨oc25, od25, sl25, kV25, dc25, pm25, an25, cd25, ct25, l25, c25, k25⟩ : FnAt K (gA K "_law_bad") "_law_bad" "_law_bad" s__law_bad := T.defn 25 (d := ⟨fun K => (gA K "_law_bad"), "_law_bad", "_law_bad", s__law_bad⟩) rfl
  obtain ⟨oc26, od26, sl26, kV26, dc26, pm26, an26, cd26, ct26, l26, c26, k26⟩ : FnAt K (gA K "law") "law" "law" s_law := T.defn 26 (d := ⟨fun K => (gA K "law"), "law", "law", s_law⟩) rfl
  obtain ⟨nm_BadRun, qn_BadRun, N_BadRun, bs_BadRun, bm_BadRun, sn_BadRun, sb_BadRun, ab_BadRun, co_BadRun, dd_BadRun, m0_BadRun, m1_BadRun, m2_BadRun, m3_BadRun, m5_BadRun, xl_BadRun, xr_BadRun⟩ : ExAt K (gA K "BadRun") := xT_ok (T.test 0 rfl)
  obtain ⟨oc_BadRun, od_BadRun, sl_BadRun, kV_BadRun, dc_BadRun, pm_BadRun, an_BadRun, cd_BadRun, ct_BadRun, xj_BadRun, xq_BadRun, xp_BadRun⟩ : FnAt K (mA K (gA K "BadRun") "__init__") "__init__" "BadRun.__init__" (inClass (topS 3) 0) := T.defn 27 (d := ⟨fun K => (mA K (gA K "BadRun") "__init__"), "__init__", "BadRun.__init__", (inClass (topS 3) 0)⟩) rfl
  obtain ⟨nm_UnknownStart, qn_UnknownStart, N_UnknownStart, bs_UnknownStart, bm_UnknownStart, sn_UnknownStart, sb_UnknownStart, ab_UnknownStart, co_UnknownStart, dd_UnknownStart, m0_UnknownStart, m1_UnknownStart, m2_UnknownStart, m3_UnknownStart, m5_UnknownStart, xl_UnknownStart, xr_UnknownStart⟩ : ExAt K (gA K "UnknownStart") := xT_ok (T.test 1 rfl)
  obtain ⟨oc_UnknownStart, od_UnknownStart, sl_UnknownStart, kV_UnknownStart, dc_UnknownStart, pm_UnknownStart, an_UnknownStart, cd_UnknownStart, ct_UnknownStart, xj_UnknownStart, xq_UnknownStart, xp_UnknownStart⟩ : FnAt K (mA K (gA K "UnknownStart") "__init__") "__init__" "UnknownStart.__init__" (inClass (topS 6) 0) := T.defn 28 (d := ⟨fun K => (mA K (gA K "UnknownStart") "__init__"), "__init__", "UnknownStart.__init__", (inClass (topS 6) 0)⟩) rfl
  have ka_Store : PySem.W.nsIn K mainGlobals "Store" = some (some (.ref (gA K "Store"))) := tR_ok (T.test 2 rfl)
  have kb_Store : PySem.W.plainGet K (gA K "Store") Str.empty = true := T.test 3 rfl
  have kc_Store : PySem.W.hasDictIn K (gA K "Store") = true := T.test 4 rfl
  have kd_Store : PySem.W.plainOver K (gA K "Store") = true := T.test 5 rfl
  have ke_Store : PySem.W.findIn K (.ref (gA K "Store")) "__setattr__" = some (some (.builtin "object.__setattr__")) := tB_ok (T.test 6 rfl)
  have kf_Store : PySem.W.makesIn K (gA K "Store") = true := T.test 7 rfl
  have kg_Store : PySem.W.keepIn K (.ref (gA K "Store")) = true := T.test 8 rfl
  have kn_Store_content_count : PySem.W.findIn K (.ref (gA K "Store")) "content_count" = some none := tN_ok (T.test 9 rfl)
  have kn_Store_start_contents : PySem.W.findIn K (.ref (gA K "Store")) "start_contents" = some none := tN_ok (T.test 10 rfl)
  have kn_Store_leads : PySem.W.findIn K (.ref (gA K "Store")) "leads" = some none := tN_ok (T.test 11 rfl)
  have a0 : PySem.W.nsIn K mainGlobals "_law_draw" = some (some (.ref (gA K "_law_draw"))) := tR_ok (T.test 12 rfl)
  have a1 : PySem.W.nsIn K mainGlobals "_law_names" = some (some (.ref (gA K "_law_names"))) := tR_ok (T.test 13 rfl)
  have a2 : PySem.W.nsIn K mainGlobals "_law_store" = some (some (.ref (gA K "_law_store"))) := tR_ok (T.test 14 rfl)
  have a3 : PySem.W.nsIn K mainGlobals "_law_big_store" = some (some (.ref (gA K "_law_big_store"))) := tR_ok (T.test 15 rfl)
  have a4 : PySem.W.nsIn K mainGlobals "_law_drawn_store" = some (some (.ref (gA K "_law_drawn_store"))) := tR_ok (T.test 16 rfl)
  have a5 : PySem.W.nsIn K mainGlobals "_law_run" = some (some (.ref (gA K "_law_run"))) := tR_ok (T.test 17 rfl)
  have a6 : PySem.W.nsIn K mainGlobals "_law_many" = some (some (.ref (gA K "_law_many"))) := tR_ok (T.test 18 rfl)
  have a7 : PySem.W.nsIn K mainGlobals "is_name" = some (some (.ref (gA K "is_name"))) := tR_ok (T.test 19 rfl)
  have a8 : PySem.W.nsIn K mainGlobals "check_store" = some (some (.ref (gA K "check_store"))) := tR_ok (T.test 20 rfl)
  have m9 : PySem.W.findIn K (.ref (gA K "Store")) "__init__" = some (some (.ref (mA K (gA K "Store") "__init__"))) := tR_ok (T.test 21 rfl)
  have n9 : PySem.W.isFn K (.ref (mA K (gA K "Store") "__init__")) = true := T.test 22 rfl
  have a10 : PySem.W.nsIn K mainGlobals "_law_moves" = some (some (.ref (gA K "_law_moves"))) := tR_ok (T.test 23 rfl)
  have a11 : PySem.W.nsIn K mainGlobals "_law_made" = some (some (.ref (gA K "_law_made"))) := tR_ok (T.test 24 rfl)
  have a12 : PySem.W.nsIn K mainGlobals "is_step" = some (some (.ref (gA K "is_step"))) := tR_ok (T.test 25 rfl)
  have a13 : PySem.W.nsIn K mainGlobals "check_run" = some (some (.ref (gA K "check_run"))) := tR_ok (T.test 26 rfl)
  have m14 : PySem.W.findIn K (.ref (gA K "Store")) "check_starts" = some (some (.ref (mA K (gA K "Store") "check_starts"))) := tR_ok (T.test 27 rfl)
  have n14 : PySem.W.isFn K (.ref (mA K (gA K "Store") "check_starts")) = true := T.test 28 rfl
  have m15 : PySem.W.findIn K (.ref (gA K "Store")) "end" = some (some (.ref (mA K (gA K "Store") "end"))) := tR_ok (T.test 29 rfl)
  have n15 : PySem.W.isFn K (.ref (mA K (gA K "Store") "end")) = true := T.test 30 rfl
  have m16 : PySem.W.findIn K (.ref (gA K "Store")) "__contains__" = some (some (.ref (mA K (gA K "Store") "__contains__"))) := tR_ok (T.test 31 rfl)
  have n16 : PySem.W.isFn K (.ref (mA K (gA K "Store") "__contains__")) = true := T.test 32 rfl
  have a17 : PySem.W.nsIn K mainGlobals "_law_refused_start" = some (some (.ref (gA K "_law_refused_start"))) := tR_ok (T.test 33 rfl)
  have a18 : PySem.W.nsIn K mainGlobals "_law_refused" = some (some (.ref (gA K "_law_refused"))) := tR_ok (T.test 34 rfl)
  have a19 : PySem.W.nsIn K mainGlobals "_law_trail" = some (some (.ref (gA K "_law_trail"))) := tR_ok (T.test 35 rfl)
  have a20 : PySem.W.nsIn K mainGlobals "_law_is_integer" = some (some (.ref (gA K "_law_is_integer"))) := tR_ok (T.test 36 rfl)
  have m21 : PySem.W.findIn K (.ref (gA K "Store")) "walk" = some (some (.ref (mA K (gA K "Store") "walk"))) := tR_ok (T.test 37 rfl)
  have n21 : PySem.W.isFn K (.ref (mA K (gA K "Store") "walk")) = true := T.test 38 rfl
  have a22 : PySem.W.nsIn K mainGlobals "_law_asked" = some (some (.ref (gA K "_law_asked"))) := tR_ok (T.test 39 rfl)
  have a23 : PySem.W.nsIn K mainGlobals "_law_unnamed" = some (some (.ref (gA K "_law_unnamed"))) := tR_ok (T.test 40 rfl)
  have a24 : PySem.W.nsIn K mainGlobals "_law_refused_run" = some (some (.ref (gA K "_law_refused_run"))) := tR_ok (T.test 41 rfl)
  have a25 : PySem.W.nsIn K mainGlobals "_law_bad" = some (some (.ref (gA K "_law_bad"))) := tR_ok (T.test 42 rfl)
  have a26 : PySem.W.nsIn K mainGlobals "law" = some (some (.ref (gA K "law"))) := tR_ok (T.test 43 rfl)
  have z0 : PySem.W.nsIn K mainGlobals "int" = some none := tN_ok (T.test 44 rfl)
  have z1 : PySem.W.nsIn K mainGlobals "len" = some none := tN_ok (T.test 45 rfl)
  have z2 : PySem.W.nsIn K mainGlobals "range" = some none := tN_ok (T.test 46 rfl)
  have z3 : PySem.W.nsIn K mainGlobals "list" = some none := tN_ok (T.test 47 rfl)
  have z4 : PySem.W.nsIn K mainGlobals "str" = some none := tN_ok (T.test 48 rfl)
  have z5 : PySem.W.nsIn K mainGlobals "sorted" = some none := tN_ok (T.test 49 rfl)
  have z6 : PySem.W.nsIn K mainGlobals "dict" = some none := tN_ok (T.test 50 rfl)
  have z7 : PySem.W.nsIn K mainGlobals "isinstance" = some none := tN_ok (T.test 51 rfl)
  have z8 : PySem.W.nsIn K mainGlobals "ValueError" = some none := tN_ok (T.test 52 rfl)
  have z9 : PySem.W.nsIn K mainGlobals "bool" = some none := tN_ok (T.test 53 rfl)
  have z10 : PySem.W.nsIn K mainGlobals "tuple" = some none := tN_ok (T.test 54 rfl)
  have uC0 : PySem.W.nsIn K mainGlobals "LONGEST_NAME" = some (some (.int 12 (kT (PySem.W.nsIn K mainGlobals "LONGEST_NAME")))) := tI_ok (T.test 55 rfl)
  have uC1 : PySem.W.nsIn K mainGlobals "LETTERS" = some (some (.str "abcdefghijklmnopqrstuvwxyz" (kT (PySem.W.nsIn K mainGlobals "LETTERS")))) := tS_ok (T.test 56 rfl)
  have uC2 : PySem.W.nsIn K mainGlobals "DIGITS" = some (some (.str "0123456789" (kT (PySem.W.nsIn K mainGlobals "DIGITS")))) := tS_ok (T.test 57 rfl)
  have xa_BadStore : PySem.W.nsIn K mainGlobals "BadStore" = some (some (.ref (gA K "BadStore"))) := tR_ok (T.test 58 rfl)
  have xe_BadStore : PySem.W.subIn K (.ref (gA K "BadStore")) (.type "BaseException") = some true := tO_ok (T.test 59 rfl)
  have xt_BadStore : PySem.W.typeIn K (.ref (gA K "BadStore")) = some (.type "type") := tT_ok (T.test 60 rfl)
  have xc_BadStore : PySem.W.isClsIn K (gA K "BadStore") = true := T.test 61 rfl
  have ys_BadStore : PySem.W.subIn K (.ref (gA K "BadStore")) (.ref (gA K "BadStore")) = some true := tO_ok (T.test 62 rfl)
  have xa_BadRun : PySem.W.nsIn K mainGlobals "BadRun" = some (some (.ref (gA K "BadRun"))) := tR_ok (T.test 63 rfl)
  have xe_BadRun : PySem.W.subIn K (.ref (gA K "BadRun")) (.type "BaseException") = some true := tO_ok (T.test 64 rfl)
  have xt_BadRun : PySem.W.typeIn K (.ref (gA K "BadRun")) = some (.type "type") := tT_ok (T.test 65 rfl)
  have xc_BadRun : PySem.W.isClsIn K (gA K "BadRun") = true := T.test 66 rfl
  have ys_BadRun : PySem.W.subIn K (.ref (gA K "BadRun")) (.ref (gA K "BadRun")) = some true := tO_ok (T.test 67 rfl)
  have xa_UnknownStart : PySem.W.nsIn K mainGlobals "UnknownStart" = some (some (.ref (gA K "UnknownStart"))) := tR_ok (T.test 68 rfl)
  have xe_UnknownStart : PySem.W.subIn K (.ref (gA K "UnknownStart")) (.type "BaseException") = some true := tO_ok (T.test 69 rfl)
  have xt_UnknownStart : PySem.W.typeIn K (.ref (gA K "UnknownStart")) = some (.type "type") := tT_ok (T.test 70 rfl)
  have xc_UnknownStart : PySem.W.isClsIn K (gA K "UnknownStart") = true := T.test 71 rfl
  have ys_UnknownStart : PySem.W.subIn K (.ref (gA K "UnknownStart")) (.ref (gA K "UnknownStart")) = some true := tO_ok (T.test 72 rfl)
  have xa_PatchError : PySem.W.nsIn K mainGlobals "PatchError" = some (some (.ref (gA K "PatchError"))) := tR_ok (T.test 73 rfl)
  have xe_PatchError : PySem.W.subIn K (.ref (gA K "PatchError")) (.type "BaseException") = some true := tO_ok (T.test 74 rfl)
  have xt_PatchError : PySem.W.typeIn K (.ref (gA K "PatchError")) = some (.type "type") := tT_ok (T.test 75 rfl)
  have xc_PatchError : PySem.W.isClsIn K (gA K "PatchError") = true := T.test 76 rfl
  have ys_PatchError : PySem.W.subIn K (.ref (gA K "PatchError")) (.ref (gA K "PatchError")) = some true := tO_ok (T.test 77 rfl)
  have xa_BadFact : PySem.W.nsIn K mainGlobals "BadFact" = some (some (.ref (gA K "BadFact"))) := tR_ok (T.test 78 rfl)
  have xe_BadFact : PySem.W.subIn K (.ref (gA K "BadFact")) (.type "BaseException") = some true := tO_ok (T.test 79 rfl)
  have xt_BadFact : PySem.W.typeIn K (.ref (gA K "BadFact")) = some (.type "type") := tT_ok (T.test 80 rfl)
  have xc_BadFact : PySem.W.isClsIn K (gA K "BadFact") = true := T.test 81 rfl
  have ys_BadFact : PySem.W.subIn K (.ref (gA K "BadFact")) (.ref (gA K "BadFact")) = some true := tO_ok (T.test 82 rfl)
  have xa_NoStore : PySem.W.nsIn K mainGlobals "NoStore" = some (some (.ref (gA K "NoStore"))) := tR_ok (T.test 83 rfl)
  have xe_NoStore : PySem.W.subIn K (.ref (gA K "NoStore")) (.type "BaseException") = some true := tO_ok (T.test 84 rfl)
  have xt_NoStore : PySem.W.typeIn K (.ref (gA K "NoStore")) = some (.type "type") := tT_ok (T.test 85 rfl)
  have xc_NoStore : PySem.W.isClsIn K (gA K "NoStore") = true := T.test 86 rfl
  have ys_NoStore : PySem.W.subIn K (.ref (gA K "NoStore")) (.ref (gA K "NoStore")) = some true := tO_ok (T.test 87 rfl)
  have xa_NotForced : PySem.W.nsIn K mainGlobals "NotForced" = some (some (.ref (gA K "NotForced"))) := tR_ok (T.test 88 rfl)
  have xe_NotForced : PySem.W.subIn K (.ref (gA K "NotForced")) (.type "BaseException") = some true := tO_ok (T.test 89 rfl)
  have xt_NotForced : PySem.W.typeIn K (.ref (gA K "NotForced")) = some (.type "type") := tT_ok (T.test 90 rfl)
  have xc_NotForced : PySem.W.isClsIn K (gA K "NotForced") = true := T.test 91 rfl
  have ys_NotForced : PySem.W.subIn K (.ref (gA K "NotForced")) (.ref (gA K "NotForced")) = some true := tO_ok (T.test 92 rfl)
  have xa_BadLine : PySem.W.nsIn K mainGlobals "BadLine" = some (some (.ref (gA K "BadLine"))) := tR_ok (T.test 93 rfl)
  have xe_BadLine : PySem.W.subIn K (.ref (gA K "BadLine")) (.type "BaseException") = some true := tO_ok (T.test 94 rfl)
  have xt_BadLine : PySem.W.typeIn K (.ref (gA K "BadLine")) = some (.type "type") := tT_ok (T.test 95 rfl)
  have xc_BadLine : PySem.W.isClsIn K (gA K "BadLine") = true := T.test 96 rfl
  have ys_BadLine : PySem.W.subIn K (.ref (gA K "BadLine")) (.ref (gA K "BadLine")) = some true := tO_ok (T.test 97 rfl)
  have xa_NoFact : PySem.W.nsIn K mainGlobals "NoFact" = some (some (.ref (gA K "NoFact"))) := tR_ok (T.test 98 rfl)
  have xe_NoFact : PySem.W.subIn K (.ref (gA K "NoFact")) (.type "BaseException") = some true := tO_ok (T.test 99 rfl)
  have xt_NoFact : PySem.W.typeIn K (.ref (gA K "NoFact")) = some (.type "type") := tT_ok (T.test 100 rfl)
  have xc_NoFact : PySem.W.isClsIn K (gA K "NoFact") = true := T.test 101 rfl
  have ys_NoFact : PySem.W.subIn K (.ref (gA K "NoFact")) (.ref (gA K "NoFact")) = some true := tO_ok (T.test 102 rfl)
  have xk_BadStore : PySem.W.keepIn K (.ref (gA K "BadStore")) = true := T.test 103 rfl
  have xg_BadStore : PySem.W.findIn K (.ref (gA K "BadStore")) "__getattribute__" = some (some (.builtin "BaseException.__getattribute__")) := tB_ok (T.test 104 rfl)
  have xh_BadStore : PySem.W.findIn K (.ref (gA K "BadStore")) "__getattr__" = some none := tN_ok (T.test 105 rfl)
  have xd_BadStore : PySem.W.hasDictIn K (gA K "BadStore") = true := T.test 106 rfl
  have xo_BadStore : PySem.W.findIn K (.ref (gA K "BadStore")) "__class__" = some (some (.builtin "object.__class__")) := tB_ok (T.test 107 rfl)
  have xm_BadStore : PySem.W.mroIn K (gA K "BadStore") (.type "object") = some true := tO_ok (T.test 108 rfl)
  have xz_BadStore : PySem.W.excIn K (gA K "BadStore") [.type "ValueError", .type "Exception", .type "BaseException", .type "object"] "ValueError.__new__" = true := T.test 109 rfl
  have yp_BadStore_PatchError : PySem.W.subIn K (.ref (gA K "BadStore")) (.ref (gA K "PatchError")) = some true := tO_ok (T.test 110 rfl)
  have yp_BadStore_BadRun : PySem.W.subIn K (.ref (gA K "BadStore")) (.ref (gA K "BadRun")) = some false := tO_ok (T.test 111 rfl)
  have yp_BadStore_BadFact : PySem.W.subIn K (.ref (gA K "BadStore")) (.ref (gA K "BadFact")) = some false := tO_ok (T.test 112 rfl)
  have yp_BadStore_NoStore : PySem.W.subIn K (.ref (gA K "BadStore")) (.ref (gA K "NoStore")) = some false := tO_ok (T.test 113 rfl)
  have yp_BadStore_NotForced : PySem.W.subIn K (.ref (gA K "BadStore")) (.ref (gA K "NotForced")) = some false := tO_ok (T.test 114 rfl)
  have yp_BadStore_BadLine : PySem.W.subIn K (.ref (gA K "BadStore")) (.ref (gA K "BadLine")) = some false := tO_ok (T.test 115 rfl)
  have yp_BadStore_NoFact : PySem.W.subIn K (.ref (gA K "BadStore")) (.ref (gA K "NoFact")) = some false := tO_ok (T.test 116 rfl)
  have yp_BadStore_UnknownStart : PySem.W.subIn K (.ref (gA K "BadStore")) (.ref (gA K "UnknownStart")) = some false := tO_ok (T.test 117 rfl)
  have xk_BadRun : PySem.W.keepIn K (.ref (gA K "BadRun")) = true := T.test 118 rfl
  have xg_BadRun : PySem.W.findIn K (.ref (gA K "BadRun")) "__getattribute__" = some (some (.builtin "BaseException.__getattribute__")) := tB_ok (T.test 119 rfl)
  have xh_BadRun : PySem.W.findIn K (.ref (gA K "BadRun")) "__getattr__" = some none := tN_ok (T.test 120 rfl)
  have xd_BadRun : PySem.W.hasDictIn K (gA K "BadRun") = true := T.test 121 rfl
  have xo_BadRun : PySem.W.findIn K (.ref (gA K "BadRun")) "__class__" = some (some (.builtin "object.__class__")) := tB_ok (T.test 122 rfl)
  have xm_BadRun : PySem.W.mroIn K (gA K "BadRun") (.type "object") = some true := tO_ok (T.test 123 rfl)
  have xs_BadRun : PySem.W.findIn K (.ref (gA K "BadRun")) "__setattr__" = some (some (.builtin "object.__setattr__")) := tB_ok (T.test 124 rfl)
  have xi_BadRun : PySem.W.findIn K (.ref (gA K "BadRun")) "__init__" = some (some (.ref (mA K (gA K "BadRun") "__init__"))) := tR_ok (T.test 125 rfl)
  have xf_BadRun : PySem.W.typeIn K (.ref (mA K (gA K "BadRun") "__init__")) = some (.type "function") := tT_ok (T.test 126 rfl)
  have xn_BadRun_run : PySem.W.findIn K (.ref (gA K "BadRun")) "run" = some none := tN_ok (T.test 127 rfl)
  have yp_BadRun_PatchError : PySem.W.subIn K (.ref (gA K "BadRun")) (.ref (gA K "PatchError")) = some true := tO_ok (T.test 128 rfl)
  have yp_BadRun_BadFact : PySem.W.subIn K (.ref (gA K "BadRun")) (.ref (gA K "BadFact")) = some false := tO_ok (T.test 129 rfl)
  have yp_BadRun_BadStore : PySem.W.subIn K (.ref (gA K "BadRun")) (.ref (gA K "BadStore")) = some false := tO_ok (T.test 130 rfl)
  have yp_BadRun_NoStore : PySem.W.subIn K (.ref (gA K "BadRun")) (.ref (gA K "NoStore")) = some false := tO_ok (T.test 131 rfl)
  have yp_BadRun_NotForced : PySem.W.subIn K (.ref (gA K "BadRun")) (.ref (gA K "NotForced")) = some false := tO_ok (T.test 132 rfl)
  have yp_BadRun_BadLine : PySem.W.subIn K (.ref (gA K "BadRun")) (.ref (gA K "BadLine")) = some false := tO_ok (T.test 133 rfl)
  have yp_BadRun_NoFact : PySem.W.subIn K (.ref (gA K "BadRun")) (.ref (gA K "NoFact")) = some false := tO_ok (T.test 134 rfl)
  have yp_BadRun_UnknownStart : PySem.W.subIn K (.ref (gA K "BadRun")) (.ref (gA K "UnknownStart")) = some false := tO_ok (T.test 135 rfl)
  have xk_UnknownStart : PySem.W.keepIn K (.ref (gA K "UnknownStart")) = true := T.test 136 rfl
  have xg_UnknownStart : PySem.W.findIn K (.ref (gA K "UnknownStart")) "__getattribute__" = some (some (.builtin "BaseException.__getattribute__")) := tB_ok (T.test 137 rfl)
  have xh_UnknownStart : PySem.W.findIn K (.ref (gA K "UnknownStart")) "__getattr__" = some none := tN_ok (T.test 138 rfl)
  have xd_UnknownStart : PySem.W.hasDictIn K (gA K "UnknownStart") = true := T.test 139 rfl
  have xo_UnknownStart : PySem.W.findIn K (.ref (gA K "UnknownStart")) "__class__" = some (some (.builtin "object.__class__")) := tB_ok (T.test 140 rfl)
  have xm_UnknownStart : PySem.W.mroIn K (gA K "UnknownStart") (.type "object") = some true := tO_ok (T.test 141 rfl)
  have xs_UnknownStart : PySem.W.findIn K (.ref (gA K "UnknownStart")) "__setattr__" = some (some (.builtin "object.__setattr__")) := tB_ok (T.test 142 rfl)
  have xi_UnknownStart : PySem.W.findIn K (.ref (gA K "UnknownStart")) "__init__" = some (some (.ref (mA K (gA K "UnknownStart") "__init__"))) := tR_ok (T.test 143 rfl)
  have xf_UnknownStart : PySem.W.typeIn K (.ref (mA K (gA K "UnknownStart") "__init__")) = some (.type "function") := tT_ok (T.test 144 rfl)
  have xn_UnknownStart_name : PySem.W.findIn K (.ref (gA K "UnknownStart")) "name" = some none := tN_ok (T.test 145 rfl)
  have yp_UnknownStart_PatchError : PySem.W.subIn K (.ref (gA K "UnknownStart")) (.ref (gA K "PatchError")) = some true := tO_ok (T.test 146 rfl)
  have yp_UnknownStart_BadRun : PySem.W.subIn K (.ref (gA K "UnknownStart")) (.ref (gA K "BadRun")) = some false := tO_ok (T.test 147 rfl)
  have yp_UnknownStart_BadFact : PySem.W.subIn K (.ref (gA K "UnknownStart")) (.ref (gA K "BadFact")) = some false := tO_ok (T.test 148 rfl)
  have yp_UnknownStart_BadStore : PySem.W.subIn K (.ref (gA K "UnknownStart")) (.ref (gA K "BadStore")) = some false := tO_ok (T.test 149 rfl)
  have yp_UnknownStart_NoStore : PySem.W.subIn K (.ref (gA K "UnknownStart")) (.ref (gA K "NoStore")) = some false := tO_ok (T.test 150 rfl)
  have yp_UnknownStart_NotForced : PySem.W.subIn K (.ref (gA K "UnknownStart")) (.ref (gA K "NotForced")) = some false := tO_ok (T.test 151 rfl)
  have yp_UnknownStart_BadLine : PySem.W.subIn K (.ref (gA K "UnknownStart")) (.ref (gA K "BadLine")) = some false := tO_ok (T.test 152 rfl)
  have yp_UnknownStart_NoFact : PySem.W.subIn K (.ref (gA K "UnknownStart")) (.ref (gA K "NoFact")) = some false := tO_ok (T.test 153 rfl)
  have xo1 : PySem.W.specialIn K (.builtin "object.__class__") "__get__" = some (some (.builtin "getset_descriptor.__get__")) := tB_ok (T.test 154 rfl)
  have xo2 : PySem.W.takesIn K (.builtin "object.__class__") = some true := tO_ok (T.test 155 rfl)
  have yv_BadStore_ValueError : PySem.W.subIn K (.ref (gA K "BadStore")) (.type "ValueError") = some true := tO_ok (T.test 156 rfl)
  have yv_BadRun_ValueError : PySem.W.subIn K (.ref (gA K "BadRun")) (.type "ValueError") = some true := tO_ok (T.test 157 rfl)
  have yv_UnknownStart_ValueError : PySem.W.subIn K (.ref (gA K "UnknownStart")) (.type "ValueError") = some true := tO_ok (T.test 158 rfl)
  have g_Store := PySem.W.mg_of X G ka_Store
  have cl_Store : Cls K (gA K "Store") := ⟨kb_Store, kc_Store, kd_Store, ke_Store⟩
  have R0 : Raw K mg "_law_draw" s__law_draw ["_law_script", "_law_k", "_law_j"] := raw_mk X G a0 l0 c0 k0 (fun _ _ _ _ _ _ us hl => match us, hl with | [_, _, _], _ => rfl)
  have R1 : Raw K mg "_law_names" s__law_names ["_law_script", "_law_k", "_law_many_here"] := raw_mk X G a1 l1 c1 k1 (fun _ _ _ _ _ _ us hl => match us, hl with | [_, _, _], _ => rfl)
  have R2 : Raw K mg "_law_store" s__law_store ["_law_script", "_law_k", "_law_starts", "_law_patches"] := raw_mk X G a2 l2 c2 k2 (fun _ _ _ _ _ _ us hl => match us, hl with | [_, _, _, _], _ => rfl)
  have R3 : Raw K mg "_law_big_store" s__law_big_store ["_law_script", "_law_k", "_law_starts", "_law_patches"] := raw_mk X G a3 l3 c3 k3 (fun _ _ _ _ _ _ us hl => match us, hl with | [_, _, _, _], _ => rfl)
  have R4 : Raw K mg "_law_drawn_store" s__law_drawn_store ["_law_script", "_law_k", "_law_starts", "_law_patches"] := raw_mk X G a4 l4 c4 k4 (fun _ _ _ _ _ _ us hl => match us, hl with | [_, _, _, _], _ => rfl)
  have R5 : Raw K mg "_law_run" s__law_run ["_law_script", "_law_k", "_law_j", "_law_store_here", "_law_patches", "_law_most"] := raw_mk X G a5 l5 c5 k5 (fun _ _ _ _ _ _ us hl => match us, hl with | [_, _, _, _, _, _], _ => rfl)
  have R6 : Raw K mg "_law_many" s__law_many ["_law_script", "_law_j"] := raw_mk X G a6 l6 c6 k6 (fun _ _ _ _ _ _ us hl => match us, hl with | [_, _], _ => rfl)
  have R7 : Raw K mg "is_name" s_is_name ["text"] := raw_mk X G a7 l7 c7 k7 (fun _ _ _ _ _ _ us hl => match us, hl with | [_], _ => rfl)
  have R8 : Raw K mg "check_store" s_check_store ["contents", "starts", "moves"] := raw_mk X G a8 l8 c8 k8 (fun _ _ _ _ _ _ us hl => match us, hl with | [_, _, _], _ => rfl)
  have F9 := fun_mk (st := s_Store___init__) l9 c9 k9
  have R9 : RawK K mg "Store" "Store.__init__" s_Store___init__ ["self", "contents", "starts", "moves"] := ⟨(gA K "Store"), (mA K (gA K "Store") "__init__"), _, g_Store, ⟨kf_Store, m9, n9, kg_Store⟩, F9, F9.binds (fun _ _ _ _ _ _ us hl => match us, hl with | [_, _, _, _], _ => rfl)⟩
  have R10 : Raw K mg "_law_moves" s__law_moves ["_law_store_here"] := raw_mk X G a10 l10 c10 k10 (fun _ _ _ _ _ _ us hl => match us, hl with | [_], _ => rfl)
  have R11 : Raw K mg "_law_made" s__law_made ["_law_store_here"] := raw_mk X G a11 l11 c11 k11 (fun _ _ _ _ _ _ us hl => match us, hl with | [_], _ => rfl)
  have R12 : Raw K mg "is_step" s_is_step ["text"] := raw_mk X G a12 l12 c12 k12 (fun _ _ _ _ _ _ us hl => match us, hl with | [_], _ => rfl)
  have R13 : Raw K mg "check_run" s_check_run ["run"] := raw_mk X G a13 l13 c13 k13 (fun _ _ _ _ _ _ us hl => match us, hl with | [_], _ => rfl)
  have F14 := fun_mk (st := s_Store_check_starts) l14 c14 k14
  have R14 : RawM K mg "Store" "check_starts" "Store.check_starts" s_Store_check_starts ["self", "runs"] := ⟨(gA K "Store"), (mA K (gA K "Store") "check_starts"), _, g_Store, cl_Store, ⟨m14, n14, k14⟩, F14, F14.binds (fun _ _ _ _ _ _ us hl => match us, hl with | [_, _], _ => rfl)⟩
  have F15 := fun_mk (st := s_Store_end) l15 c15 k15
  have R15 : RawM K mg "Store" "end" "Store.end" s_Store_end ["self", "run"] := ⟨(gA K "Store"), (mA K (gA K "Store") "end"), _, g_Store, cl_Store, ⟨m15, n15, k15⟩, F15, F15.binds (fun _ _ _ _ _ _ us hl => match us, hl with | [_, _], _ => rfl)⟩
  have F16 := fun_mk (st := s_Store___contains__) l16 c16 k16
  have R16 : RawM K mg "Store" "__contains__" "Store.__contains__" s_Store___contains__ ["self", "run"] := ⟨(gA K "Store"), (mA K (gA K "Store") "__contains__"), _, g_Store, cl_Store, ⟨m16, n16, k16⟩, F16, F16.binds (fun _ _ _ _ _ _ us hl => match us, hl with | [_, _], _ => rfl)⟩
  have R17 : Raw K mg "_law_refused_start" s__law_refused_start ["_law_e", "_law_name"] := raw_mk X G a17 l17 c17 k17 (fun _ _ _ _ _ _ us hl => match us, hl with | [_, _], _ => rfl)
  have R18 : Raw K mg "_law_refused" s__law_refused ["_law_made_here", "_law_run_here"] := raw_mk X G a18 l18 c18 k18 (fun _ _ _ _ _ _ us hl => match us, hl with | [_, _], _ => rfl)
  have R19 : Raw K mg "_law_trail" s__law_trail ["_law_store_here", "_law_run_here"] := raw_mk X G a19 l19 c19 k19 (fun _ _ _ _ _ _ us hl => match us, hl with | [_, _], _ => rfl)
  have R20 : Raw K mg "_law_is_integer" s__law_is_integer ["_law_value"] := raw_mk X G a20 l20 c20 k20 (fun _ _ _ _ _ _ us hl => match us, hl with | [_], _ => rfl)
  have F21 := fun_mk (st := s_Store_walk) l21 c21 k21
  have R21 : RawM K mg "Store" "walk" "Store.walk" s_Store_walk ["self", "run"] := ⟨(gA K "Store"), (mA K (gA K "Store") "walk"), _, g_Store, cl_Store, ⟨m21, n21, k21⟩, F21, F21.binds (fun _ _ _ _ _ _ us hl => match us, hl with | [_, _], _ => rfl)⟩
  have R22 : Raw K mg "_law_asked" s__law_asked ["_law_made_here", "_law_store_here", "_law_run_here"] := raw_mk X G a22 l22 c22 k22 (fun _ _ _ _ _ _ us hl => match us, hl with | [_, _, _], _ => rfl)
  have R23 : Raw K mg "_law_unnamed" s__law_unnamed ["_law_names_here"] := raw_mk X G a23 l23 c23 k23 (fun _ _ _ _ _ _ us hl => match us, hl with | [_], _ => rfl)
  have R24 : Raw K mg "_law_refused_run" s__law_refused_run ["_law_e", "_law_run_here"] := raw_mk X G a24 l24 c24 k24 (fun _ _ _ _ _ _ us hl => match us, hl with | [_, _], _ => rfl)
  have R25 : Raw K mg "_law_bad" s__law_bad ["_law_made_here", "_law_run_here"] := raw_mk X G a25 l25 c25 k25 (fun _ _ _ _ _ _ us hl => match us, hl with | [_, _], _ => rfl)
  have R26 : Raw K mg "law" s_law ["_law_script"] := raw_mk X G a26 l26 c26 k26 (fun _ _ _ _ _ _ us hl => match us, hl with | [_], _ => rfl)
  have B : Blt mg := ⟨PySem.W.mg_none_of X G z0, PySem.W.mg_none_of X G z1, PySem.W.mg_none_of X G z2, PySem.W.mg_none_of X G z3, PySem.W.mg_none_of X G z4, PySem.W.mg_none_of X G z5, PySem.W.mg_none_of X G z6, PySem.W.mg_none_of X G z7, PySem.W.mg_none_of X G z8, PySem.W.mg_none_of X G z9, PySem.W.mg_none_of X G z10⟩
  have C_LONGEST_NAME := PySem.W.mg_of X G uC0
  have C_LETTERS := PySem.W.mg_of X G uC1
  have C_DIGITS := PySem.W.mg_of X G uC2
  have g_BadStore := PySem.W.mg_of X G xa_BadStore
  have r_BadStore : RCls K (gA K "BadStore") := ⟨xc_BadStore, xt_BadStore, xe_BadStore, ys_BadStore⟩
  have g_BadRun := PySem.W.mg_of X G xa_BadRun
  have r_BadRun : RCls K (gA K "BadRun") := ⟨xc_BadRun, xt_BadRun, xe_BadRun, ys_BadRun⟩
  have g_UnknownStart := PySem.W.mg_of X G xa_UnknownStart
  have r_UnknownStart : RCls K (gA K "UnknownStart") := ⟨xc_UnknownStart, xt_UnknownStart, xe_UnknownStart, ys_UnknownStart⟩
  have g_PatchError := PySem.W.mg_of X G xa_PatchError
  have r_PatchError : RCls K (gA K "PatchError") := ⟨xc_PatchError, xt_PatchError, xe_PatchError, ys_PatchError⟩
  have g_BadFact := PySem.W.mg_of X G xa_BadFact
  have r_BadFact : RCls K (gA K "BadFact") := ⟨xc_BadFact, xt_BadFact, xe_BadFact, ys_BadFact⟩
  have g_NoStore := PySem.W.mg_of X G xa_NoStore
  have r_NoStore : RCls K (gA K "NoStore") := ⟨xc_NoStore, xt_NoStore, xe_NoStore, ys_NoStore⟩
  have g_NotForced := PySem.W.mg_of X G xa_NotForced
  have r_NotForced : RCls K (gA K "NotForced") := ⟨xc_NotForced, xt_NotForced, xe_NotForced, ys_NotForced⟩
  have g_BadLine := PySem.W.mg_of X G xa_BadLine
  have r_BadLine : RCls K (gA K "BadLine") := ⟨xc_BadLine, xt_BadLine, xe_BadLine, ys_BadLine⟩
  have g_NoFact := PySem.W.mg_of X G xa_NoFact
  have r_NoFact : RCls K (gA K "NoFact") := ⟨xc_NoFact, xt_NoFact, xe_NoFact, ys_NoFact⟩
  have x_BadStore : XCls K mg "BadStore" (gA K "BadStore") := ⟨g_BadStore, xc_BadStore, xg_BadStore, xh_BadStore, xe_BadStore, xt_BadStore, xd_BadStore, xo_BadStore, xm_BadStore⟩
  have Z_BadStore : ExZ K mg "BadStore" := ⟨(gA K "BadStore"), g_BadStore, xz_BadStore, xk_BadStore, xe_BadStore, xt_BadStore⟩
  have yp_BadStore_BadStore := ys_BadStore
  have x_BadRun : XCls K mg "BadRun" (gA K "BadRun") := ⟨g_BadRun, xc_BadRun, xg_BadRun, xh_BadRun, xe_BadRun, xt_BadRun, xd_BadRun, xo_BadRun, xm_BadRun⟩
  have o_BadRun : OexC K (gA K "BadRun") := oexC_of xl_BadRun xr_BadRun xs_BadRun xe_BadRun xt_BadRun xk_BadRun
  have sc_BadRun : FnScope ["self", "run"] ["self", "run"] (defScope (inClass (topS 3) 0)) := ⟨rfl, rfl, rfl, by decide +kernel, rfl, by decide +kernel, by decide +kernel⟩
  have F_BadRun := fun_mk (st := (inClass (topS 3) 0)) xj_BadRun xq_BadRun xp_BadRun
  have yp_BadRun_BadRun := ys_BadRun
  have x_UnknownStart : XCls K mg "UnknownStart" (gA K "UnknownStart") := ⟨g_UnknownStart, xc_UnknownStart, xg_UnknownStart, xh_UnknownStart, xe_UnknownStart, xt_UnknownStart, xd_UnknownStart, xo_UnknownStart, xm_UnknownStart⟩
  have o_UnknownStart : OexC K (gA K "UnknownStart") := oexC_of xl_UnknownStart xr_UnknownStart xs_UnknownStart xe_UnknownStart xt_UnknownStart xk_UnknownStart
  have sc_UnknownStart : FnScope ["self", "name"] ["self", "name"] (defScope (inClass (topS 6) 0)) := ⟨rfl, rfl, rfl, by decide +kernel, rfl, by decide +kernel, by decide +kernel⟩
  have F_UnknownStart := fun_mk (st := (inClass (topS 6) 0)) xj_UnknownStart xq_UnknownStart xp_UnknownStart
  have yp_UnknownStart_UnknownStart := ys_UnknownStart
  refine ⟨PySem.W.fnOf "law" "law" (defArgs s_law) (defBody s_law) (defScope s_law) .none kV26 dc26 pm26 an26 cd26 ct26, fun s v => .of_eq rfl, fun base _ _ => ?_⟩
  have E_BadRun : ExI l.prog w K mg base "BadRun" ["run"] := ⟨(gA K "BadRun"), (mA K (gA K "BadRun") "__init__"), _, ["self", "run"], g_BadRun, o_BadRun, xi_BadRun, xf_BadRun, F_BadRun.binds (fun _ _ _ _ _ _ us hl => match us, hl with | [_, _], _ => rfl), init_one F_BadRun sc_BadRun rfl o_BadRun xn_BadRun_run rfl rfl rfl rfl⟩
  have E_UnknownStart : ExI l.prog w K mg base "UnknownStart" ["name"] := ⟨(gA K "UnknownStart"), (mA K (gA K "UnknownStart") "__init__"), _, ["self", "name"], g_UnknownStart, o_UnknownStart, xi_UnknownStart, xf_UnknownStart, F_UnknownStart.binds (fun _ _ _ _ _ _ us hl => match us, hl with | [_, _], _ => rfl), init_one F_UnknownStart sc_UnknownStart rfl o_UnknownStart xn_UnknownStart_name rfl rfl rfl rfl⟩
  have d__law_draw : DefOk l.prog w K mg base "_law_draw" 1 ["_law_script", "_law_k", "_law_j"] 3 m__law_draw := v__law_draw B R0
  have d__law_names : DefOk l.prog w K mg base "_law_names" 2 ["_law_script", "_law_k", "_law_many_here"] 3 m__law_names := v__law_names B R1 d__law_draw
  have d__law_store : DefOk l.prog w K mg base "_law_store" 2 ["_law_script", "_law_k", "_law_starts", "_law_patches"] 4 m__law_store := v__law_store B R2 d__law_draw
  have d__law_big_store : DefOk l.prog w K mg base "_law_big_store" 2 ["_law_script", "_law_k", "_law_starts", "_law_patches"] 4 m__law_big_store := v__law_big_store B R3 d__law_draw
  have d__law_drawn_store : DefOk l.prog w K mg base "_law_drawn_store" 3 ["_law_script", "_law_k", "_law_starts", "_law_patches"] 4 m__law_drawn_store := v__law_drawn_store B R4 d__law_draw d__law_big_store d__law_store
  have d__law_run : DefOk l.prog w K mg base "_law_run" 2 ["_law_script", "_law_k", "_law_j", "_law_store_here", "_law_patches", "_law_most"] 6 m__law_run := v__law_run B R5 d__law_draw
  have d__law_many : DefOk l.prog w K mg base "_law_many" 2 ["_law_script", "_law_j"] 2 m__law_many := v__law_many B R6 d__law_draw
  have d_is_name : DefOk l.prog w K mg base "is_name" 1 ["text"] 1 m_is_name := v_is_name B R7 C_LONGEST_NAME C_LETTERS C_DIGITS
  have d_check_store : DefOk l.prog w K mg base "check_store" 2 ["contents", "starts", "moves"] 3 m_check_store := v_check_store B R8 Z_BadStore d_is_name
  have I_Store : InitOk l.prog w K mg base "Store" 3 ["self", "contents", "starts", "moves"] 4 m_Store___init__ := v_Store___init__ B R9 ⟨(gA K "Store"), g_Store, cl_Store, (fs_cons kn_Store_content_count (fs_cons kn_Store_start_contents (fs_cons kn_Store_leads fs_nil)))⟩ d_check_store
  have d__law_moves : DefOk l.prog w K mg base "_law_moves" 1 ["_law_store_here"] 1 m__law_moves := v__law_moves B R10
  have d__law_made : DefOk l.prog w K mg base "_law_made" 5 ["_law_store_here"] 1 m__law_made := v__law_made B R11 d__law_moves I_Store
  have d_is_step : DefOk l.prog w K mg base "is_step" 2 ["text"] 1 m_is_step := v_is_step B R12 d_is_name
  have d_check_run : DefOk l.prog w K mg base "check_run" 3 ["run"] 1 m_check_run := v_check_run B R13 E_BadRun d_is_name d_is_step
  have M_Store_check_starts : MethOk l.prog w K mg base "Store" "check_starts" 3 ["self", "runs"] 2 m_Store_check_starts := v_Store_check_starts B R14 ⟨(gA K "Store"), g_Store, cl_Store, (fs_cons kn_Store_content_count (fs_cons kn_Store_start_contents (fs_cons kn_Store_leads fs_nil)))⟩ E_UnknownStart
  have M_Store_end : MethOk l.prog w K mg base "Store" "end" 4 ["self", "run"] 2 m_Store_end := v_Store_end B R15 ⟨(gA K "Store"), g_Store, cl_Store, (fs_cons kn_Store_content_count (fs_cons kn_Store_start_contents (fs_cons kn_Store_leads fs_nil)))⟩ d_check_run M_Store_check_starts
  have M_Store___contains__ : MethOk l.prog w K mg base "Store" "__contains__" 5 ["self", "run"] 2 m_Store___contains__ := v_Store___contains__ B R16 ⟨(gA K "Store"), g_Store, cl_Store, (fs_cons kn_Store_content_count (fs_cons kn_Store_start_contents (fs_cons kn_Store_leads fs_nil)))⟩ d_check_run M_Store_end
  have c__law_refused_start : DefOkC l.prog w K mg base "_law_refused_start" 1 ["_law_e", "_law_name"] 2 m__law_refused_start := v__law_refused_start B R17 ⟨xo1, xo2⟩ g_PatchError (cat_cons ⟨(gA K "BadStore"), x_BadStore, r_PatchError.kit yp_BadStore_PatchError⟩ (cat_cons ⟨(gA K "BadRun"), x_BadRun, r_PatchError.kit yp_BadRun_PatchError⟩ (cat_cons ⟨(gA K "UnknownStart"), x_UnknownStart, r_PatchError.kit yp_UnknownStart_PatchError⟩ cat_nil))) (cat_cons ⟨(gA K "BadStore"), x_BadStore, kit_type (by decide +kernel) yv_BadStore_ValueError⟩ (cat_cons ⟨(gA K "BadRun"), x_BadRun, kit_type (by decide +kernel) yv_BadRun_ValueError⟩ (cat_cons ⟨(gA K "UnknownStart"), x_UnknownStart, kit_type (by decide +kernel) yv_UnknownStart_ValueError⟩ cat_nil))) g_BadRun g_BadFact g_BadStore g_NoStore g_NotForced g_BadLine g_NoFact (cat_cons ⟨(gA K "BadStore"), x_BadStore, (kits_no (r_BadRun.kit yp_BadStore_BadRun) (kits_no (r_BadFact.kit yp_BadStore_BadFact) (kits_yes (r_BadStore.kit yp_BadStore_BadStore))))⟩ (cat_cons ⟨(gA K "BadRun"), x_BadRun, (kits_yes (r_BadRun.kit yp_BadRun_BadRun))⟩ (cat_cons ⟨(gA K "UnknownStart"), x_UnknownStart, (kits_no (r_BadRun.kit yp_UnknownStart_BadRun) (kits_no (r_BadFact.kit yp_UnknownStart_BadFact) (kits_no (r_BadStore.kit yp_UnknownStart_BadStore) (kits_no (r_NoStore.kit yp_UnknownStart_NoStore) (kits_no (r_NotForced.kit yp_UnknownStart_NotForced) (kits_no (r_BadLine.kit yp_UnknownStart_BadLine) (kits_no (r_NoFact.kit yp_UnknownStart_NoFact) kitAny_nil)))))))⟩ cat_nil))) (has_cons ⟨(gA K "UnknownStart"), x_UnknownStart, xn_UnknownStart_name⟩ has_nil)
  have d__law_refused_start := c__law_refused_start.ok
  have d__law_refused : DefOk l.prog w K mg base "_law_refused" 6 ["_law_made_here", "_law_run_here"] 2 m__law_refused := v__law_refused B R18 g_UnknownStart (cat_cons ⟨.ref (gA K "BadStore"), g_BadStore, r_UnknownStart.exm yp_BadStore_UnknownStart⟩ (cat_cons ⟨.ref (gA K "BadRun"), g_BadRun, r_UnknownStart.exm yp_BadRun_UnknownStart⟩ (cat_cons ⟨.ref (gA K "UnknownStart"), g_UnknownStart, r_UnknownStart.exm yp_UnknownStart_UnknownStart⟩ cat_nil))) c__law_refused_start M_Store___contains__ M_Store_end
  have d__law_trail : DefOk l.prog w K mg base "_law_trail" 1 ["_law_store_here", "_law_run_here"] 2 m__law_trail := v__law_trail B R19
  have d__law_is_integer : DefOk l.prog w K mg base "_law_is_integer" 1 ["_law_value"] 1 m__law_is_integer := v__law_is_integer B R20
  have M_Store_walk : MethOkY l.prog w K mg base "Store" "walk" 1 ["self", "run"] 2 m_Store_walk := v_Store_walk B R21 ⟨(gA K "Store"), g_Store, cl_Store, (fs_cons kn_Store_content_count (fs_cons kn_Store_start_contents (fs_cons kn_Store_leads fs_nil)))⟩
  have d__law_asked : DefOk l.prog w K mg base "_law_asked" 6 ["_law_made_here", "_law_store_here", "_law_run_here"] 3 m__law_asked := v__law_asked B R22 d__law_trail d__law_is_integer M_Store_walk M_Store_end M_Store___contains__
  have d__law_unnamed : DefOk l.prog w K mg base "_law_unnamed" 1 ["_law_names_here"] 1 m__law_unnamed := v__law_unnamed B R23
  have c__law_refused_run : DefOkC l.prog w K mg base "_law_refused_run" 1 ["_law_e", "_law_run_here"] 2 m__law_refused_run := v__law_refused_run B R24 ⟨xo1, xo2⟩ g_PatchError (cat_cons ⟨(gA K "BadStore"), x_BadStore, r_PatchError.kit yp_BadStore_PatchError⟩ (cat_cons ⟨(gA K "BadRun"), x_BadRun, r_PatchError.kit yp_BadRun_PatchError⟩ (cat_cons ⟨(gA K "UnknownStart"), x_UnknownStart, r_PatchError.kit yp_UnknownStart_PatchError⟩ cat_nil))) (cat_cons ⟨(gA K "BadStore"), x_BadStore, kit_type (by decide +kernel) yv_BadStore_ValueError⟩ (cat_cons ⟨(gA K "BadRun"), x_BadRun, kit_type (by decide +kernel) yv_BadRun_ValueError⟩ (cat_cons ⟨(gA K "UnknownStart"), x_UnknownStart, kit_type (by decide +kernel) yv_UnknownStart_ValueError⟩ cat_nil))) g_BadFact g_BadStore g_UnknownStart g_NoStore g_NotForced g_BadLine g_NoFact (cat_cons ⟨(gA K "BadStore"), x_BadStore, (kits_no (r_BadFact.kit yp_BadStore_BadFact) (kits_yes (r_BadStore.kit yp_BadStore_BadStore)))⟩ (cat_cons ⟨(gA K "BadRun"), x_BadRun, (kits_no (r_BadFact.kit yp_BadRun_BadFact) (kits_no (r_BadStore.kit yp_BadRun_BadStore) (kits_no (r_UnknownStart.kit yp_BadRun_UnknownStart) (kits_no (r_NoStore.kit yp_BadRun_NoStore) (kits_no (r_NotForced.kit yp_BadRun_NotForced) (kits_no (r_BadLine.kit yp_BadRun_BadLine) (kits_no (r_NoFact.kit yp_BadRun_NoFact) kitAny_nil)))))))⟩ (cat_cons ⟨(gA K "UnknownStart"), x_UnknownStart, (kits_no (r_BadFact.kit yp_UnknownStart_BadFact) (kits_no (r_BadStore.kit yp_UnknownStart_BadStore) (kits_yes (r_UnknownStart.kit yp_UnknownStart_UnknownStart))))⟩ cat_nil))) (has_cons ⟨(gA K "BadRun"), x_BadRun, xn_BadRun_run⟩ has_nil)
  have d__law_refused_run := c__law_refused_run.ok
  have d__law_bad : DefOk l.prog w K mg base "_law_bad" 6 ["_law_made_here", "_law_run_here"] 2 m__law_bad := v__law_bad B R25 g_BadRun (cat_cons ⟨.ref (gA K "BadStore"), g_BadStore, r_BadRun.exm yp_BadStore_BadRun⟩ (cat_cons ⟨.ref (gA K "BadRun"), g_BadRun, r_BadRun.exm yp_BadRun_BadRun⟩ (cat_cons ⟨.ref (gA K "UnknownStart"), g_UnknownStart, r_BadRun.exm yp_UnknownStart_BadRun⟩ cat_nil))) c__law_refused_run M_Store_end M_Store___contains__
  have d_law : DefOk l.prog w K mg base "law" 7 ["_law_script"] 1 m_law := v_law B R26 d__law_names d__law_many d__law_drawn_store d__law_run d__law_draw d__law_made d__law_asked d__law_unnamed d__law_bad d__law_refused
  exact law_fin d_law hfa (PySem.W.mg_of X G a26) l26 m_law_ok
end VL

open PySem PySem.W PyProof.Rows in
set_option maxRecDepth 100000 in
set_option maxHeartbeats 0 in
theorem PySem.Challenge.cw_patchfacts_k12_runs_in_a_store_holds : PySem.Challenge.rw_patchfacts_k12_runs_in_a_store.Holds := by
  w_on
  o_law
  refine HandSHeadRun.head_any (r := VL.rowR) (q := VL.seeQ) (H := VL.hookT 12 VL.tops) (ob := VL.obT 12 VL.tops) (M := 30000) (loose := VL.freeN) (kwd := [])
    (d := HandSHeadRun.topDef VL.rowR.prog 39) (VL.obT_eq 12 VL.tops) (by kernel_rfl) (fun s => by kernel_rfl) VL.run_ok (by kernel_rfl) (by kernel_rfl)
    (by kernel_rfl) (by rfl) (by first | assumption | decide +kernel) (by decide +kernel) ⟨rfl, rfl, rfl, rfl, rfl, by decide +kernel⟩ ?hw ?hc
  case hw => w_witness2
  case hc =>
    refine VL.walk_ofT (l := PySem.Challenge.rw_patchfacts_k12_runs_in_a_store) (n := 63) (k := 7) (x := "_law_script") (CX := fun w => L2N.CX (PySem.Challenge.rw_patchfacts_k12_runs_in_a_store).prog w) rfl (by decide) (by kernel_rfl) ⟨rfl, by decide, by decide⟩ (by decide) ?F (fun _ H s e s' h => VL.cx_end _ _ H s e s' h)
    intro w mg fa h Y G h0
    obtain ⟨K, X, T⟩ := Y
    have e : (HandSHeadRun.topDef VL.rowR.prog 39).name = ("law" : PySem.Str) := by kernel_rfl
    rw [e] at h0
    obtain ⟨fd, hb, hF⟩ := VL.all_of (l := PySem.Challenge.rw_patchfacts_k12_runs_in_a_store) (w := w) X G h0 T
    exact ⟨K, fd, X, hb, hF⟩
